import PyProof.Rows.All
import Wide.All
import OpenK.AllK
import Wide.FinOn
import HandS.ForMost
import HandS.Evl
import HandS.IsInst
import HandS.Defaults
import HandS.Star
import HandS.Property
import HandS.Zip
import HandS.DictComp
import HandS.SetBool
import HandS.NoneIn
import HandS.Small
import HandS.Style
import HandS.Strs
import HandS.SetFor
import PySem.Challenge.RW_leastlooks_k69_whole_games_with_lies
import HandS.More
import HandS.Walk
import KE.GoesMore
import PyProof.Rows.SetObj
import KE.KDictKeyed
import HandS.Conv
import HandS.Codes
import HandS.Exc
import HandS.Head0
import HandS.Head1
import HandS.Head2
import HandS.HeadEnd
import HandS.HeadHook1
import HandS.HeadHook2
set_option Elab.async false
set_option linter.all false
set_option maxRecDepth 100000
set_option maxHeartbeats 0
/-! Leastlooks, the plain law: looks with lies over counts. No program here. -/
namespace LM

/-- the inputs of n positions, ascending -/
def ins : Nat → List (List Bool)
  | 0 => [[]]
  | n + 1 => (ins n).flatMap fun t => [t ++ [false], t ++ [true]]
theorem mem_ins : ∀ (n : Nat) (t : List Bool), t ∈ ins n ↔ t.length = n
  | 0, t => by
    show t ∈ [[]] ↔ _
    rw [List.mem_singleton, List.length_eq_zero_iff]
  | n + 1, t => by
    unfold ins
    rw [List.mem_flatMap]
    constructor
    · rintro ⟨u, hu, ht⟩
      have hl := (mem_ins n u).mp hu
      simp only [List.mem_cons, List.not_mem_nil, or_false] at ht
      rcases ht with rfl | rfl <;> simp [hl]
    · intro hl
      have hne : t ≠ [] := by rintro rfl; simp at hl
      refine ⟨t.dropLast, (mem_ins n _).mpr (by rw [List.length_dropLast]; omega), ?_⟩
      have e := List.dropLast_concat_getLast hne
      rw [← e]
      cases t.getLast hne <;> simp

/-- wrong looks of an input: a pair tells how often 0 and how often 1 was told -/
def wrong : List Bool → List (Nat × Nat) → Nat
  | b :: bs, c :: cs => (if b then c.1 else c.2) + wrong bs cs
  | _, _ => 0
def opn (n l : Nat) (cs : List (Nat × Nat)) : List (List Bool) := (ins n).filter fun t => decide (wrong t cs ≤ l)
def bump (c : Nat × Nat) (b : Bool) : Nat × Nat := if b then (c.1, c.2 + 1) else (c.1 + 1, c.2)
def more (cs : List (Nat × Nat)) (p : Nat) (b : Bool) : List (Nat × Nat) := cs.take p ++ (bump (cs.getD p (0, 0)) b :: cs.drop (p + 1))
theorem more_len {cs : List (Nat × Nat)} {p : Nat} {b : Bool} (h : p < cs.length) : (more cs p b).length = cs.length := by
  unfold more
  rw [List.length_append, List.length_take, List.length_cons, List.length_drop]
  omega
theorem wrong_more : ∀ {t : List Bool} {cs : List (Nat × Nat)} {p : Nat} {b : Bool}, p < cs.length → t.length = cs.length →
    wrong t (more cs p b) = wrong t cs + (if t.getD p false = b then 0 else 1)
  | x :: t, c :: cs, 0, b, _, _ => by
    show wrong (x :: t) (bump c b :: cs) = wrong (x :: t) (c :: cs) + _
    unfold wrong bump
    cases x <;> cases b <;> simp <;> omega
  | x :: t, c :: cs, p + 1, b, h, e => by
    have ih := wrong_more (t := t) (cs := cs) (p := p) (b := b) (by simpa using h) (by simpa using e)
    show wrong (x :: t) (c :: more cs p b) = wrong (x :: t) (c :: cs) + _
    show (if x = true then c.1 else c.2) + wrong t (more cs p b) = (if x = true then c.1 else c.2) + wrong t cs + _
    rw [ih, List.getD_cons_succ]
    omega
  | [], _ :: _, _, _, _, e => by simp at e
  | _, [], _, _, h, _ => by simp at h
theorem mem_opn {n l : Nat} {cs : List (Nat × Nat)} {t : List Bool} : t ∈ opn n l cs ↔ t.length = n ∧ wrong t cs ≤ l := by
  unfold opn
  rw [List.mem_filter, mem_ins, decide_eq_true_eq]

section
variable (f : List Bool → Bool)
/-- all of them have one answer -/
def same (ts : List (List Bool)) : Bool := ts.all fun t => f t == f (ts.headD [])
end
section
variable {f : List Bool → Bool}
theorem same_iff {ts : List (List Bool)} : same f ts = true ↔ ∀ t ∈ ts, ∀ u ∈ ts, f t = f u := by
  unfold same
  rw [List.all_eq_true]
  constructor
  · intro h t ht u hu
    have h1 := h t ht
    have h2 := h u hu
    simp only [beq_iff_eq] at h1 h2
    rw [h1, h2]
  · intro h t ht
    cases ts with
    | nil => cases ht
    | cons a r =>
      rw [beq_iff_eq]
      exact h t ht a List.mem_cons_self
theorem same_nil : same f [] = true := rfl
end

/-- the positions at which both bits stand -/
def split (n : Nat) (ts : List (List Bool)) : List Nat := (List.range n).filter fun p => ts.any (fun t => t.getD p false) && ts.any (fun t => !t.getD p false)
theorem mem_split {n : Nat} {ts : List (List Bool)} {p : Nat} : p ∈ split n ts ↔ p < n ∧ ∀ b : Bool, ∃ t ∈ ts, t.getD p false = b := by
  unfold split
  rw [List.mem_filter, List.mem_range, Bool.and_eq_true, List.any_eq_true, List.any_eq_true]
  constructor
  · rintro ⟨h, ⟨t, ht, e⟩, ⟨u, hu, e2⟩⟩
    refine ⟨h, fun b => ?_⟩
    cases b with
    | true => exact ⟨t, ht, e⟩
    | false => exact ⟨u, hu, by simpa using e2⟩
  · rintro ⟨h, k⟩
    obtain ⟨t, ht, e⟩ := k true
    obtain ⟨u, hu, e2⟩ := k false
    exact ⟨h, ⟨t, ht, e⟩, ⟨u, hu, by rw [e2]; rfl⟩⟩
/-- where answers differ, some position is split -/
theorem split_ne {f : List Bool → Bool} {n : Nat} {ts : List (List Bool)} (hl : ∀ t ∈ ts, t.length = n) (h : same f ts = false) : split n ts ≠ [] := by
  intro e
  have key : ∀ t ∈ ts, ∀ u ∈ ts, t = u := by
    intro t ht u hu
    apply List.ext_getElem
    · rw [hl t ht, hl u hu]
    · intro p h1 h2
      have hp : p < n := by rw [hl t ht] at h1; exact h1
      have e1 : t.getD p false = t[p] := by simp [List.getD_eq_getElem?_getD, h1]
      have e2 : u.getD p false = u[p] := by simp [List.getD_eq_getElem?_getD, h2]
      rw [← e1, ← e2]
      cases hq : t.getD p false <;> cases hr : u.getD p false
      · rfl
      · have : p ∈ split n ts := mem_split.mpr ⟨hp, fun b => by cases b; exact ⟨t, ht, hq⟩; exact ⟨u, hu, hr⟩⟩
        rw [e] at this; cases this
      · have : p ∈ split n ts := mem_split.mpr ⟨hp, fun b => by cases b; exact ⟨u, hu, hr⟩; exact ⟨t, ht, hq⟩⟩
        rw [e] at this; cases this
      · rfl
  have : same f ts = true := same_iff.mpr fun t ht u hu => by rw [key t ht u hu]
  rw [this] at h; cases h

/-- the least of a list -/
def minL : List Nat → Nat
  | [] => 0
  | [x] => x
  | x :: y :: r => min x (minL (y :: r))
theorem minL_mem : ∀ {xs : List Nat}, xs ≠ [] → minL xs ∈ xs
  | [], h => absurd rfl h
  | [x], _ => List.mem_cons_self
  | x :: y :: r, _ => by
    have ih := minL_mem (xs := y :: r) (by simp)
    show min x (minL (y :: r)) ∈ _
    by_cases h : x ≤ minL (y :: r)
    · rw [Nat.min_eq_left h]; exact List.mem_cons_self
    · rw [Nat.min_eq_right (by omega)]; exact List.mem_cons_of_mem _ ih
theorem minL_le : ∀ {xs : List Nat} {x : Nat}, x ∈ xs → minL xs ≤ x
  | [x], y, h => by
    have e : y = x := by simpa using h
    rw [e]; exact Nat.le_refl _
  | x :: y :: r, z, h => by
    show min x (minL (y :: r)) ≤ z
    rcases List.mem_cons.mp h with rfl | h
    · exact Nat.min_le_left _ _
    · exact Nat.le_trans (Nat.min_le_right _ _) (minL_le h)
theorem minL_unique {xs : List Nat} {m : Nat} (h : m ∈ xs) (hle : ∀ x ∈ xs, m ≤ x) : minL xs = m := by
  have h1 := minL_le h
  have h2 := hle _ (minL_mem (xs := xs) (by rintro rfl; cases h))
  omega

/-- the looks, by fuel -/
def LF (f : List Bool → Bool) (n l : Nat) : Nat → List (Nat × Nat) → Nat
  | 0, _ => 0
  | k + 1, cs => if same f (opn n l cs) then 0 else minL ((split n (opn n l cs)).map fun p => 1 + max (LF f n l k (more cs p false)) (LF f n l k (more cs p true)))
def meas (n l : Nat) (cs : List (Nat × Nat)) : Nat := ((ins n).map fun t => l + 1 - wrong t cs).sum
def L (f : List Bool → Bool) (n l : Nat) (cs : List (Nat × Nat)) : Nat := LF f n l (meas n l cs) cs

theorem sum_le {α : Type} {u v : α → Nat} : ∀ {xs : List α}, (∀ x ∈ xs, u x ≤ v x) → (xs.map u).sum ≤ (xs.map v).sum
  | [], _ => Nat.le_refl _
  | x :: r, h => by
    have ih := sum_le (xs := r) fun y hy => h y (List.mem_cons_of_mem _ hy)
    have h0 := h x List.mem_cons_self
    simp only [List.map_cons, List.sum_cons]
    omega
theorem sum_lt {α : Type} {u v : α → Nat} : ∀ {xs : List α} {y : α}, (∀ x ∈ xs, u x ≤ v x) → y ∈ xs → u y < v y → (xs.map u).sum < (xs.map v).sum
  | x :: r, y, h, hy, hlt => by
    have h0 := h x List.mem_cons_self
    have hr := sum_le (xs := r) fun y hy => h y (List.mem_cons_of_mem _ hy)
    simp only [List.map_cons, List.sum_cons]
    rcases List.mem_cons.mp hy with rfl | hy
    · omega
    · have ih := sum_lt (xs := r) (fun y hy => h y (List.mem_cons_of_mem _ hy)) hy hlt
      omega
  | [], _, _, hy, _ => by cases hy
theorem le_sum {α : Type} {u : α → Nat} : ∀ {xs : List α} {y : α}, y ∈ xs → u y ≤ (xs.map u).sum
  | x :: r, y, hy => by
    simp only [List.map_cons, List.sum_cons]
    rcases List.mem_cons.mp hy with rfl | hy
    · omega
    · have ih := le_sum (u := u) (xs := r) hy
      omega
  | [], _, hy => by cases hy

section
variable {f : List Bool → Bool} {n l : Nat} {cs : List (Nat × Nat)} {p : Nat} {b : Bool}
theorem meas_lt (hc : cs.length = n) (hp : p ∈ split n (opn n l cs)) : meas n l (more cs p b) < meas n l cs := by
  obtain ⟨hpn, hb⟩ := mem_split.mp hp
  obtain ⟨t, ht, et⟩ := hb (!b)
  obtain ⟨htl, htw⟩ := mem_opn.mp ht
  unfold meas
  refine sum_lt (y := t) (fun u hu => ?_) ((mem_ins n t).mpr htl) ?_
  · have hul := (mem_ins n u).mp hu
    rw [wrong_more (by omega) (by omega)]
    omega
  · rw [wrong_more (by omega) (by omega), et]
    have : ¬ ((!b) = b) := by cases b <;> simp
    rw [if_neg this]
    omega
theorem meas_zero (h : meas n l cs = 0) : opn n l cs = [] := by
  cases e : opn n l cs with
  | nil => rfl
  | cons t r =>
    have ht : t ∈ opn n l cs := by rw [e]; exact List.mem_cons_self
    obtain ⟨htl, htw⟩ := mem_opn.mp ht
    have := le_sum (u := fun t => l + 1 - wrong t cs) ((mem_ins n t).mpr htl)
    unfold meas at h
    rw [h] at this
    have h2 : l + 1 - wrong t cs ≤ 0 := this
    omega
theorem opn_len : ∀ t ∈ opn n l cs, t.length = n := fun t ht => (mem_opn.mp ht).1
end
theorem LF_fuel {f : List Bool → Bool} {n l : Nat} : ∀ (k j : Nat) (cs : List (Nat × Nat)), cs.length = n → meas n l cs ≤ k → meas n l cs ≤ j → LF f n l k cs = LF f n l j cs := by
  intro k
  induction k with
  | zero =>
    intro j cs hc hk _
    have e := meas_zero (Nat.le_zero.mp hk)
    cases j with
    | zero => rfl
    | succ j =>
      show 0 = if _ then _ else _
      rw [e, same_nil, if_pos rfl]
  | succ k ih =>
    intro j cs hc hk hj
    cases j with
    | zero =>
      have e := meas_zero (Nat.le_zero.mp hj)
      show (if _ then _ else _) = 0
      rw [e, same_nil, if_pos rfl]
    | succ j =>
      show (if _ then _ else _) = (if _ then _ else _)
      cases hs : same f (opn n l cs) with
      | true => rfl
      | false =>
        rw [if_neg Bool.false_ne_true, if_neg Bool.false_ne_true]
        congr 1
        refine List.map_congr_left fun p hp => ?_
        have hpn := (mem_split.mp hp).1
        have h1 : ∀ b, meas n l (more cs p b) < meas n l cs := fun b => meas_lt hc hp
        have hl : ∀ b, (more cs p b).length = n := fun b => by rw [more_len (by omega), hc]
        rw [ih j _ (hl false) (by have := h1 false; omega) (by have := h1 false; omega), ih j _ (hl true) (by have := h1 true; omega) (by have := h1 true; omega)]
section
variable {f : List Bool → Bool} {n l : Nat} {cs : List (Nat × Nat)} {p : Nat} {b : Bool}
theorem L_fuel (k : Nat) (hc : cs.length = n) (hk : meas n l cs ≤ k) : LF f n l k cs = L f n l cs := LF_fuel k _ cs hc hk (Nat.le_refl _)
/-- THE EQUATION -/
theorem L_eq (hc : cs.length = n) : L f n l cs = if same f (opn n l cs) then 0 else minL ((split n (opn n l cs)).map fun p => 1 + max (L f n l (more cs p false)) (L f n l (more cs p true))) := by
  rw [← L_fuel (meas n l cs + 1) hc (Nat.le_succ _)]
  show (if _ then _ else _) = _
  cases hs : same f (opn n l cs) with
  | true => rfl
  | false =>
    rw [if_neg Bool.false_ne_true, if_neg Bool.false_ne_true]
    congr 1
    refine List.map_congr_left fun p hp => ?_
    have hpn := (mem_split.mp hp).1
    have h1 : ∀ b, meas n l (more cs p b) < meas n l cs := fun b => meas_lt hc hp
    have hl : ∀ b, (more cs p b).length = n := fun b => by rw [more_len (by omega), hc]
    rw [L_fuel _ (hl false) (by have := h1 false; omega), L_fuel _ (hl true) (by have := h1 true; omega)]
theorem L_same (hc : cs.length = n) (h : same f (opn n l cs) = true) : L f n l cs = 0 := by rw [L_eq hc, h, if_pos rfl]
theorem L_le (hc : cs.length = n) (h : same f (opn n l cs) = false) (hp : p ∈ split n (opn n l cs)) : L f n l cs ≤ 1 + max (L f n l (more cs p false)) (L f n l (more cs p true)) := by
  rw [L_eq hc, h, if_neg Bool.false_ne_true]
  exact minL_le (List.mem_map.mpr ⟨p, hp, rfl⟩)
theorem L_at (hc : cs.length = n) (h : same f (opn n l cs) = false) : ∃ p ∈ split n (opn n l cs), L f n l cs = 1 + max (L f n l (more cs p false)) (L f n l (more cs p true)) := by
  have hne : (split n (opn n l cs)).map (fun p => 1 + max (L f n l (more cs p false)) (L f n l (more cs p true))) ≠ [] := by
    intro e
    exact split_ne opn_len h (List.map_eq_nil_iff.mp e)
  obtain ⟨p, hp, e⟩ := List.mem_map.mp (minL_mem hne)
  refine ⟨p, hp, ?_⟩
  rw [L_eq hc, h, if_neg Bool.false_ne_true, ← e]
theorem L_pos (hc : cs.length = n) (h : same f (opn n l cs) = false) : 0 < L f n l cs := by
  obtain ⟨p, _, e⟩ := L_at hc h
  omega
theorem L_zero (hc : cs.length = n) : L f n l cs = 0 ↔ same f (opn n l cs) = true := by
  constructor
  · intro h
    cases hs : same f (opn n l cs) with
    | true => rfl
    | false => have := L_pos hc hs; omega
  · exact L_same hc
/-- behind a look at a split position some input stays open -/
theorem split_open (hc : cs.length = n) (hp : p ∈ split n (opn n l cs)) : opn n l (more cs p b) ≠ [] := by
  obtain ⟨hpn, hb⟩ := mem_split.mp hp
  obtain ⟨t, ht, et⟩ := hb b
  obtain ⟨htl, htw⟩ := mem_opn.mp ht
  intro e
  have : t ∈ opn n l (more cs p b) := mem_opn.mpr ⟨htl, by rw [wrong_more (by omega) (by omega), if_pos et]; exact htw⟩
  rw [e] at this
  cases this
/-- where a position isn't split, all open inputs have one bit there -/
theorem nosplit (hp : p < n) (h : ¬ p ∈ split n (opn n l cs)) : ∃ b : Bool, ∀ t ∈ opn n l cs, t.getD p false = b := by
  by_cases h1 : ∃ t ∈ opn n l cs, t.getD p false = true
  · obtain ⟨t, ht, e⟩ := h1
    refine ⟨true, fun u hu => ?_⟩
    cases hq : u.getD p false with
    | true => rfl
    | false => exact absurd (mem_split.mpr ⟨hp, fun b => by cases b; exact ⟨u, hu, hq⟩; exact ⟨t, ht, e⟩⟩) h
  · refine ⟨false, fun u hu => ?_⟩
    cases hq : u.getD p false with
    | false => rfl
    | true => exact absurd ⟨u, hu, hq⟩ h1
end

/-- MORE ROOM, MORE LOOKS: each input open in the first is open in the second with at least as much left -/
theorem L_mono {f : List Bool → Bool} {n l l' : Nat} : ∀ (k : Nat) (cs cs' : List (Nat × Nat)), meas n l' cs' ≤ k → cs.length = n → cs'.length = n →
    (∀ t : List Bool, t.length = n → wrong t cs ≤ l → wrong t cs' + l ≤ wrong t cs + l') → L f n l cs ≤ L f n l' cs' := by
  intro k
  induction k with
  | zero =>
    intro cs cs' hk hc hc' hR
    have e := meas_zero (Nat.le_zero.mp hk)
    rw [L_same hc]
    · exact Nat.zero_le _
    · refine same_iff.mpr fun t ht => ?_
      obtain ⟨h1, h2⟩ := mem_opn.mp ht
      have : t ∈ opn n l' cs' := mem_opn.mpr ⟨h1, by have := hR t h1 h2; omega⟩
      rw [e] at this; cases this
  | succ k ih =>
    intro cs cs' hk hc hc' hR
    cases hs : same f (opn n l cs) with
    | true => rw [L_same hc hs]; exact Nat.zero_le _
    | false =>
      have hs' : same f (opn n l' cs') = false := by
        cases hq : same f (opn n l' cs') with
        | false => rfl
        | true =>
          have : same f (opn n l cs) = true := same_iff.mpr fun t ht u hu => by
            obtain ⟨h1, h2⟩ := mem_opn.mp ht
            obtain ⟨h3, h4⟩ := mem_opn.mp hu
            exact same_iff.mp hq t (mem_opn.mpr ⟨h1, by have := hR t h1 h2; omega⟩) u (mem_opn.mpr ⟨h3, by have := hR u h3 h4; omega⟩)
          rw [this] at hs; cases hs
      obtain ⟨p, hp, e⟩ := L_at hc' hs'
      have hpn := (mem_split.mp hp).1
      have hm : ∀ b, meas n l' (more cs' p b) < meas n l' cs' := fun b => meas_lt hc' hp
      have hl' : ∀ b, (more cs' p b).length = n := fun b => by rw [more_len (by omega), hc']
      have hl : ∀ b, (more cs p b).length = n := fun b => by rw [more_len (by omega), hc]
      by_cases hsp : p ∈ split n (opn n l cs)
      · have h1 := L_le hc hs hsp
        have h2 : ∀ b, L f n l (more cs p b) ≤ L f n l' (more cs' p b) := fun b => ih _ _ (by have := hm b; omega) (hl b) (hl' b) fun t ht hw => by
          rw [wrong_more (by omega) (by omega)] at hw ⊢
          rw [wrong_more (by omega) (by omega)]
          have := hR t ht (by omega)
          omega
        have h3 := h2 false
        have h4 := h2 true
        omega
      · obtain ⟨b, hb⟩ := nosplit hpn hsp
        have h2 : L f n l cs ≤ L f n l' (more cs' p b) := ih _ _ (by have := hm b; omega) hc (hl' b) fun t ht hw => by
          rw [wrong_more (by omega) (by omega), if_pos (hb t (mem_opn.mpr ⟨ht, hw⟩))]
          exact hR t ht hw
        cases b <;> omega
/-- one lie more is not less -/
theorem L_lies {f : List Bool → Bool} {n l l' : Nat} {cs : List (Nat × Nat)} (hc : cs.length = n) (h : l ≤ l') : L f n l cs ≤ L f n l' cs := L_mono _ cs cs (Nat.le_refl _) hc hc fun _ _ _ => by omega
/-- behind any look with the hard bit at most one look less is needed -/
theorem L_hard {f : List Bool → Bool} {n l : Nat} {cs : List (Nat × Nat)} {p : Nat} (hc : cs.length = n) (hp : p < n) (ho : opn n l cs ≠ []) : ∃ b, opn n l (more cs p b) ≠ [] ∧ L f n l cs ≤ 1 + L f n l (more cs p b) := by
  by_cases hsp : p ∈ split n (opn n l cs)
  · cases hs : same f (opn n l cs) with
    | true => exact ⟨true, split_open hc hsp, by rw [L_same hc hs]; exact Nat.zero_le _⟩
    | false =>
      have h1 := L_le hc hs hsp
      by_cases hle : L f n l (more cs p false) ≤ L f n l (more cs p true)
      · exact ⟨true, split_open hc hsp, by omega⟩
      · exact ⟨false, split_open hc hsp, by omega⟩
  · obtain ⟨b, hb⟩ := nosplit hp hsp
    have hl : (more cs p b).length = n := by rw [more_len (by omega), hc]
    refine ⟨b, fun e => ?_, Nat.le_trans (L_mono _ cs (more cs p b) (Nat.le_refl _) hc hl fun t ht hw => ?_) (Nat.le_add_left _ _)⟩
    · obtain ⟨t, ht⟩ := List.exists_mem_of_ne_nil _ ho
      obtain ⟨h1, h2⟩ := mem_opn.mp ht
      have : t ∈ opn n l (more cs p b) := mem_opn.mpr ⟨h1, by rw [wrong_more (by omega) (by omega), if_pos (hb t ht)]; exact h2⟩
      rw [e] at this; cases this
    · rw [wrong_more (by omega) (by omega), if_pos (hb t (mem_opn.mpr ⟨ht, hw⟩))]
      omega

/-! ### patterns, and the looks without lies -/
abbrev Pat := List (Option Bool)
/-- the first unknown position -/
def spots (q : Pat) : List Nat := (List.range q.length).filter fun p => q.getD p none == none
def fitsB : List Bool → Pat → Bool
  | b :: bs, o :: os => (match o with | none => true | some c => b == c) && fitsB bs os
  | _, _ => true
theorem mem_spots {q : Pat} {p : Nat} : p ∈ spots q ↔ p < q.length ∧ q.getD p none = none := by
  unfold spots
  rw [List.mem_filter, List.mem_range, beq_iff_eq]
def put (q : Pat) (p : Nat) (b : Bool) : Pat := q.set p (some b)
theorem fits_iff : ∀ {t : List Bool} {q : Pat}, t.length = q.length → (fitsB t q = true ↔ ∀ p < q.length, ∀ c, q.getD p none = some c → t.getD p false = c)
  | [], [], _ => by
    constructor
    · intro _ p hp; simp at hp
    · intro _; rfl
  | b :: t, o :: q, h => by
    have hl : t.length = q.length := by simpa using h
    have ih := fits_iff (t := t) (q := q) hl
    unfold fitsB
    rw [Bool.and_eq_true, ih]
    constructor
    · rintro ⟨h1, h2⟩ p hp c hc
      cases p with
      | zero =>
        have hc : o = some c := hc
        subst hc
        have h1 : (b == c) = true := h1
        exact beq_iff_eq.mp h1
      | succ p => exact h2 p (by simpa using hp) c (by simpa using hc)
    · intro h
      refine ⟨?_, fun p hp c hc => ?_⟩
      · cases o with
        | none => rfl
        | some c =>
          have := h 0 (by simp) c rfl
          exact beq_iff_eq.mpr this
      · have := h (p + 1) (by simpa using hp) c (by simpa using hc)
        simpa using this
  | [], _ :: _, h => by simp at h
  | _ :: _, [], h => by simp at h
theorem put_len {q : Pat} {p : Nat} {b : Bool} : (put q p b).length = q.length := by unfold put; rw [List.length_set]
theorem getD_put {q : Pat} {p j : Nat} {b : Bool} (hp : p < q.length) : (put q p b).getD j none = if j = p then some b else q.getD j none := by
  unfold put
  rw [List.getD_eq_getElem?_getD, List.getD_eq_getElem?_getD]
  by_cases h : j = p
  · subst h
    rw [List.getElem?_set_self hp, if_pos rfl]
    rfl
  · rw [List.getElem?_set_ne (Ne.symm h), if_neg h]
theorem fits_put {t : List Bool} {q : Pat} {p : Nat} {b : Bool} (hl : t.length = q.length) (hp : p ∈ spots q) : fitsB t (put q p b) = true ↔ fitsB t q = true ∧ t.getD p false = b := by
  obtain ⟨hp, hn⟩ := mem_spots.mp hp
  rw [fits_iff (by rw [put_len]; exact hl), fits_iff hl]
  constructor
  · intro h
    refine ⟨fun j hj c hc => ?_, ?_⟩
    · refine h j (by rw [put_len]; exact hj) c ?_
      rw [getD_put hp, if_neg (by rintro rfl; rw [hn] at hc; cases hc)]
      exact hc
    · refine h p (by rw [put_len]; exact hp) b ?_
      rw [getD_put hp, if_pos rfl]
  · rintro ⟨h, e⟩ j hj c hc
    rw [put_len] at hj
    rw [getD_put hp] at hc
    by_cases hjp : j = p
    · subst hjp
      rw [if_pos rfl] at hc
      cases hc
      exact e
    · rw [if_neg hjp] at hc
      exact h j hj c hc
/-- the number of unknown positions -/
def unk (q : Pat) : Nat := (q.map fun o => if o = none then 1 else 0).sum
theorem unk_set : ∀ {q : Pat} {p : Nat} {b : Bool}, p < q.length → q.getD p none = none → unk (q.set p (some b)) + 1 = unk q
  | o :: q, 0, b, _, h => by
    have h : o = none := h
    subst h
    show ((if some b = none then 1 else 0) + unk q) + 1 = (if (none : Option Bool) = none then 1 else 0) + unk q
    simp
    omega
  | o :: q, p + 1, b, h1, h2 => by
    have ih := unk_set (q := q) (p := p) (b := b) (by simpa using h1) (by simpa using h2)
    show ((if o = none then 1 else 0) + unk (q.set p (some b))) + 1 = (if o = none then 1 else 0) + unk q
    omega
  | [], _, _, h, _ => by simp at h
theorem unk_put {q : Pat} {p : Nat} {b : Bool} (hp : p ∈ spots q) : unk (put q p b) + 1 = unk q := by
  obtain ⟨h1, h2⟩ := mem_spots.mp hp
  exact unk_set h1 h2
theorem spots_of_unk {q : Pat} (h : unk q = 0) : spots q = [] := by
  cases e : spots q with
  | nil => rfl
  | cons p r =>
    have : p ∈ spots q := by rw [e]; exact List.mem_cons_self
    have := unk_put (b := true) this
    omega
/-- the bits of a pattern without unknown positions -/
def bits (q : Pat) : List Bool := q.map fun o => o.getD false
/-- what a pattern settles -/
def SF (f : List Bool → Bool) : Nat → Pat → Option Bool
  | 0, q => some (f (bits q))
  | k + 1, q => match spots q with
    | [] => some (f (bits q))
    | p :: _ => if SF f k (put q p false) = SF f k (put q p true) then SF f k (put q p false) else none
def NF (f : List Bool → Bool) : Nat → Pat → Nat
  | 0, _ => 0
  | k + 1, q => if (SF f (unk q) q).isSome then 0 else minL ((spots q).map fun p => 1 + max (NF f k (put q p false)) (NF f k (put q p true)))
def S (f : List Bool → Bool) (q : Pat) : Option Bool := SF f (unk q) q
def N (f : List Bool → Bool) (q : Pat) : Nat := NF f (unk q) q
section
variable {f : List Bool → Bool} {q : Pat}
theorem S_eq : S f q = match spots q with
    | [] => some (f (bits q))
    | p :: _ => if S f (put q p false) = S f (put q p true) then S f (put q p false) else none := by
  cases e : spots q with
  | nil =>
    unfold S
    cases h : unk q with
    | zero => rfl
    | succ k =>
      show (match spots q with | [] => _ | p :: _ => _) = _
      rw [e]
  | cons p r =>
    have hp : p ∈ spots q := by rw [e]; exact List.mem_cons_self
    have h0 := unk_put (b := false) hp
    have h1 := unk_put (b := true) hp
    unfold S
    rw [← h0]
    show (match spots q with | [] => _ | p :: _ => _) = _
    rw [e]
    dsimp only
    rw [show unk (put q p true) = unk (put q p false) by omega]
theorem N_eq : N f q = if (S f q).isSome then 0 else minL ((spots q).map fun p => 1 + max (N f (put q p false)) (N f (put q p true))) := by
  unfold N
  cases h : unk q with
  | zero =>
    show 0 = _
    have e := spots_of_unk h
    have : S f q = some (f (bits q)) := by rw [S_eq, e]
    rw [this]
    rfl
  | succ k =>
    show (if (SF f (unk q) q).isSome then 0 else minL ((spots q).map fun p => 1 + max (NF f k (put q p false)) (NF f k (put q p true)))) = _
    show (if (S f q).isSome then 0 else _) = _
    congr 2
    refine List.map_congr_left fun p hp => ?_
    have h0 := unk_put (b := false) hp
    have h1 := unk_put (b := true) hp
    rw [show unk (put q p false) = k by omega, show unk (put q p true) = k by omega]
/-- a pattern settles exactly if all inputs that fit have one answer -/
theorem S_iff : ∀ (k : Nat) (q : Pat), unk q = k → ∀ b, (S f q = some b ↔ ∀ t : List Bool, t.length = q.length → fitsB t q = true → f t = b) := by
  intro k
  induction k with
  | zero =>
    intro q hk b
    have e := spots_of_unk hk
    have es : S f q = some (f (bits q)) := by rw [S_eq, e]
    have known : ∀ p < q.length, q.getD p none = some ((bits q).getD p false) := fun p hp => by
      have h1 : q.getD p none = q[p] := by simp [List.getD_eq_getElem?_getD, hp]
      have h2 : (bits q).getD p false = (q[p]).getD false := by simp [bits, List.getD_eq_getElem?_getD, hp]
      rw [h2, h1]
      cases hq : q[p] with
      | some c => rfl
      | none =>
        have : p ∈ spots q := mem_spots.mpr ⟨hp, by rw [h1, hq]⟩
        rw [e] at this; cases this
    have hbl : (bits q).length = q.length := by unfold bits; rw [List.length_map]
    rw [es]
    constructor
    · intro h t hl hf
      have ht : t = bits q := by
        apply List.ext_getElem (by rw [hl, hbl])
        intro p h1 h2
        have hp : p < q.length := by omega
        have := (fits_iff hl).mp hf p hp _ (known p hp)
        simpa [List.getD_eq_getElem?_getD, h1, h2] using this
      rw [ht]
      exact Option.some.inj h
    · intro h
      rw [h (bits q) hbl ((fits_iff hbl).mpr fun p hp c hc => by rw [known p hp] at hc; exact Option.some.inj hc)]
  | succ k ih =>
    intro q hk b
    cases e : spots q with
    | nil =>
      exfalso
      have : ∀ {q : Pat}, spots q = [] → unk q = 0 := by
        intro q hq
        cases hu : unk q with
        | zero => rfl
        | succ m =>
          exfalso
          have key : ∀ (r : Pat), 0 < unk r → ∃ p, p < r.length ∧ r.getD p none = none := by
            intro r
            induction r with
            | nil => intro h; exact absurd h (by decide)
            | cons o r ihr =>
              intro h
              cases o with
              | none => exact ⟨0, by simp, rfl⟩
              | some c =>
                have h2 : 0 < unk r := by
                  have : unk (some c :: r) = 0 + unk r := rfl
                  omega
                obtain ⟨p, h3, h4⟩ := ihr h2
                exact ⟨p + 1, by simpa using h3, by simpa using h4⟩
          obtain ⟨p, h3, h4⟩ := key q (by omega)
          have : p ∈ spots q := mem_spots.mpr ⟨h3, h4⟩
          rw [hq] at this; cases this
      have := this e
      omega
    | cons p r =>
      have hp : p ∈ spots q := by rw [e]; exact List.mem_cons_self
      have h0 := unk_put (b := false) hp
      have h1 := unk_put (b := true) hp
      have i0 := ih (put q p false) (by omega)
      have i1 := ih (put q p true) (by omega)
      have es : S f q = if S f (put q p false) = S f (put q p true) then S f (put q p false) else none := by rw [S_eq, e]
      rw [es]
      constructor
      · intro h t hl hf
        by_cases he : S f (put q p false) = S f (put q p true)
        · rw [if_pos he] at h
          cases hb : t.getD p false with
          | false => exact (i0 b).mp h t (by rw [put_len]; exact hl) ((fits_put hl hp).mpr ⟨hf, hb⟩)
          | true => exact (i1 b).mp (he ▸ h) t (by rw [put_len]; exact hl) ((fits_put hl hp).mpr ⟨hf, hb⟩)
        · rw [if_neg he] at h; cases h
      · intro h
        have a0 : S f (put q p false) = some b := (i0 b).mpr fun t hl hf => h t (by rw [put_len] at hl; exact hl) ((fits_put (by rw [put_len] at hl; exact hl) hp).mp hf).1
        have a1 : S f (put q p true) = some b := (i1 b).mpr fun t hl hf => h t (by rw [put_len] at hl; exact hl) ((fits_put (by rw [put_len] at hl; exact hl) hp).mp hf).1
        rw [a0, a1, if_pos rfl]
theorem spots_ne (h : S f q = none) : spots q ≠ [] := by
  intro e
  have : S f q = some (f (bits q)) := by rw [S_eq, e]
  rw [this] at h; cases h
theorem N_at (h : S f q = none) : ∃ p ∈ spots q, N f q = 1 + max (N f (put q p false)) (N f (put q p true)) := by
  have hne : (spots q).map (fun p => 1 + max (N f (put q p false)) (N f (put q p true))) ≠ [] := fun e => spots_ne h (List.map_eq_nil_iff.mp e)
  obtain ⟨p, hp, e⟩ := List.mem_map.mp (minL_mem hne)
  refine ⟨p, hp, ?_⟩
  rw [N_eq, h, e]
  rfl
theorem N_le {p : Nat} (hp : p ∈ spots q) : N f q ≤ 1 + max (N f (put q p false)) (N f (put q p true)) := by
  rw [N_eq]
  by_cases h : (S f q).isSome = true
  · rw [if_pos h]; exact Nat.zero_le _
  · rw [if_neg h]; exact minL_le (List.mem_map.mpr ⟨p, hp, rfl⟩)
end
theorem getD_more {cs : List (Nat × Nat)} {p : Nat} {b : Bool} (hp : p < cs.length) : (more cs p b).getD p (0, 0) = bump (cs.getD p (0, 0)) b := by
  unfold more
  rw [List.getD_eq_getElem?_getD, List.getElem?_append_right (by rw [List.length_take]; omega), List.length_take, Nat.min_eq_left (by omega), Nat.sub_self]
  rfl
theorem wrong_ge : ∀ {t : List Bool} {cs : List (Nat × Nat)} {p : Nat}, p < cs.length → t.length = cs.length → (if t.getD p false then (cs.getD p (0, 0)).1 else (cs.getD p (0, 0)).2) ≤ wrong t cs
  | x :: t, c :: cs, 0, _, _ => by
    show (if x = true then c.1 else c.2) ≤ (if x = true then c.1 else c.2) + wrong t cs
    omega
  | x :: t, c :: cs, p + 1, h, e => by
    have ih := wrong_ge (t := t) (cs := cs) (p := p) (by simpa using h) (by simpa using e)
    show _ ≤ (if x = true then c.1 else c.2) + wrong t cs
    rw [List.getD_cons_succ, List.getD_cons_succ]
    omega
  | [], _ :: _, _, _, e => by simp at e
  | _, [], _, h, _ => by simp at h
/-- AT MOST (2 l + 1) D -/
theorem L_upper {f : List Bool → Bool} {n l : Nat} : ∀ (k : Nat) (q : Pat) (cs : List (Nat × Nat)), unk q = k → q.length = n → cs.length = n →
    (∀ t ∈ opn n l cs, fitsB t q = true) → L f n l cs ≤ (2 * l + 1) * N f q := by
  intro k
  induction k with
  | zero =>
    intro q cs hk hq hc hf
    have es : S f q = some (f (bits q)) := by rw [S_eq, spots_of_unk hk]
    have hall := (S_iff 0 q hk (f (bits q))).mp es
    rw [L_same hc (same_iff.mpr fun t ht u hu => by rw [hall t (by rw [opn_len t ht, hq]) (hf t ht), hall u (by rw [opn_len u hu, hq]) (hf u hu)])]
    exact Nat.zero_le _
  | succ k ih =>
    intro q cs hk hq hc hf
    cases hS : S f q with
    | some b =>
      have hall := (S_iff _ q hk b).mp hS
      rw [L_same hc (same_iff.mpr fun t ht u hu => by rw [hall t (by rw [opn_len t ht, hq]) (hf t ht), hall u (by rw [opn_len u hu, hq]) (hf u hu)])]
      exact Nat.zero_le _
    | none =>
      obtain ⟨p, hp, eN⟩ := N_at hS
      have hpq := (mem_spots.mp hp).1
      have hpn : p < n := by omega
      generalize hm : max (N f (put q p false)) (N f (put q p true)) = m at eN
      have inner : ∀ (r : Nat) (cs : List (Nat × Nat)), cs.length = n → (∀ t ∈ opn n l cs, fitsB t q = true) → 2 * l + 1 - ((cs.getD p (0, 0)).1 + (cs.getD p (0, 0)).2) ≤ r → L f n l cs ≤ (2 * l + 1) * m + r := by
        intro r
        induction r with
        | zero =>
          intro cs hc hf hr
          have hns : ¬ p ∈ split n (opn n l cs) := by
            intro hsp
            obtain ⟨_, hb⟩ := mem_split.mp hsp
            obtain ⟨t, ht, et⟩ := hb true
            obtain ⟨u, hu, eu⟩ := hb false
            obtain ⟨t1, t2⟩ := mem_opn.mp ht
            obtain ⟨u1, u2⟩ := mem_opn.mp hu
            have h1 := wrong_ge (t := t) (cs := cs) (p := p) (by omega) (by omega)
            have h2 := wrong_ge (t := u) (cs := cs) (p := p) (by omega) (by omega)
            rw [et, if_pos rfl] at h1
            rw [eu, if_neg Bool.false_ne_true] at h2
            omega
          obtain ⟨b, hb⟩ := nosplit hpn hns
          have h3 := ih (put q p b) cs (by have := unk_put (b := b) hp; omega) (by rw [put_len]; exact hq) hc fun t ht => (fits_put (by rw [opn_len t ht, hq]) hp).mpr ⟨hf t ht, hb t ht⟩
          have h4 : N f (put q p b) ≤ m := by cases b <;> omega
          exact Nat.le_trans h3 (Nat.mul_le_mul_left _ h4)
        | succ r ihr =>
          intro cs hc hf hr
          by_cases hsp : p ∈ split n (opn n l cs)
          · cases hs : same f (opn n l cs) with
            | true => rw [L_same hc hs]; exact Nat.zero_le _
            | false =>
              have h1 := L_le hc hs hsp
              have h2 : ∀ b, L f n l (more cs p b) ≤ (2 * l + 1) * m + r := fun b => by
                refine ihr _ (by rw [more_len (by omega), hc]) (fun t ht => ?_) ?_
                · obtain ⟨t1, t2⟩ := mem_opn.mp ht
                  rw [wrong_more (by omega) (by omega)] at t2
                  exact hf t (mem_opn.mpr ⟨t1, by omega⟩)
                · rw [getD_more (by omega)]
                  unfold bump
                  cases b
                  · show 2 * l + 1 - ((cs.getD p (0, 0)).1 + 1 + (cs.getD p (0, 0)).2) ≤ r
                    omega
                  · show 2 * l + 1 - ((cs.getD p (0, 0)).1 + ((cs.getD p (0, 0)).2 + 1)) ≤ r
                    omega
              have h3 := h2 false
              have h4 := h2 true
              omega
          · obtain ⟨b, hb⟩ := nosplit hpn hsp
            have h3 := ih (put q p b) cs (by have := unk_put (b := b) hp; omega) (by rw [put_len]; exact hq) hc fun t ht => (fits_put (by rw [opn_len t ht, hq]) hp).mpr ⟨hf t ht, hb t ht⟩
            have h4 : N f (put q p b) ≤ m := by cases b <;> omega
            have h5 := Nat.mul_le_mul_left (2 * l + 1) h4
            omega
      have h6 := inner (2 * l + 1) cs hc hf (by omega)
      rw [eN, Nat.mul_add, Nat.mul_one]
      omega
/-- D without lies -/
theorem L_lower {f : List Bool → Bool} {n : Nat} : ∀ (k : Nat) (q : Pat) (cs : List (Nat × Nat)), meas n 0 cs ≤ k → q.length = n → cs.length = n →
    (∀ t : List Bool, t.length = n → (wrong t cs ≤ 0 ↔ fitsB t q = true)) → N f q ≤ L f n 0 cs := by
  intro k
  have base : ∀ (q : Pat) (cs : List (Nat × Nat)), q.length = n → cs.length = n → (∀ t : List Bool, t.length = n → (wrong t cs ≤ 0 ↔ fitsB t q = true)) → same f (opn n 0 cs) = true → N f q ≤ L f n 0 cs := by
    intro q cs hq hc hf hs
    have : (S f q).isSome = true := by
      cases hS : S f q with
      | some b => rfl
      | none =>
        exfalso
        have h1 : ∃ b, ∀ t : List Bool, t.length = q.length → fitsB t q = true → f t = b := by
          by_cases he : ∃ t : List Bool, t.length = q.length ∧ fitsB t q = true
          · obtain ⟨u, hu, fu⟩ := he
            refine ⟨f u, fun t ht ft => same_iff.mp hs t (mem_opn.mpr ⟨by omega, (hf t (by omega)).mpr ft⟩) u (mem_opn.mpr ⟨by omega, (hf u (by omega)).mpr fu⟩)⟩
          · exact ⟨true, fun t ht ft => absurd ⟨t, ht, ft⟩ he⟩
        obtain ⟨b, hb⟩ := h1
        rw [(S_iff _ q rfl b).mpr hb] at hS
        cases hS
    rw [N_eq, this, if_pos rfl]
    exact Nat.zero_le _
  induction k with
  | zero =>
    intro q cs hk hq hc hf
    exact base q cs hq hc hf (by rw [meas_zero (Nat.le_zero.mp hk)]; rfl)
  | succ k ih =>
    intro q cs hk hq hc hf
    cases hs : same f (opn n 0 cs) with
    | true => exact base q cs hq hc hf hs
    | false =>
      obtain ⟨p, hp, e⟩ := L_at hc hs
      have hpn := (mem_split.mp hp).1
      have hsp : p ∈ spots q := by
        refine mem_spots.mpr ⟨by omega, ?_⟩
        cases hq2 : q.getD p none with
        | none => rfl
        | some c =>
          obtain ⟨t, ht, et⟩ := (mem_split.mp hp).2 (!c)
          obtain ⟨t1, t2⟩ := mem_opn.mp ht
          have := (fits_iff (by omega)).mp ((hf t t1).mp t2) p (by omega) c hq2
          rw [et] at this
          cases c <;> cases this
      have h1 := N_le (f := f) hsp
      have h2 : ∀ b, N f (put q p b) ≤ L f n 0 (more cs p b) := fun b => ih _ _ (by have := meas_lt (b := b) hc hp; omega) (by rw [put_len]; exact hq) (by rw [more_len (by omega), hc]) fun t ht => by
        rw [wrong_more (by omega) (by omega), fits_put (by omega) hsp, ← hf t ht]
        by_cases hb : t.getD p false = b
        · rw [if_pos hb]
          exact ⟨fun h => ⟨by omega, hb⟩, fun h => by have := h.1; omega⟩
        · rw [if_neg hb]
          exact ⟨fun h => by omega, fun h => absurd h.2 hb⟩
      have h3 := h2 false
      have h4 := h2 true
      omega
def zeros (n : Nat) : List (Nat × Nat) := List.replicate n (0, 0)
def blank (n : Nat) : Pat := List.replicate n none
theorem zeros_len (n : Nat) : (zeros n).length = n := List.length_replicate
theorem wrong_zeros : ∀ (n : Nat) (t : List Bool), wrong t (zeros n) = 0
  | 0, t => by cases t <;> rfl
  | n + 1, [] => rfl
  | n + 1, x :: t => by
    show (if x = true then 0 else 0) + wrong t (zeros n) = 0
    rw [wrong_zeros n t]
    cases x <;> rfl
theorem fits_blank {n : Nat} {t : List Bool} (h : t.length = n) : fitsB t (blank n) = true := by
  refine (fits_iff (by rw [h]; exact List.length_replicate.symm)).mpr fun p hp c hc => ?_
  have hp : p < n := by simpa [blank] using hp
  simp [blank, List.getD_eq_getElem?_getD, hp] at hc
theorem law_upper {f : List Bool → Bool} {n l : Nat} : L f n l (zeros n) ≤ (2 * l + 1) * N f (blank n) :=
  L_upper _ (blank n) (zeros n) rfl List.length_replicate (zeros_len n) fun t ht => fits_blank (opn_len t ht)
theorem law_nolies {f : List Bool → Bool} {n : Nat} : L f n 0 (zeros n) = N f (blank n) := by
  refine Nat.le_antisymm (by have := law_upper (f := f) (n := n) (l := 0); omega) ?_
  refine L_lower _ (blank n) (zeros n) (Nat.le_refl _) List.length_replicate (zeros_len n) fun t ht => ?_
  rw [wrong_zeros]
  exact ⟨fun _ => fits_blank ht, fun _ => Nat.le_refl _⟩

/-! ### what was told -/
def cnt (n : Nat) (vs : List (Nat × Bool)) : List (Nat × Nat) := vs.foldl (fun cs v => more cs v.1 v.2) (zeros n)
theorem cnt_len {n : Nat} : ∀ {vs : List (Nat × Bool)}, (∀ v ∈ vs, v.1 < n) → (cnt n vs).length = n := by
  intro vs h
  have key : ∀ (vs : List (Nat × Bool)) (cs : List (Nat × Nat)), cs.length = n → (∀ v ∈ vs, v.1 < n) → (vs.foldl (fun cs v => more cs v.1 v.2) cs).length = n := by
    intro vs
    induction vs with
    | nil => intro cs hc _; exact hc
    | cons v r ih =>
      intro cs hc hv
      have := hv v List.mem_cons_self
      exact ih _ (by rw [more_len (by omega), hc]) fun u hu => hv u (List.mem_cons_of_mem _ hu)
  exact key vs _ (zeros_len n) h
theorem cnt_snoc {n : Nat} {vs : List (Nat × Bool)} {p : Nat} {b : Bool} : cnt n (vs ++ [(p, b)]) = more (cnt n vs) p b := by
  unfold cnt
  rw [List.foldl_append]
  rfl
def lied (t : List Bool) (vs : List (Nat × Bool)) : Nat := (vs.filter fun v => t.getD v.1 false != v.2).length
theorem wrong_cnt {n : Nat} {t : List Bool} (ht : t.length = n) : ∀ {vs : List (Nat × Bool)}, (∀ v ∈ vs, v.1 < n) → wrong t (cnt n vs) = lied t vs := by
  intro vs h
  have key : ∀ (vs : List (Nat × Bool)) (cs : List (Nat × Nat)), cs.length = n → (∀ v ∈ vs, v.1 < n) → wrong t (vs.foldl (fun cs v => more cs v.1 v.2) cs) = wrong t cs + lied t vs := by
    intro vs
    induction vs with
    | nil => intro cs hc _; rfl
    | cons v r ih =>
      intro cs hc hv
      have h1 := hv v List.mem_cons_self
      show wrong t (r.foldl _ (more cs v.1 v.2)) = _
      rw [ih _ (by rw [more_len (by omega), hc]) fun u hu => hv u (List.mem_cons_of_mem _ hu), wrong_more (by omega) (by omega)]
      unfold lied
      rw [List.filter_cons]
      by_cases hb : t.getD v.1 false = v.2
      · rw [if_pos hb, if_neg (by simp only [hb, bne_self_eq_false]; exact Bool.false_ne_true)]
        omega
      · rw [if_neg hb, if_pos (by rw [bne_iff_ne]; exact hb), List.length_cons]
        omega
  have := key vs _ (zeros_len n) h
  rw [wrong_zeros] at this
  unfold cnt
  omega
end LM

/-! The text of the program by places; each def's names by slots. -/
namespace LL
open PySem PySem.Spec PyProof.Rows L2
open Evl (Ex)
def topS (i : Nat) : Stmt := PySem.Challenge.pw_leastlooks_k69_whole_games_with_lies.main.body.getD i (.Pass ⟨0, 0, 0, 0⟩)
abbrev s_is_integer : Stmt := topS 14
theorem sc_is_integer : FnScope ["value", "low", "high"] ["value", "low", "high"] (defScope s_is_integer) := ⟨rfl, rfl, rfl, by decide +kernel, rfl, by decide +kernel, by decide +kernel⟩
abbrev s_has_signs : Stmt := topS 15
theorem sc_has_signs : FnScope ["value", "signs", "sign"] ["value", "signs"] (defScope s_has_signs) := ⟨rfl, rfl, rfl, by decide +kernel, rfl, by decide +kernel, by decide +kernel⟩
abbrev s_is_input : Stmt := topS 16
theorem sc_is_input : FnScope ["value"] ["value"] (defScope s_is_input) := ⟨rfl, rfl, rfl, by decide +kernel, rfl, by decide +kernel, by decide +kernel⟩
abbrev s_need_count : Stmt := topS 17
theorem sc_need_count : FnScope ["value"] ["value"] (defScope s_need_count) := ⟨rfl, rfl, rfl, by decide +kernel, rfl, by decide +kernel, by decide +kernel⟩
abbrev s_need_input : Stmt := topS 18
theorem sc_need_input : FnScope ["value", "many"] ["value", "many"] (defScope s_need_input) := ⟨rfl, rfl, rfl, by decide +kernel, rfl, by decide +kernel, by decide +kernel⟩
abbrev s_strings : Stmt := topS 19
theorem sc_strings : FnScope ["many", "signs", "found", "turn", "text", "sign"] ["many", "signs"] (defScope s_strings) := ⟨rfl, rfl, rfl, by decide +kernel, rfl, by decide +kernel, by decide +kernel⟩
abbrev s_inputs : Stmt := topS 20
theorem sc_inputs : FnScope ["many"] ["many"] (defScope s_inputs) := ⟨rfl, rfl, rfl, by decide +kernel, rfl, by decide +kernel, by decide +kernel⟩
abbrev s_need_position : Stmt := topS 21
theorem sc_need_position : FnScope ["value", "many"] ["value", "many"] (defScope s_need_position) := ⟨rfl, rfl, rfl, by decide +kernel, rfl, by decide +kernel, by decide +kernel⟩
abbrev s_is_told : Stmt := topS 25
theorem sc_is_told : FnScope ["value", "many", "item"] ["value", "many"] (defScope s_is_told) := ⟨rfl, rfl, rfl, by decide +kernel, rfl, by decide +kernel, by decide +kernel⟩
abbrev s_counts_of : Stmt := topS 26
theorem sc_counts_of : FnScope ["many", "told", "found", "position", "bit", "pair"] ["many", "told"] (defScope s_counts_of) := ⟨rfl, rfl, rfl, by decide +kernel, rfl, by decide +kernel, by decide +kernel⟩
abbrev s_wrong_looks : Stmt := topS 27
theorem sc_wrong_looks : FnScope ["text", "counts", "bit", "pair"] ["text", "counts"] (defScope s_wrong_looks) := ⟨rfl, rfl, rfl, by decide +kernel, rfl, by decide +kernel, by decide +kernel⟩
abbrev s_open_by : Stmt := topS 28
theorem sc_open_by : FnScope ["many", "lies", "counts", "text"] ["many", "lies", "counts"] (defScope s_open_by) := ⟨rfl, rfl, rfl, by decide +kernel, rfl, by decide +kernel, by decide +kernel⟩
abbrev s_need_open : Stmt := topS 29
theorem sc_need_open : FnScope ["many", "lies", "told", "counts"] ["many", "lies", "told"] (defScope s_need_open) := ⟨rfl, rfl, rfl, by decide +kernel, rfl, by decide +kernel, by decide +kernel⟩
abbrev s_open_inputs : Stmt := topS 30
theorem sc_open_inputs : FnScope ["many", "lies", "told"] ["many", "lies", "told"] (defScope s_open_inputs) := ⟨rfl, rfl, rfl, by decide +kernel, rfl, by decide +kernel, by decide +kernel⟩
abbrev s_only_answer : Stmt := topS 31
theorem sc_only_answer : FnScope ["question", "texts", "answers", "text"] ["question", "texts"] (defScope s_only_answer) := ⟨rfl, rfl, rfl, by decide +kernel, rfl, by decide +kernel, by decide +kernel⟩
abbrev s_told_answer : Stmt := topS 32
theorem sc_told_answer : FnScope ["question", "lies", "told"] ["question", "lies", "told"] (defScope s_told_answer) := ⟨rfl, rfl, rfl, by decide +kernel, rfl, by decide +kernel, by decide +kernel⟩
abbrev s_more : Stmt := topS 33
theorem sc_more : FnScope ["counts", "position", "bit", "zeros", "ones", "pair"] ["counts", "position", "bit"] (defScope s_more) := ⟨rfl, rfl, rfl, by decide +kernel, rfl, by decide +kernel, by decide +kernel⟩
abbrev s_split_positions : Stmt := topS 34
theorem sc_split_positions : FnScope ["many", "texts", "position", "text"] ["many", "texts"] (defScope s_split_positions) := ⟨rfl, rfl, rfl, by decide +kernel, rfl, by decide +kernel, by decide +kernel⟩
abbrev s_looks_from : Stmt := topS 35
theorem sc_looks_from : FnScope ["question", "lies", "counts", "known", "texts", "found", "spots", "position"] ["question", "lies", "counts", "known"] (defScope s_looks_from) := ⟨rfl, rfl, rfl, by decide +kernel, rfl, by decide +kernel, by decide +kernel⟩
abbrev s_behind : Stmt := topS 36
theorem sc_behind : FnScope ["question", "lies", "counts", "known", "position", "ways", "bit", "way"] ["question", "lies", "counts", "known", "position"] (defScope s_behind) := ⟨rfl, rfl, rfl, by decide +kernel, rfl, by decide +kernel, by decide +kernel⟩
abbrev s_lie_looks : Stmt := topS 37
theorem sc_lie_looks : FnScope ["question", "lies", "told"] ["question", "lies", "told"] (defScope s_lie_looks) := ⟨rfl, rfl, rfl, by decide +kernel, rfl, by decide +kernel, by decide +kernel⟩
abbrev s_next_looks : Stmt := topS 38
theorem sc_next_looks : FnScope ["question", "lies", "told", "counts", "known", "count", "spots", "position"] ["question", "lies", "told"] (defScope s_next_looks) := ⟨rfl, rfl, rfl, by decide +kernel, rfl, by decide +kernel, by decide +kernel⟩
abbrev s_hard_bit : Stmt := topS 39
theorem sc_hard_bit : FnScope ["question", "lies", "told", "position", "counts", "known", "found", "bit", "way", "most", "count"] ["question", "lies", "told", "position"] (defScope s_hard_bit) := ⟨rfl, rfl, rfl, by decide +kernel, rfl, by decide +kernel, by decide +kernel⟩
abbrev s_is_table : Stmt := topS 42
theorem sc_is_table : FnScope ["value", "sign"] ["value"] (defScope s_is_table) := ⟨rfl, rfl, rfl, by decide +kernel, rfl, by decide +kernel, by decide +kernel⟩
abbrev s_q_init : Stmt := inClass (topS 43) 0
theorem sc_q_init : FnScope ["self", "table", "text", "sign"] ["self", "table"] (defScope s_q_init) := ⟨rfl, rfl, rfl, by decide +kernel, rfl, by decide +kernel, by decide +kernel⟩
abbrev s_q_many : Stmt := inClass (topS 43) 2
theorem sc_q_many : FnScope ["self"] ["self"] (defScope s_q_many) := ⟨rfl, rfl, rfl, by decide +kernel, rfl, by decide +kernel, by decide +kernel⟩
abbrev s_q_call : Stmt := inClass (topS 43) 10
theorem sc_q_call : FnScope ["self", "text"] ["self", "text"] (defScope s_q_call) := ⟨rfl, rfl, rfl, by decide +kernel, rfl, by decide +kernel, by decide +kernel⟩
abbrev s_w_bag : Stmt := topS 45
theorem sc_w_bag : FnScope ["_law_script"] ["_law_script"] (defScope s_w_bag) := ⟨rfl, rfl, rfl, by decide +kernel, rfl, by decide +kernel, by decide +kernel⟩
abbrev s_w_draw : Stmt := topS 46
theorem sc_w_draw : FnScope ["_law_bag_here", "_law_many", "_law_cell", "_law_digit", "_law_mixed_here"] ["_law_bag_here", "_law_many"] (defScope s_w_draw) := ⟨rfl, rfl, rfl, by decide +kernel, rfl, by decide +kernel, by decide +kernel⟩
abbrev s_w_mixed : Stmt := topS 47
theorem sc_w_mixed : FnScope ["_law_bag_here", "_law_items", "_law_left", "_law_found", "_law_k"] ["_law_bag_here", "_law_items"] (defScope s_w_mixed) := ⟨rfl, rfl, rfl, by decide +kernel, rfl, by decide +kernel, by decide +kernel⟩
abbrev s_w_strings : Stmt := topS 48
theorem sc_w_strings : FnScope ["_law_many", "_law_signs", "_law_found", "_law_k", "_law_longer", "_law_text", "_law_sign"] ["_law_many", "_law_signs"] (defScope s_w_strings) := ⟨rfl, rfl, rfl, by decide +kernel, rfl, by decide +kernel, by decide +kernel⟩
abbrev s_w_inputs : Stmt := topS 49
theorem sc_w_inputs : FnScope ["_law_many"] ["_law_many"] (defScope s_w_inputs) := ⟨rfl, rfl, rfl, by decide +kernel, rfl, by decide +kernel, by decide +kernel⟩
abbrev s_w_patterns : Stmt := topS 50
theorem sc_w_patterns : FnScope ["_law_many"] ["_law_many"] (defScope s_w_patterns) := ⟨rfl, rfl, rfl, by decide +kernel, rfl, by decide +kernel, by decide +kernel⟩
abbrev s_w_put : Stmt := topS 51
theorem sc_w_put : FnScope ["_law_text", "_law_at", "_law_sign"] ["_law_text", "_law_at", "_law_sign"] (defScope s_w_put) := ⟨rfl, rfl, rfl, by decide +kernel, rfl, by decide +kernel, by decide +kernel⟩
abbrev s_w_open_spots : Stmt := topS 52
theorem sc_w_open_spots : FnScope ["_law_pattern", "_law_k"] ["_law_pattern"] (defScope s_w_open_spots) := ⟨rfl, rfl, rfl, by decide +kernel, rfl, by decide +kernel, by decide +kernel⟩
abbrev s_w_rule : Stmt := topS 53
theorem sc_w_rule : FnScope ["_law_bag_here", "_law_many", "_law_way", "_law_some", "_law_cut", "_law_piece", "_law_table_here", "_law_text", "_law_ones", "_law_good", "_law_k"] ["_law_bag_here", "_law_many", "_law_way"] (defScope s_w_rule) := ⟨rfl, rfl, rfl, by decide +kernel, rfl, by decide +kernel, by decide +kernel⟩
abbrev s_w_table : Stmt := topS 54
theorem sc_w_table : FnScope ["_law_bag_here", "_law_many", "_law_way", "_law_table_here", "_law_share", "_law_bits", "_law_k", "_law_at"] ["_law_bag_here", "_law_many"] (defScope s_w_table) := ⟨rfl, rfl, rfl, by decide +kernel, rfl, by decide +kernel, by decide +kernel⟩
abbrev s_w_worths : Stmt := topS 55
theorem sc_w_worths : FnScope ["_law_table_here", "_law_many", "_law_texts", "_law_k"] ["_law_table_here"] (defScope s_w_worths) := ⟨rfl, rfl, rfl, by decide +kernel, rfl, by decide +kernel, by decide +kernel⟩
abbrev s_w_settling : Stmt := topS 56
theorem sc_w_settling : FnScope ["_law_worths_here", "_law_many", "_law_found", "_law_pattern", "_law_spots", "_law_low"] ["_law_worths_here", "_law_many"] (defScope s_w_settling) := ⟨rfl, rfl, rfl, by decide +kernel, rfl, by decide +kernel, by decide +kernel⟩
abbrev s_w_needs : Stmt := topS 57
theorem sc_w_needs : FnScope ["_law_settling_here", "_law_many", "_law_found", "_law_pattern", "_law_rows", "_law_at"] ["_law_settling_here", "_law_many"] (defScope s_w_needs) := ⟨rfl, rfl, rfl, by decide +kernel, rfl, by decide +kernel, by decide +kernel⟩
abbrev s_w_is_whole : Stmt := topS 58
theorem sc_w_is_whole : FnScope ["_law_value"] ["_law_value"] (defScope s_w_is_whole) := ⟨rfl, rfl, rfl, by decide +kernel, rfl, by decide +kernel, by decide +kernel⟩
abbrev s_w_open : Stmt := topS 59
theorem sc_w_open : FnScope ["_law_many", "_law_lies", "_law_told", "_law_found", "_law_text", "_law_item"] ["_law_many", "_law_lies", "_law_told"] (defScope s_w_open) := ⟨rfl, rfl, rfl, by decide +kernel, rfl, by decide +kernel, by decide +kernel⟩
abbrev s_w_only : Stmt := topS 60
theorem sc_w_only : FnScope ["_law_worths_here", "_law_texts", "_law_answers", "_law_text"] ["_law_worths_here", "_law_texts"] (defScope s_w_only) := ⟨rfl, rfl, rfl, by decide +kernel, rfl, by decide +kernel, by decide +kernel⟩
abbrev s_w_first_game : Stmt := topS 61
theorem sc_w_first_game : FnScope ["_law_bag_here", "_law_worths_here", "_law_many", "_law_question", "_law_lies", "_law_need", "_law_views", "_law_turn", "_law_answer", "_law_spots", "_law_at", "_law_bit"] ["_law_bag_here", "_law_worths_here", "_law_many", "_law_question", "_law_lies", "_law_need"] (defScope s_w_first_game) := ⟨rfl, rfl, rfl, by decide +kernel, rfl, by decide +kernel, by decide +kernel⟩
abbrev s_w_second_game : Stmt := topS 62
theorem sc_w_second_game : FnScope ["_law_bag_here", "_law_worths_here", "_law_many", "_law_question", "_law_lies", "_law_need", "_law_views", "_law_turn", "_law_at", "_law_bit"] ["_law_bag_here", "_law_worths_here", "_law_many", "_law_question", "_law_lies", "_law_need"] (defScope s_w_second_game) := ⟨rfl, rfl, rfl, by decide +kernel, rfl, by decide +kernel, by decide +kernel⟩
abbrev s_law : Stmt := topS 63
theorem sc_law : FnScope ["_law_script", "_law_bag_here", "_law_many", "_law_table_here", "_law_worths_here", "_law_question", "_law_lies", "_law_need", "_law_most", "_law_turn"] ["_law_script"] (defScope s_law) := ⟨rfl, rfl, rfl, by decide +kernel, rfl, by decide +kernel, by decide +kernel⟩
end LL

/-! Leastlooks: short words over the layer. -/
namespace LL
open PySem PySem.Spec PyProof.Rows L2
open Evl (Ex RetV RetL)
section
variable {P : Program} {w : World} {K : PySem.W.Frag} {mg : Str → Option Value} {base : Heap}
/-- a def of the text as it stands behind the top -/
def Df (K : PySem.W.Frag) (mg : Str → Option Value) (x qual : Str) (st : Stmt) (dvs : List V) (f : Addr) : Prop :=
  ∃ fd : FuncData, FunD K x qual (defArgs st) (defBody st) (defScope st) dvs [] f fd
/-- the module's def x keeps a promise -/
def Ct (P : Program) (w : World) (K : PySem.W.Frag) (mg : Str → Option Value) (base : Heap) (k : Nat) (x : Str) (sp : Sp) : Prop :=
  ∃ f : Addr, mg x = some (.ref f) ∧ PySem.W.keepIn K (.ref f) = true ∧ FnR P w K mg base CX0 k f sp
theorem Ct.up {j k : Nat} {x : Str} {sp : Sp} (c : Ct P w K mg base j x sp) (h : j ≤ k) : Ct P w K mg base k x sp := by
  obtain ⟨f, g, kp, F⟩ := c
  exact ⟨f, g, kp, F.mono h⟩
theorem fn_by {x qual : Str} {st : Stmt} {f : Addr} {fd : FuncData} {N ps : List Str} {k : Nat} {sp : Sp} (D : FunD K x qual (defArgs st) (defBody st) (defScope st) [] [] f fd) (S : FnScope N ps (defScope st))
    (len : ∀ vs H Q E, sp vs H Q E → vs.length = ps.length)
    (bd : ∀ (kV doc pm : Value) (an : Option Addr) (cdv ct : Value) (us : List Value), us.length = ps.length → bindArgs (PySem.W.fnOf x qual (defArgs st) (defBody st) (defScope st) .none kV doc pm an cdv ct) ⟨us, []⟩ = pure (ps.zip us))
    (hbody : ∀ (cdv : Value) (A : Around) (outer : List Env) (s : Shared) (H : Hp) (vs : List V) (Q : VK) (E : XK), Room k (A.deeper (envOfC qual (defScope st) s.heap.objs.size f cdv)) → sp vs H Q E →
      ∃ t, PSs (cxOf CX0 P w K mg base N qual (defScope st) f cdv A outer s H E).nox (defBody st) t ∧ t { nx := fun _ H' => Q .non H', rt := Q } (start N vs) H) : FnR P w K mg base CX0 (k + 1) f sp := by
  have ok : FnOk P w K mg base CX0 (k + 1) f fd ps sp := FunD.ok D S len fun cdv A outer s H vs Q E hr hsp => by
    obtain ⟨t, h, q⟩ := hbody cdv A outer s H vs Q E hr hsp
    exact ⟨t, h.nox, q⟩
  have b : Binds K fd ps [] := D.bindsN bd
  exact FnR.imp (ok.raw b .nil) fun vs H Q E h => by rw [List.append_nil]; exact h
theorem ct_of {x : Str} {st : Stmt} {N ps : List Str} {k : Nat} {sp : Sp} (D : ∃ f, mg x = some (.ref f) ∧ Df K mg x x st [] f) (S : FnScope N ps (defScope st)) (len : ∀ vs H Q E, sp vs H Q E → vs.length = ps.length)
    (bd : ∀ (kV doc pm : Value) (an : Option Addr) (cdv ct : Value) (us : List Value), us.length = ps.length → bindArgs (PySem.W.fnOf x x (defArgs st) (defBody st) (defScope st) .none kV doc pm an cdv ct) ⟨us, []⟩ = pure (ps.zip us))
    (hbody : ∀ (f : Addr) (cdv : Value) (A : Around) (outer : List Env) (s : Shared) (H : Hp) (vs : List V) (Q : VK) (E : XK), Room k (A.deeper (envOfC x (defScope st) s.heap.objs.size f cdv)) → sp vs H Q E →
      ∃ t, PSs (cxOf CX0 P w K mg base N x (defScope st) f cdv A outer s H E).nox (defBody st) t ∧ t { nx := fun _ H' => Q .non H', rt := Q } (start N vs) H) : Ct P w K mg base (k + 1) x sp := by
  obtain ⟨f, g, fd, F⟩ := D
  exact ⟨f, g, F.kp, fn_by F S len bd (hbody f)⟩
/-- a call of the module's def -/
theorem pe_ct {X : Cx} {k : Nat} {x : Str} {sp : Sp} {p pos : Pos} {e : Expr} {es : List Expr} {t : TA} (c : Ct X.prog X.w X.K X.mg X.base k x sp) (hr : Room k X.A) (hg : Gl X x) (ha : PA X (e :: es) t) (hdb : (x == ("__debug__" : Str)) = false := by decide)
    (he : starEach (e :: es) X.env = (false, eval e X.env) :: starEach es X.env := by rfl) (hpl : (backTo pos (starEach es X.env)).any (·.1) = false := by rfl) :
    PE X (.Call (.Name x p) (e :: es) [] pos) (fun σ H Q => t σ H fun vs H1 => sp vs H1 Q E0) := by
  obtain ⟨f, hm, hk, F⟩ := c
  refine ⟨fun pins s σ H Q I h => wpAny_Call_Name_kw (ld_glob I hg hm ?_ hdb)⟩
  refine PySem.W.callWith_K (h₀ := X.base) I.ok.mod.kin hk (thn (ha.run pos pins s σ H _ I h) fun us s1 ⟨vs, H1, I1, r, q⟩ => ⟨I1.kIn, ?_⟩) he hpl
  exact wpAny_call (run_fnR F hr pass0 I1 r q)
end
/-- a global that is an int, a text -/
theorem pe_gi {X : Cx} {x : Str} {i : Int} {pos : Pos} (h : ∃ t, X.mg x = some (.int i t)) (hg : Gl X x := by rfl) (hd : (x == ("__debug__" : Str)) = false := by decide) : PE X (.Name x pos) (tC (.int i)) := by
  obtain ⟨t, e⟩ := h
  exact pe_glob hg e ⟨t, rfl⟩ hd
theorem pe_gs {X : Cx} {x y : Str} {pos : Pos} (h : ∃ t, X.mg x = some (.str y t)) (hg : Gl X x := by rfl) (hd : (x == ("__debug__" : Str)) = false := by decide) : PE X (.Name x pos) (tC (.str y)) := by
  obtain ⟨t, e⟩ := h
  exact pe_glob hg e ⟨t, rfl⟩ hd
/-- what the module's names hold -/
structure Gs (K : PySem.W.Frag) (mg : Str → Option Value) : Prop where
  isi : mg "isinstance" = none
  int : mg "int" = none
  bool : mg "bool" = none
  str : mg "str" = none
  len : mg "len" = none
  all : mg "all" = none
  range : mg "range" = none
  tuple : mg "tuple" = none
  list : mg "list" = none
  zip : mg "zip" = none
  sum : mg "sum" = none
  min : mg "min" = none
  max : mg "max" = none
  abs : mg "abs" = none
  dict : mg "dict" = none
  MOST : ∃ t, mg "MOST" = some (.int 6 t)
  BITS : ∃ t, mg "BITS" = some (.str "01" t)
  WIDE : ∃ t, mg "MOST_WIDE" = some (.int 3 t)
  LIES : ∃ t, mg "MOST_LIES" = some (.int 2 t)
  SIZES : ∃ a, mg "SIZES" = some (.ref a) ∧ (∀ H, SqT K H a [.int 1, .int 2, .int 4, .int 8, .int 16, .int 32, .int 64]) ∧ ∃ o, K.lookup a = some o ∧ o.cls = .type "tuple" ∧ o.dict = none

/-! ### texts of bits -/
def cd (b : Bool) : Nat := if b then 49 else 48
def tx (bs : List Bool) : Str := ⟨(bs.map cd).toArray⟩
theorem tx_codes (bs : List Bool) : (tx bs).cps.toList = bs.map cd := rfl
theorem tx_len (bs : List Bool) : (tx bs).length = bs.length := by
  show ((bs.map cd).toArray).size = _
  rw [List.size_toArray, List.length_map]
theorem tx_app (a b : List Bool) : tx (a ++ b) = tx a ++ tx b := by
  show (⟨((a ++ b).map cd).toArray⟩ : Str) = ⟨(a.map cd).toArray ++ (b.map cd).toArray⟩
  rw [List.map_append, List.append_toArray]
theorem cd_inj {a b : Bool} (h : cd a = cd b) : a = b := by
  cases a <;> cases b <;> first | rfl | exact absurd h (by decide)
theorem tx_inj {a b : List Bool} (h : tx a = tx b) : a = b := by
  have e : a.map cd = b.map cd := congrArg (fun z : Str => z.cps.toList) h
  exact List.map_inj_right (fun _ _ h => cd_inj h) |>.mp e
theorem tx_one (b : Bool) : (⟨#[cd b]⟩ : Str) = tx [b] := rfl
theorem tx0 : tx [] = ("" : Str) := by decide +kernel
theorem tx01 : tx [false, true] = ("01" : Str) := by decide +kernel
def txs (ts : List (List Bool)) : List V := ts.map fun t => V.str (tx t)
theorem sz6 {n : Nat} (h : n ≤ 100000) : n ≤ sizeLine := Nat.le_trans h (by decide)
theorem line_tx {bs : List Bool} (h : bs.length ≤ 100000) : (tx bs).length ≤ sizeLine := by
  rw [tx_len]
  exact sz6 h
/-- a new object, told by what it is -/
theorem new_at {H : Hp} {o : HO} {Q : Addr → Hp → Prop} (h : ∀ p H2, H p = none → Ex H H2 → H2 p = some o → Q p H2) : ∀ p, H p = none → Q p (upd H p o) := fun p hp => h p _ hp (Ex.new hp) upd_same
end LL

/-! Leastlooks: comprehensions whose turns leave all that stood. -/
namespace LL
open PySem PySem.Spec PyProof.Rows L2
open Evl (Ex RetV RetL)
section
variable {J : It} {n : Nat} {G : Hp → Prop} {Y : Nat → Hp → V → Hp → Prop} {g : TG} {tt : TT} {te : TE} {vs : List Nat} {σ : L2.St} {H1 : Hp} {D : Addr} {Qd : Hp → Prop}
/-- the reading of a comprehension's walk -/
abbrev LcR (J : It) (g : TG) (tt : TT) (te : TE) (vs : List Nat) (σ : L2.St) (H1 : Hp) (D : Addr) (Qd : Hp → Prop) : Prop :=
  ∃ W : Nat → Nat → Hp → Prop, (∃ m, W 0 m (upd H1 D (.lst []))) ∧ ∀ i m H, W i m H →
    (J.stop i H ∧ Qd H) ∨ (J.go i H ∧ ∃ Nx : Hp → Prop, (∀ H', Nx H' → ∃ m', m' < m ∧ W (i + 1) m' H') ∧ ∀ x H', J.yld i H x H' → g x (wipe σ vs) H' fun σ2 H2 => wipe σ2 vs = wipe σ vs ∧ tt σ2 H2 fun b H3 =>
      if b = true then te σ2 H3 fun y H4 => ∃ acc, H4 D = some (.lst acc) ∧ acc.length < sizeLine ∧ Nx (upd H4 D (.lst (acc ++ [y]))) else Nx H3)
theorem lc_ex (w : Walk J n G Y) (hD : H1 D = none) (acc : Nat → List V) (h0 : acc 0 = []) (hz : ∀ i, i ≤ n → (acc i).length ≤ 100000) (hG : ∀ H, Ex H1 H → G H)
    (hs : ∀ i x H H' (Q : VK) (Qn : Hp → Prop), i < n → Ex H1 H → Y i H x H' → (∀ y H4, Ex H H4 → acc (i + 1) = acc i ++ [y] → Q y H4) → (∀ H3, Ex H H3 → acc (i + 1) = acc i → Qn H3) →
      g x (wipe σ vs) H' fun σ2 H2 => wipe σ2 vs = wipe σ vs ∧ tt σ2 H2 fun b H3 => if b = true then te σ2 H3 Q else Qn H3)
    (hd : ∀ H, Ex H1 H → H D = some (.lst (acc n)) → Qd H) : LcR J g tt te vs σ H1 D Qd := by
  refine lc_it w (fun i H => i ≤ n ∧ Ex H1 H ∧ H D = some (.lst (acc i))) ⟨Nat.zero_le _, Evl.Ex.new hD, by rw [upd_same, h0]⟩ (fun i H _ p => hG H p.2.1) (fun i x H H' hi p y => ?_) fun H p => hd H p.2.1 p.2.2
  obtain ⟨_, e, d⟩ := p
  refine hs i x H H' _ _ hi e y (fun v H4 e4 ea => ⟨acc i, e4 _ _ d, ?_, hi, ?_, ?_⟩) fun H3 e3 ea => ⟨hi, e.trans e3, by rw [e3 _ _ d, ea]⟩
  · have h1 := hz i (Nat.le_of_lt hi)
    exact Nat.lt_of_le_of_lt h1 (by decide)
  · exact (e.trans e4).mut hD
  · rw [upd_same, ea]
/-- each turn's element is told ahead -/
theorem lc_map (w : Walk J n G Y) (hD : H1 D = none) (ys : List V) (hn : ys.length = n) (hz : n ≤ 100000) (hG : ∀ H, Ex H1 H → G H)
    (hs : ∀ i x H H' (Q : VK), i < n → Ex H1 H → Y i H x H' → (∀ y H4, Ex H H4 → ys[i]? = some y → Q y H4) → g x (wipe σ vs) H' fun σ2 H2 => wipe σ2 vs = wipe σ vs ∧ te σ2 H2 Q)
    (hd : ∀ H, Ex H1 H → H D = some (.lst ys) → Qd H) (ht : tt = tYes := by rfl) : LcR J g tt te vs σ H1 D Qd := by
  subst ht
  refine lc_ex w hD (fun i => ys.take i) (List.take_zero ..) (fun i _ => Nat.le_trans (List.length_take_le _ _) (by omega)) hG (fun i x H H' Q Qn hi e y k _ => ?_) fun H e d => hd H e (by rw [d, ← hn, List.take_length])
  exact hs i x H H' Q hi e y fun v H4 e4 ev => k v H4 e4 (by rw [List.take_add_one, ev]; rfl)
/-- those that pass a test, as they are -/
theorem lc_filter {α : Type} (w : Walk J n G Y) (hD : H1 D = none) (xs : List α) (fv : α → V) (p : α → Bool) (hn : xs.length = n) (hz : n ≤ 100000) (hG : ∀ H, Ex H1 H → G H)
    (hs : ∀ (i : Nat) (x : V) (H H' : Hp) (a : α) (Q : VK) (Qn : Hp → Prop), i < n → Ex H1 H → Y i H x H' → xs[i]? = some a → (∀ y H4, Ex H H4 → p a = true → y = fv a → Q y H4) → (∀ H3, Ex H H3 → p a = false → Qn H3) →
      g x (wipe σ vs) H' fun σ2 H2 => wipe σ2 vs = wipe σ vs ∧ tt σ2 H2 fun b H3 => if b = true then te σ2 H3 Q else Qn H3)
    (hd : ∀ H, Ex H1 H → H D = some (.lst ((xs.filter p).map fv)) → Qd H) : LcR J g tt te vs σ H1 D Qd := by
  have key : ∀ i a, xs[i]? = some a → ((xs.take (i + 1)).filter p).map fv = ((xs.take i).filter p).map fv ++ (if p a = true then [fv a] else []) := fun i a ha => by
    rw [List.take_add_one, ha, List.filter_append, List.map_append]
    show _ ++ List.map fv (List.filter p [a]) = _
    rw [List.filter_cons]
    cases p a <;> rfl
  refine lc_ex w hD (fun i => ((xs.take i).filter p).map fv) rfl (fun i _ => ?_) hG (fun i x H H' Q Qn hi e y k kn => ?_) fun H e d => hd H e (by rw [d, ← hn, List.take_length])
  · rw [List.length_map]
    exact Nat.le_trans (List.length_filter_le _ _) (Nat.le_trans (List.length_take_le _ _) (by omega))
  · have hi2 : i < xs.length := by omega
    have ha : xs[i]? = some xs[i] := List.getElem?_eq_getElem hi2
    refine hs i x H H' xs[i] Q Qn hi e y ha (fun y' H4 e4 hp ey => k y' H4 e4 ?_) fun H3 e3 hp => kn H3 e3 ?_
    · rw [key i _ ha, if_pos hp, ey]
    · rw [key i _ ha, if_neg (by rw [hp]; exact Bool.false_ne_true), List.append_nil]
end
end LL

/-! Leastlooks: is_integer .. inputs. -/
namespace LL
open PySem PySem.Spec PyProof.Rows L2
open Evl (Ex RetV RetL)
section
variable {P : Program} {w : World} {K : PySem.W.Frag} {mg : Str → Option Value} {base : Heap}
def sp_is_integer : Sp := fun vs H Q _ => ∃ v lo hi : Int, vs = [.int v, .int lo, .int hi] ∧ Q (.bl (decide (lo ≤ v) && decide (v ≤ hi))) H
abbrev DfM (K : PySem.W.Frag) (mg : Str → Option Value) (x : Str) (st : Stmt) : Prop := ∃ f, mg x = some (.ref f) ∧ Df K mg x x st [] f
theorem ok_is_integer (D : DfM K mg "is_integer" s_is_integer) (G : Gs K mg) : Ct P w K mg base 1 "is_integer" sp_is_integer := by
  refine ct_of D sc_is_integer (fun vs H Q E h => ?_) (fun _ _ _ _ _ _ us hl => match us, hl with | [_, _, _], _ => rfl) (fun f cdv A outer s H vs Q E hr h => ?_)
  · obtain ⟨_, _, _, rfl, _⟩ := h
    rfl
  · obtain ⟨v, lo, hi, rfl, q⟩ := h
    refine ⟨_, pss_one (ps_ret (pe_and (pe_callB call_isi (by rfl) G.isi boot_isinstance (pa_cons (pv 0) (pa_cons (pe_bltn (v := .ty "int") (by rfl) G.int boot_int rfl) pa_nil)))
      (pe_and (pe_not (pe_callB call_isi (by rfl) G.isi boot_isinstance (pa_cons (pv 0) (pa_cons (pe_bltn (v := .ty "bool") (by rfl) G.bool boot_bool rfl) pa_nil))))
      (pe_one (pe_chain op_le op_le (pv 1) (pv 0) (pv 2)))))), ?_⟩
    refine ⟨_, rfl, _, _, _, _, true, rfl, .ty "int", .base (.int v), kit_ty (by decide +kernel), true, rfl, iteT ?_⟩
    refine ⟨_, rfl, _, _, _, _, false, rfl, .ty "bool", .base (.int v), kit_ty (by decide +kernel), false, rfl, true, rfl, iteT ?_⟩
    refine ⟨_, rfl, _, rfl, lo, v, rfl, rfl, _, rfl, ite2 (fun e => ?_) (fun e => ?_)⟩
    · refine ⟨_, rfl, v, hi, rfl, rfl, ?_⟩
      rw [e, Bool.true_and] at q
      exact q
    · have e2 : decide (lo ≤ v) = false := by simpa using e
      rw [e2, Bool.false_and] at q
      exact q
/-- a text of bits among the signs "01" -/
def sp_has_signs : Sp := fun vs H Q _ => ∃ t : List Bool, vs = [.str (tx t), .str "01"] ∧ t.length ≤ 64 ∧ RetV (.bl (decide (t.length ≤ 6))) H Q
theorem ok_has_signs (D : DfM K mg "has_signs" s_has_signs) (G : Gs K mg) : Ct P w K mg base 1 "has_signs" sp_has_signs := by
  refine ct_of D sc_has_signs (fun vs H Q E h => ?_) (fun _ _ _ _ _ _ us hl => match us, hl with | [_, _], _ => rfl) (fun f cdv A outer s H vs Q E hr h => ?_)
  · obtain ⟨_, rfl, _⟩ := h
    rfl
  · obtain ⟨t, rfl, hl, q⟩ := h
    refine ⟨_, pss_one (ps_ret (pe_and (pe_callB call_isi (by rfl) G.isi boot_isinstance (pa_cons (pv 0) (pa_cons (pe_bltn (v := .ty "str") (by rfl) G.str boot_str rfl) pa_nil)))
      (pe_and (pe_cmpR op_le (pe_callB call_len_str (by rfl) G.len boot_len (pa_cons (pv 0) pa_nil)) (pe_gi G.MOST) (nomark _))
      (pe_one (pe_callB (cr_all rfl) (by rfl) G.all boot_all (pa_cons (pe_lc (own := [("sign", 2)]) (g := gName 2) (tt := tYes) (by rfl) sc_has_signs.nd (pi_str (pv 0)) (blkOk_by (own := [("sign", 2)]) (N := ["value", "signs", "sign"]) (sc := defScope s_has_signs) (by decide +kernel))
        (fun _ _ _ _ _ => pg_name (i := 2) sc_has_signs.nd rfl (Or.inl rfl)) (fun _ _ _ _ _ => pts_nil) (fun _ _ _ _ _ => pe_cmpR op_in_sign (pv 2) (pv 1) (by rfl))) pa_nil)))))), ?_⟩
    refine ⟨_, rfl, _, _, _, _, true, rfl, .ty "str", .base (.str _), kit_ty (by decide +kernel), true, rfl, iteT ?_⟩
    refine ⟨_, rfl, tx t, rfl, line_tx (by omega), _, _, rfl, rfl, _, rfl, ite2 (fun e => ?_) (fun e => ?_)⟩
    · refine ⟨_, rfl, tx t, rfl, fun D0 hD => ?_⟩
      refine lc_map (walk_str (z := tx t)) hD ((t.map fun _ => true).map V.bl) (by rw [List.length_map, List.length_map]; exact (tx_len t).symm) (Nat.le_trans (Nat.le_of_eq (tx_len t)) (by omega)) (fun _ _ => trivial) (fun i x H2 H3 Q2 hi e2 y k => ?_) fun H2 e2 d => ?_
      · obtain ⟨rfl, c, hc, rfl⟩ := y
        refine ⟨rfl, _, rfl, _, rfl, c, _, rfl, rfl, k _ _ (Evl.Ex.refl _) ?_⟩
        have hi2 : i < t.length := Nat.lt_of_lt_of_eq hi (tx_len t)
        rw [List.getElem?_map, List.getElem?_map, List.getElem?_eq_getElem hi2]
        have ec : c = cd t[i] := by
          have h1 : (tx t).cps.toList[i]? = some c := by rw [Array.getElem?_toList]; exact hc
          rw [tx_codes, List.getElem?_map, List.getElem?_eq_getElem hi2] at h1
          exact (Option.some.inj h1).symm
        rw [ec]
        cases t[i] <;> decide +kernel
      · refine ⟨D0, _, rfl, .of d, ?_⟩
        have ea : ((t.map fun _ => true).all id) = true := by simp
        rw [ea]
        have e6 : decide (t.length ≤ 6) = true := decide_eq_true (by have := of_decide_eq_true e; rw [tx_len] at this; omega)
        rw [e6] at q
        exact q H2 e2
    · have e6 : decide (t.length ≤ 6) = false := decide_eq_false (fun z => e (decide_eq_true (by rw [tx_len]; omega)))
      rw [e6] at q
      have e7 : decide (((tx t).length : Int) ≤ 6) = false := by simpa using e
      exact q H (Evl.Ex.refl H)
def sp_is_input : Sp := fun vs H Q _ => ∃ t : List Bool, vs = [.str (tx t)] ∧ t.length ≤ 64 ∧ RetV (.bl (decide (t.length ≤ 6))) H Q
theorem ok_is_input (D : DfM K mg "is_input" s_is_input) (G : Gs K mg) (C1 : Ct P w K mg base 1 "has_signs" sp_has_signs) : Ct P w K mg base 2 "is_input" sp_is_input := by
  refine ct_of D sc_is_input (fun vs H Q E h => ?_) (fun _ _ _ _ _ _ us hl => match us, hl with | [_], _ => rfl) (fun f cdv A outer s H vs Q E hr h => ?_)
  · obtain ⟨_, rfl, _⟩ := h
    rfl
  · obtain ⟨t, rfl, hl, q⟩ := h
    refine ⟨_, pss_one (ps_ret (pe_ct C1 hr (by rfl) (pa_cons (pv 0) (pa_cons (pe_gs G.BITS) pa_nil)))), ?_⟩
    exact ⟨_, rfl, t, rfl, hl, q⟩
def sp_need_count : Sp := fun vs H Q _ => ∃ n : Int, vs = [.int n] ∧ 0 ≤ n ∧ n ≤ 6 ∧ Q .non H
theorem ok_need_count (D : DfM K mg "need_count" s_need_count) (G : Gs K mg) (C1 : Ct P w K mg base 1 "is_integer" sp_is_integer) : Ct P w K mg base 2 "need_count" sp_need_count := by
  refine ct_of D sc_need_count (fun vs H Q E h => ?_) (fun _ _ _ _ _ _ us hl => match us, hl with | [_], _ => rfl) (fun f cdv A outer s H vs Q E hr h => ?_)
  · obtain ⟨_, rfl, _⟩ := h
    rfl
  · obtain ⟨n, rfl, h0, h6, q⟩ := h
    refine ⟨_, pss_one (ps_if (pt_not (pt_val (pe_ct C1 hr (by rfl) (pa_cons (pv 0) (pa_cons pe_int (pa_cons (pe_gi G.MOST) pa_nil)))))) (pss_one ps_never) pss_nil), ?_⟩
    refine ⟨_, rfl, n, 0, 6, rfl, _, rfl, ?_⟩
    rw [decide_eq_true h0, decide_eq_true h6]
    exact q
def sp_need_input : Sp := fun vs H Q _ => ∃ t : List Bool, vs = [.str (tx t), .int (t.length : Int)] ∧ t.length ≤ 6 ∧ RetV .non H Q
theorem ok_need_input (D : DfM K mg "need_input" s_need_input) (G : Gs K mg) (C1 : Ct P w K mg base 2 "is_input" sp_is_input) : Ct P w K mg base 3 "need_input" sp_need_input := by
  refine ct_of D sc_need_input (fun vs H Q E h => ?_) (fun _ _ _ _ _ _ us hl => match us, hl with | [_, _], _ => rfl) (fun f cdv A outer s H vs Q E hr h => ?_)
  · obtain ⟨_, rfl, _⟩ := h
    rfl
  · obtain ⟨t, rfl, hl, q⟩ := h
    refine ⟨_, pss_one (ps_if (PW.pt (pw_or (pt_not (pt_val (pe_ct C1 hr (by rfl) (pa_cons (pv 0) pa_nil)))) (pw_or1 (pt_cmpR op_ne (pe_callB call_len_str (by rfl) G.len boot_len (pa_cons (pv 0) pa_nil)) (pv 1) (nomark _))))) (pss_one ps_never) pss_nil), ?_⟩
    refine ⟨_, rfl, t, rfl, by omega, fun H2 e2 => ⟨_, rfl, ?_⟩⟩
    rw [decide_eq_true hl]
    refine ⟨_, rfl, tx t, rfl, line_tx (by omega), _, rfl, rfl, _, rfl, ?_⟩
    rw [tx_len, decide_eq_true rfl]
    exact q H2 e2
def sp_need_position : Sp := fun vs H Q _ => ∃ p n : Int, vs = [.int p, .int n] ∧ 0 ≤ p ∧ p < n ∧ Q .non H
theorem ok_need_position (D : DfM K mg "need_position" s_need_position) (G : Gs K mg) (C1 : Ct P w K mg base 1 "is_integer" sp_is_integer) : Ct P w K mg base 2 "need_position" sp_need_position := by
  refine ct_of D sc_need_position (fun vs H Q E h => ?_) (fun _ _ _ _ _ _ us hl => match us, hl with | [_, _], _ => rfl) (fun f cdv A outer s H vs Q E hr h => ?_)
  · obtain ⟨_, _, rfl, _⟩ := h
    rfl
  · obtain ⟨p, n, rfl, h0, h6, q⟩ := h
    refine ⟨_, pss_one (ps_if (pt_not (pt_val (pe_ct C1 hr (by rfl) (pa_cons (pv 0) (pa_cons pe_int (pa_cons (pe_op op_sub (pv 1) pe_int) pa_nil)))))) (pss_one ps_never) pss_nil), ?_⟩
    refine ⟨_, rfl, _, rfl, n, 1, rfl, rfl, p, 0, n - 1, rfl, _, rfl, ?_⟩
    rw [decide_eq_true h0, decide_eq_true (show p ≤ n - 1 by omega)]
    exact q
end
end LL

/-! Leastlooks: strings, inputs. -/
namespace LL
open PySem PySem.Spec PyProof.Rows L2
open Evl (Ex RetV RetL)
section
variable {P : Program} {w : World} {K : PySem.W.Frag} {mg : Str → Option Value} {base : Heap}
theorem tyes {σ : L2.St} {H : Hp} {Q : Bool → Hp → Prop} (h : Q true H) : tYes σ H Q := h
theorem ins_len : ∀ n, (LM.ins n).length = 2 ^ n
  | 0 => rfl
  | n + 1 => by
    show ((LM.ins n).flatMap fun t => [t ++ [false], t ++ [true]]).length = _
    rw [List.length_flatMap]
    have : ∀ l : List (List Bool), (l.map fun t => ([t ++ [false], t ++ [true]] : List (List Bool)).length).sum = 2 * l.length := by
      intro l
      induction l with
      | nil => rfl
      | cons a r ih =>
        simp only [List.map_cons, List.sum_cons, List.length_cons, List.length_nil] at ih ⊢
        omega
    rw [this, ins_len n, Nat.pow_succ]
    omega
theorem ins_small {n : Nat} (h : n ≤ 3) : (LM.ins n).length ≤ 8 := by
  rw [ins_len]
  exact Nat.pow_le_pow_right (by decide) h
def sp_strings : Sp := fun vs H Q _ => ∃ n : Nat, vs = [.int (n : Int), .str "01"] ∧ n ≤ 3 ∧ RetL (txs (LM.ins n)) H Q
abbrev nx2 (t : List Bool) : List (List Bool) := [t ++ [false], t ++ [true]]
theorem ok_strings (D : DfM K mg "strings" s_strings) (G : Gs K mg) : Ct P w K mg base 1 "strings" sp_strings := by
  refine ct_of D sc_strings (fun vs H Q E h => ?_) (fun _ _ _ _ _ _ us hl => match us, hl with | [_, _], _ => rfl) (fun f cdv A outer s H vs Q E hr h => ?_)
  · obtain ⟨_, rfl, _⟩ := h
    rfl
  · obtain ⟨n, rfl, hn, q⟩ := h
    refine ⟨_, pss_cons (ps_set (i := 2) sc_strings.nd rfl (.inl rfl) (pe_lst (pa_cons pe_str pa_nil)))
      (pss_cons (ps_for PassesOwn.never rfl (pi_range1 (by rfl) G.range (pa_cons (pv 0) pa_nil)) (pg_name (i := 3) sc_strings.nd rfl (.inl rfl))
        (pss_one (ps_setLc2 (i := 2) (own := [("text", 4), ("sign", 5)]) (g := gName 4) (g1 := gName 5) (tt := tYes) (tt1 := tYes) (vs1 := [5]) (by rfl) sc_strings.nd rfl rfl (sw_true rfl rfl rfl (by decide +kernel)) (pi_list (pv 2))
          (blkOk_by (own := [("text", 4), ("sign", 5)]) (N := ["many", "signs", "found", "turn", "text", "sign"]) (sc := defScope s_strings) (by decide +kernel)) (by decide)
          (fun _ _ _ _ _ => pg_name (i := 4) sc_strings.nd rfl (Or.inl rfl)) (fun _ _ _ _ _ => pts_nil) (fun _ _ _ _ _ => pi_str (pv 1)) (fun _ _ _ _ _ => pg_name (i := 5) sc_strings.nd rfl (Or.inl rfl)) (fun _ _ _ _ _ => pts_nil)
          (fun _ _ _ _ _ => pe_op op_add_str (pv 4) (pv 5)))))
      (pss_one (ps_ret (pv 2)))), ?_⟩
    refine ⟨by show 1 ≤ sizeLine; decide, new_at fun p H2 hp e2 h2 => ?_⟩
    refine ⟨_, rfl, (n : Int), rfl, by omega, by omega, ?_⟩
    refine for_range (n := ((n : Int)).toNat) (fun i σ H3 => ∃ p x3, σ = [some (.int (n : Int)), some (.str "01"), some (.ref p), x3, none, none] ∧ H p = none ∧ Ex H H3 ∧ H3 p = some (.lst (txs (LM.ins i)))) ?_ ?_ ?_
    · refine ⟨p, none, rfl, hp, e2, ?_⟩
      rw [h2]
      rfl
    · rintro i σ H3 hi ⟨p3, x3, rfl, hp3, e3, h3⟩
      refine ⟨_, rfl, p3, rfl, ⟨_, .of h3⟩, fun D0 hD => ?_⟩
      generalize hts : LM.ins i = ts at h3
      have hi3 : i < n := by omega
      have hlen : ts.length ≤ 8 := by rw [← hts]; exact ins_small (by omega)
      have htl : ∀ t ∈ ts, t.length = i := fun t ht => (LM.mem_ins i t).mp (by rw [hts]; exact ht)
      refine ⟨fun j m H4 => m = ts.length - j ∧ j ≤ ts.length ∧ Ex H3 H4 ∧ H4 D0 = some (.lst (txs ((ts.take j).flatMap nx2))), ⟨ts.length, rfl, Nat.zero_le _, Evl.Ex.new hD, by rw [upd_same]; rfl⟩, ?_⟩
      rintro j m H4 ⟨rfl, hj, e4, h4⟩
      have h4l : SqL K H4 p3 (txs ts) := .of (e4 _ _ h3)
      by_cases hlt : j < ts.length
      · refine .inr ⟨⟨_, V.str (tx ts[j]), h4l, by unfold txs; rw [List.getElem?_map, List.getElem?_eq_getElem hlt]; rfl⟩, fun H' => Ex H3 H' ∧ H' D0 = some (.lst (txs ((ts.take (j + 1)).flatMap nx2))), fun H' p' => ⟨ts.length - (j + 1), by omega, rfl, hlt, p'⟩, fun x H' y => ?_⟩
        obtain ⟨rfl, fx⟩ := y
        have ex : x = V.str (tx ts[j]) := by
          have := fx _ h4l
          unfold txs at this
          rw [List.getElem?_map, List.getElem?_eq_getElem hlt] at this
          exact (Option.some.inj this).symm
        subst ex
        have hl5 : (ts[j]).length = i := htl _ (List.getElem_mem hlt)
        have hb : ((ts.take j).flatMap nx2).length ≤ 16 := by
          have : ∀ l : List (List Bool), (l.flatMap nx2).length = 2 * l.length := by
            intro l
            induction l with
            | nil => rfl
            | cons a r ih =>
              rw [List.flatMap_cons, List.length_append, ih]
              show 2 + _ = _
              rw [List.length_cons]
              omega
          rw [this, List.length_take]
          omega
        refine ⟨rfl, ?_⟩
        refine tyes (iteT ?_)
        refine ⟨_, rfl, "01", rfl, ?_⟩
        refine ⟨fun k m H5 => m = 2 - k ∧ k ≤ 2 ∧ Ex H3 H5 ∧ H5 D0 = some (.lst (txs ((ts.take j).flatMap nx2 ++ (nx2 ts[j]).take k))), ⟨2, rfl, by omega, e4, by rw [h4]; simp⟩, ?_⟩
        rintro k m H5 ⟨rfl, hk, e5, h5⟩
        by_cases hk2 : k < 2
        · refine .inr ⟨by show k < 2; exact hk2, fun H' => Ex H3 H' ∧ H' D0 = some (.lst (txs ((ts.take j).flatMap nx2 ++ (nx2 ts[j]).take (k + 1)))), fun H' p' => ⟨2 - (k + 1), by omega, rfl, by omega, p'⟩, fun x H' y => ?_⟩
          obtain ⟨rfl, c, hc, rfl⟩ := y
          obtain ⟨b, hb1, hb2⟩ : ∃ b, c = cd b ∧ (nx2 ts[j])[k]? = some (ts[j] ++ [b]) := by
            have hc2 : (tx [false, true]).cps[k]? = some c := by rw [tx01]; exact hc
            match k, hk2, hc2 with
            | 0, _, h => exact ⟨false, (Option.some.inj h).symm, rfl⟩
            | 1, _, h => exact ⟨true, (Option.some.inj h).symm, rfl⟩
          subst hb1
          refine ⟨rfl, ?_⟩
          refine tyes (iteT ?_)
          refine ⟨_, rfl, _, rfl, tx ts[j], tx [b], rfl, rfl, ?_, ?_⟩
          · rw [tx_len, tx_len]
            exact sz6 (by rw [List.length_singleton]; omega)
          · refine ⟨_, h5, ?_, e5.mut hD, ?_⟩
            · unfold txs
              rw [List.length_map, List.length_append, List.length_take]
              exact small1000 (by omega)
            · rw [upd_same, ← tx_app]
              unfold txs
              rw [List.take_add_one, hb2, ← List.append_assoc, List.map_append (l₂ := (some (ts[j] ++ [b])).toList)]
              rfl
        · have e2 : k = 2 := by omega
          subst e2
          refine .inl ⟨by show 2 ≤ 2; exact Nat.le_refl _, e5, ?_⟩
          have et : ts.take (j + 1) = ts.take j ++ [ts[j]] := by
            rw [List.take_add_one, List.getElem?_eq_getElem hlt]
            rfl
          rw [h5, et, List.flatMap_append]
          simp [nx2]
      · have ej : j = ts.length := by omega
        subst ej
        refine .inl ⟨⟨_, h4l, by unfold txs; rw [List.length_map]; exact Nat.le_refl _⟩, D0, _, rfl, Evl.fresh_back e3 hD, e3.trans e4, ?_⟩
        rw [h4, List.take_length, ← hts]
        rfl
    · rintro σ H3 ⟨p3, x3, rfl, hp3, e3, h3⟩
      refine ⟨_, rfl, q p3 H3 hp3 e3 ?_⟩
      rw [h3]
      rfl
def sp_inputs : Sp := fun vs H Q _ => ∃ n : Nat, vs = [.int (n : Int)] ∧ n ≤ 3 ∧ RetL (txs (LM.ins n)) H Q
theorem ok_inputs (D : DfM K mg "inputs" s_inputs) (G : Gs K mg) (C1 : Ct P w K mg base 2 "need_count" sp_need_count) (C2 : Ct P w K mg base 2 "strings" sp_strings) : Ct P w K mg base 3 "inputs" sp_inputs := by
  refine ct_of D sc_inputs (fun vs H Q E h => ?_) (fun _ _ _ _ _ _ us hl => match us, hl with | [_], _ => rfl) (fun f cdv A outer s H vs Q E hr h => ?_)
  · obtain ⟨_, rfl, _⟩ := h
    rfl
  · obtain ⟨n, rfl, hn, q⟩ := h
    refine ⟨_, pss_cons (ps_expr (pe_ct C1 hr (by rfl) (pa_cons (pv 0) pa_nil))) (pss_one (ps_ret (pe_ct C2 hr (by rfl) (pa_cons (pv 0) (pa_cons (pe_gs G.BITS) pa_nil))))), ?_⟩
    exact ⟨_, rfl, (n : Int), rfl, by omega, by omega, _, rfl, n, rfl, hn, q⟩
end
end LL

/-! Leastlooks: zip of two sources of any kind (a text, a list, a tuple), over the layer. -/
namespace LL
open PySem PySem.Spec PyProof.Rows L2
open Evl (Ex RetV RetL)
/-- what zip walks -/
inductive Src where
  | txt (x : Str) | lst (a : Addr) | tup (a : Addr)
def Src.at : Src → List Addr
  | .txt _ => []
  | .lst a => [a]
  | .tup a => [a]
def signsV (x : Str) : List V := x.cps.toList.map fun c => V.str ⟨#[c]⟩
def Src.has (K : PySem.W.Frag) (H : Hp) : Src → List V → Prop
  | .txt x, xs => xs = signsV x
  | .lst a, xs => SqL K H a xs
  | .tup a, xs => SqT K H a xs
def Src.it (it : Addr) (t : Tok) : Src → Nat → Heap → Prop
  | .txt x, i, h => h.IsStrIter it (strIterType x) x t i
  | .lst a, i, h => h.IsListIter it a i
  | .tup a, i, h => h.IsTupleIter it a i
def Src.obj (t : Tok) : Src → Obj
  | .txt x => { cls := .type (strIterType x), data := .fields #[.str x t, .int 0 0] }
  | .lst a => { cls := .type "list_iterator", data := .fields #[.ref a, .int 0 0] }
  | .tup a => { cls := .type "tuple_iterator", data := .fields #[.ref a, .int 0 0] }
def Src.val (t : Tok) : Src → Value
  | .txt x => .str x t
  | .lst a => .ref a
  | .tup a => .ref a
theorem Src.it_keep {it : Addr} {t : Tok} {S : Src} {i : Nat} {h h' : Heap} (q : S.it it t i h) (k : ∀ o, h.get? it = some o → h'.get? it = some o) : S.it it t i h' := by
  cases S with
  | txt x =>
    obtain ⟨o, ho, r⟩ := (show h.IsStrIter it (strIterType x) x t i from q)
    exact ⟨o, k o ho, r⟩
  | lst a => exact Heap.IsListIter.at (show h.IsListIter it a i from q) k
  | tup a => exact Heap.IsTupleIter.at (show h.IsTupleIter it a i from q) k
theorem Src.it_obj {it : Addr} {t : Tok} {S : Src} {i : Nat} {h : Heap} (q : S.it it t i h) : ∃ o, h.get? it = some o ∧ ∀ v, o.data ≠ .cell v := by
  cases S with
  | txt x =>
    obtain ⟨o, ho, _, d⟩ := (show h.IsStrIter it (strIterType x) x t i from q)
    exact ⟨o, ho, fun v z => by rw [d] at z; cases z⟩
  | lst a =>
    obtain ⟨o, ho, _, d⟩ := (show h.IsListIter it a i from q)
    exact ⟨o, ho, fun v z => by rw [d] at z; cases z⟩
  | tup a =>
    obtain ⟨o, ho, _, d⟩ := (show h.IsTupleIter it a i from q)
    exact ⟨o, ho, fun v z => by rw [d] at z; cases z⟩
theorem Src.it_new {it : Addr} {t : Tok} {S : Src} {h : Heap} (q : h.get? it = some (S.obj t)) : S.it it t 0 h := by
  cases S with
  | txt x => exact ⟨_, q, rfl, rfl⟩
  | lst a => exact ⟨_, q, rfl, rfl⟩
  | tup a => exact ⟨_, q, rfl, rfl⟩
section
variable {X : Cx} {pins : List (Addr × Obj)} {σ : L2.St} {H : Hp} {s : Shared}
theorem Src.has_inj {S : Src} {xs ys : List V} (I : Inv X pins σ H s) (h : S.has X.K H xs) (h' : S.has X.K H ys) : xs = ys := by
  cases S with
  | txt x => exact (show xs = signsV x from h).trans (show ys = signsV x from h').symm
  | lst a => exact I.list_inj h h'
  | tup a => exact I.tuple_inj h h'
/-- what its iterator draws, as the heap stands -/
theorem Src.draws {A : Around} {S : Src} {xs : List V} {it : Addr} (t : Tok) (hh : A.handled = none) (I : Inv X pins σ H s) (h : S.has X.K H xs) (ne : ∀ a ∈ S.at, a ≠ it) :
    ∃ (fp : List Addr) (P : Nat → Value → Prop) (St : Nat → Heap → Prop), Draws X.prog X.w A it fp xs.length P St ∧ it ∈ fp ∧ (∀ b ∈ fp, b = it ∨ b ∈ S.at) ∧ (∀ i v, P i v → ∃ y, xs[i]? = some y ∧ RelV y v) ∧
      (∀ i h', St i h' → S.it it t i h') ∧ ∀ i, S.it it t i s.heap → St i s.heap := by
  cases S with
  | txt x =>
    have ex : xs = signsV x := h
    subst ex
    refine ⟨[it], fun i v => SignAt x i v, fun i h => h.IsStrIter it (strIterType x) x t i, ?_, by simp, fun b hb => .inl (by simpa using hb), fun i v p => ?_, fun i h' q => q, fun i q => q⟩
    · have e : (signsV x).length = x.cps.size := by unfold signsV; rw [List.length_map, Array.length_toList]
      rw [e]
      exact Draws.text hh it x t
    · obtain ⟨c, u, hc, rfl⟩ := p
      refine ⟨.str ⟨#[c]⟩, ?_, ⟨u, rfl⟩⟩
      unfold signsV
      rw [List.getElem?_map, Array.getElem?_toList, hc]
      rfl
  | lst a =>
    obtain ⟨its, rv, p, _⟩ := I.list (show SqL X.K H a xs from h)
    have hl := rv.length
    refine ⟨[it, a], fun i v => its.toArray[i]? = some v, fun i h => h.IsListIter it a i ∧ h.IsList a its.toArray, ?_, by simp, fun b hb => ?_, fun i v hv => ?_, fun i h' q => q.1, fun i q => ⟨q, p.isList⟩⟩
    · have D := Draws.list (prog := X.prog) (w := X.w) hh it a (ne a (by simp [Src.at])) its.toArray
      rw [List.size_toArray, ← hl] at D
      exact D
    · rcases List.mem_cons.mp hb with e | e
      · exact .inl e
      · exact .inr e
    · have hi : i < xs.length := by
        have : i < its.length := by
          have hv' : its[i]? = some v := by simpa using hv
          exact (List.getElem?_eq_some_iff.mp hv').1
        omega
      obtain ⟨u, hu, ru⟩ := rv.get (List.getElem?_eq_getElem hi)
      refine ⟨xs[i], List.getElem?_eq_getElem hi, ?_⟩
      have hv' : its[i]? = some v := by simpa using hv
      rw [hu] at hv'
      cases hv'
      exact ru
  | tup a =>
    obtain ⟨its, rv, p, _⟩ := I.tuple (show SqT X.K H a xs from h)
    have hl := rv.length
    refine ⟨[it, a], fun i v => its.toArray[i]? = some v, fun i h => h.IsTupleIter it a i ∧ h.IsTuple a its.toArray, ?_, by simp, fun b hb => ?_, fun i v hv => ?_, fun i h' q => q.1, fun i q => ⟨q, p⟩⟩
    · have D := Draws.tuple (prog := X.prog) (w := X.w) hh it a (ne a (by simp [Src.at])) its.toArray
      rw [List.size_toArray, ← hl] at D
      exact D
    · rcases List.mem_cons.mp hb with e | e
      · exact .inl e
      · exact .inr e
    · have hi : i < xs.length := by
        have : i < its.length := by
          have hv' : its[i]? = some v := by simpa using hv
          exact (List.getElem?_eq_some_iff.mp hv').1
        omega
      obtain ⟨u, hu, ru⟩ := rv.get (List.getElem?_eq_getElem hi)
      refine ⟨xs[i], List.getElem?_eq_getElem hi, ?_⟩
      have hv' : its[i]? = some v := by simpa using hv
      rw [hu] at hv'
      cases hv'
      exact ru
theorem Src.begins {S : Src} {xs : List V} (t : Tok) (I : Inv X pins σ H s) (h : S.has X.K H xs) : ∃ Hk : Heap → Prop, Begins (S.val t) (S.obj t) Hk ∧ Hk s.heap := by
  cases S with
  | txt x => exact ⟨_, begins_text x t, trivial⟩
  | lst a =>
    obtain ⟨its, rv, p, _⟩ := I.list (show SqL X.K H a xs from h)
    exact ⟨_, begins_list a its.toArray, p.isList⟩
  | tup a =>
    obtain ⟨its, rv, p, _⟩ := I.tuple (show SqT X.K H a xs from h)
    exact ⟨_, begins_tuple a its.toArray, p⟩
theorem Src.lt {S : Src} {xs : List V} (I : Inv X pins σ H s) (h : S.has X.K H xs) : ∀ a ∈ S.at, a < s.heap.objs.size := by
  cases S with
  | txt x => intro a ha; cases ha
  | lst b =>
    obtain ⟨its, rv, p, _⟩ := I.list (show SqL X.K H b xs from h)
    intro a ha
    have e : a = b := by simpa [Src.at] using ha
    rw [e]
    exact p.lt
  | tup b =>
    obtain ⟨its, rv, p, _⟩ := I.tuple (show SqT X.K H b xs from h)
    intro a ha
    have e : a = b := by simpa [Src.at] using ha
    rw [e]
    obtain ⟨o, ho, _⟩ := p
    exact Heap.lt_size ho
end
/-- the sources as they stand at each turn, the items in new pairs -/
def ItzS (K : PySem.W.Frag) (S1 S2 : Src) : It :=
  ⟨fun i H => ∃ xs ys : List V, S1.has K H xs ∧ S2.has K H ys ∧ i < xs.length ∧ i < ys.length,
    fun i H v H' => ∃ T x y, v = .ref T ∧ H T = none ∧ H' = upd H T (.tup [x, y]) ∧ (∀ xs, S1.has K H xs → xs[i]? = some x) ∧ ∀ ys, S2.has K H ys → ys[i]? = some y,
    fun i H => ∃ xs ys : List V, S1.has K H xs ∧ S2.has K H ys ∧ i ≤ xs.length ∧ i ≤ ys.length ∧ (i = xs.length ∨ i = ys.length)⟩
/-- the zip's cells stand apart -/
structure ApartS (z TI TO i1 i2 : Addr) (S1 S2 : Src) : Prop where
  TIz : TI ≠ z
  TOz : TO ≠ z
  TITO : TI ≠ TO
  TIi1 : TI ≠ i1
  TIi2 : TI ≠ i2
  zi1 : z ≠ i1
  zi2 : z ≠ i2
  Ti1 : TO ≠ i1
  Ti2 : TO ≠ i2
  i12 : i1 ≠ i2
  at1 : ∀ a ∈ S1.at, a ≠ z ∧ a ≠ TO ∧ a ≠ i1 ∧ a ≠ i2
  at2 : ∀ a ∈ S2.at, a ≠ z ∧ a ≠ TO ∧ a ≠ i1 ∧ a ≠ i2
theorem ApartS.sep {z TI TO i1 i2 : Addr} {S1 S2 : Src} (D : ApartS z TI TO i1 i2 S1 S2) {fp1 fp2 : List Addr} (m1 : i1 ∈ fp1) (s1 : ∀ b ∈ fp1, b = i1 ∨ b ∈ S1.at) (m2 : i2 ∈ fp2) (s2 : ∀ b ∈ fp2, b = i2 ∨ b ∈ S2.at) : ZipSep2 z TI TO i1 i2 fp1 fp2 where
  TIz := D.TIz
  TOz := D.TOz
  TITO := D.TITO
  TIi1 := D.TIi1
  mem1 := m1
  zf1 := fun h => (s1 _ h).elim D.zi1 fun q => (D.at1 _ q).1 rfl
  Tf1 := fun h => (s1 _ h).elim D.Ti1 fun q => (D.at1 _ q).2.1 rfl
  TIi2 := D.TIi2
  mem2 := m2
  zf2 := fun h => (s2 _ h).elim D.zi2 fun q => (D.at2 _ q).1 rfl
  Tf2 := fun h => (s2 _ h).elim D.Ti2 fun q => (D.at2 _ q).2.1 rfl
  sep1_2 := fun h => (s2 _ h).elim D.i12 fun q => (D.at2 _ q).2.2.1 rfl
  sep2_1 := fun h => (s1 _ h).elim (fun e => D.i12 e.symm) fun q => (D.at1 _ q).2.2.2 rfl
theorem turn_zipS {P : Program} {w : World} {K : PySem.W.Frag} {elts : List Expr} {kk : Nat} {tpos : Pos} {S1 S2 : Src} {t1 t2 : Tok} {z TI TO i1 i2 : Addr} (D : ApartS z TI TO i1 i2 S1 S2) :
    Turn P w K (.Tuple elts kk tpos) (ItzS K S1 S2) [z, TI, TO, i1, i2] z (fun i h => IsZip h z TI TO .none ∧ IsTupOf2 h TI (.ref i1) (.ref i2) ∧ (∃ x y, IsTupOf2 h TO x y) ∧ S1.it i1 t1 i h ∧ S2.it i2 t2 i h) where
  mem := by simp
  obj := fun i h st c hc => by
    obtain ⟨hz, hTI, ⟨x, y, hTO⟩, h1, h2⟩ := st
    have e' : c = z ∨ c = TI ∨ c = TO ∨ c = i1 ∨ c = i2 := by simpa using hc
    rcases e' with q | q | q | q | q
    · rw [q]; exact ⟨_, hz, fun v q => nomatch q⟩
    · rw [q]; exact ⟨_, hTI, fun v q => nomatch q⟩
    · rw [q]; exact ⟨_, hTO, fun v q => nomatch q⟩
    · rw [q]; exact Src.it_obj (S := S1) (it := i1) (t := t1) h1
    · rw [q]; exact Src.it_obj (S := S2) (it := i2) (t := t2) h2
  keep := fun i h h' st k => by
    obtain ⟨hz, hTI, ⟨x, y, hTO⟩, h1, h2⟩ := st
    exact ⟨k z (by simp) _ hz, k TI (by simp) _ hTI, ⟨x, y, k TO (by simp) _ hTO⟩, Src.it_keep (S := S1) (it := i1) (t := t1) h1 fun o q => k i1 (by simp) o q, Src.it_keep (S := S2) (it := i2) (t := t2) h2 fun o q => k i2 (by simp) o q⟩
  item := by
    intro X hP hw hK hc i pins s σ H E I hf st hg
    subst hP hw hK
    obtain ⟨hz, hTI, ⟨x0, y0, hTO⟩, h1, h2⟩ := st
    obtain ⟨xs, ys, hqx, hqy, hx, hy⟩ := hg
    have hh : X.A.in1.handled = none := I.ok.hd hc
    obtain ⟨fp1, P1, St1, D1, m1, u1, p1, b1, c1⟩ := Src.draws (A := X.A.in1) t1 hh I hqx fun a ha => (D.at1 a ha).2.2.1
    obtain ⟨fp2, P2, St2, D2, m2, u2, p2, b2, c2⟩ := Src.draws (A := X.A.in1) t2 hh I hqy fun a ha => (D.at2 a ha).2.2.2
    have hzl : z < s.heap.objs.size := Heap.lt_size hz
    refine wpAny_pyNext_zipD2_item (D.sep m1 u1 m2 u2) D1 D2 hz hTI hTO (c1 i h1) (c2 i h2) hx hy fun u v h' tk pu pv z' TO' h1' h2' hT hsz hk => ?_
    obtain ⟨x, hxi, ru⟩ := p1 i u pu
    obtain ⟨y, hyi, rv⟩ := p2 i v pv
    refine ⟨_, rfl, wpAny_letOwnedTupleGo_zip (s := { s with heap := h', toks := tk }) z' fun h'' z'' sb => ?_⟩
    have hT2 : h''.get? s.heap.objs.size = some { cls := .type "tuple", data := .seq #[u, v] } := (sb.2 _ (Nat.ne_of_gt hzl)).trans hT
    have new : ObjOk X.prog X.w (upd H s.heap.objs.size (.tup [x, y])) h'' s.heap.objs.size (.tup [x, y]) :=
      ⟨by show 2 ≤ sizeLine; decide, [u, v], .cons ru (.cons rv .nil), ⟨_, hT2, rfl, _, rfl⟩⟩
    have kept : ∀ c o, c ∉ [z, TI, TO, i1, i2] → s.heap.get? c = some o → h''.get? c = some o := fun c o hb q =>
      (sb.2 c fun q' => hb (by simp [q'])).trans (hk c o (fun q' => hb (by simp [q'])) (fun q' => hb (by simp [q'])) (fun q' => hb (by simp [q'])) (fun q' => hb (by simp [q'])) q)
    have I1 : Inv X pins σ (upd H s.heap.objs.size (.tup [x, y])) { s with heap := h'', toks := tk } := I.turnedNew (t' := tk) (ch := [z, TI, TO, i1, i2]) kept hf (Nat.le_refl _) new
    refine ⟨.ref s.heap.objs.size, _, I1, rfl, ⟨_, x, y, rfl, I.hok.fresh (Nat.le_refl _), rfl, fun l hl => by rw [Src.has_inj I hl hqx]; exact hxi, fun l hl => by rw [Src.has_inj I hl hqy]; exact hyi⟩, ⟨z'', ?_, ⟨u, v, ?_⟩, ?_, ?_⟩, fun c hcm => ?_⟩
    · exact (sb.2 _ D.TIz).trans (hk _ _ D.TIz D.TITO D.TIi1 D.TIi2 hTI)
    · exact (sb.2 _ D.TOz).trans TO'
    · exact Src.it_keep (S := S1) (it := i1) (t := t1) (b1 _ _ h1') fun o q => (sb.2 _ D.zi1.symm).trans q
    · exact Src.it_keep (S := S2) (it := i2) (t := t2) (b2 _ _ h2') fun o q => (sb.2 _ D.zi2.symm).trans q
    · have hlt : c < s.heap.objs.size := by
        have e' : c = z ∨ c = TI ∨ c = TO ∨ c = i1 ∨ c = i2 := by simpa using hcm
        rcases e' with q | q | q | q | q
        · rw [q]; exact hzl
        · rw [q]; exact Heap.lt_size hTI
        · rw [q]; exact Heap.lt_size hTO
        · rw [q]; obtain ⟨_, e1, _⟩ := Src.it_obj (S := S1) (it := i1) (t := t1) h1; exact Heap.lt_size e1
        · rw [q]; obtain ⟨_, e2, _⟩ := Src.it_obj (S := S2) (it := i2) (t := t2) h2; exact Heap.lt_size e2
      rw [upd_ne (Nat.ne_of_lt hlt)]
      exact (hf c hcm).1
  done := by
    intro X hP hw hK hc i pins s σ H E I hf st hg
    subst hP hw hK
    obtain ⟨hz, hTI, ⟨x0, y0, hTO⟩, h1, h2⟩ := st
    obtain ⟨xs, ys, hqx, hqy, hx, hy, hend⟩ := hg
    have hh : X.A.in1.handled = none := I.ok.hd hc
    obtain ⟨fp1, P1, St1, D1, m1, u1, p1, b1, c1⟩ := Src.draws (A := X.A.in1) t1 hh I hqx fun a ha => (D.at1 a ha).2.2.1
    obtain ⟨fp2, P2, St2, D2, m2, u2, p2, b2, c2⟩ := Src.draws (A := X.A.in1) t2 hh I hqy fun a ha => (D.at2 a ha).2.2.2
    exact wpAny_pyNext_zipD2_end (D.sep m1 u1 m2 u2) D1 D2 hz hTI hTO (c1 i h1) (c2 i h2) hx hy hend fun h' tk hk => ⟨rfl, I.turnedL (t' := tk) (ch := [z, TI, TO, i1, i2]) (fun c o hb q =>
      hk c o (fun q' => hb (by simp [q'])) (fun q' => hb (by simp [q'])) (fun q' => hb (by simp [q'])) (fun q' => hb (by simp [q'])) q) hf⟩
  self := fun A i s Q E st h => wpAny_pyIter_zip st.1 h
def srcV : Src → V
  | .txt x => .str x
  | .lst a => .ref a
  | .tup a => .ref a
theorem src_val {S : Src} {u : Value} (r : RelV (srcV S) u) : ∃ t, u = S.val t := by
  cases S with
  | txt x => exact r
  | lst a => exact ⟨0, r⟩
  | tup a => exact ⟨0, r⟩
def iZipS (K : PySem.W.Frag) (ta : TA) : TI := fun σ H R => ta σ H fun vs H1 => ∃ S1 S2 xs ys, vs = [srcV S1, srcV S2] ∧ S1.has K H1 xs ∧ S2.has K H1 ys ∧ R (ItzS K S1 S2) H1
theorem pi_zipS {X : Cx} {e e2 : Expr} {ta : TA} {p pos tpos : Pos} {elts : List Expr} {kk : Nat} (hg : Gl X "zip") (hm : X.mg "zip" = none) (ha : PA X [e, e2] ta)
    (hs : starEach [e, e2] X.env = (false, eval e X.env) :: starEach [e2] X.env := by rfl) (hpl : (backTo pos (starEach [e2] X.env)).any (·.1) = false := by rfl) :
    PI X (.Tuple elts kk tpos) (.Call (.Name "zip" p) [e, e2] [] pos) (iZipS X.K ta) := by
  refine ⟨fun pins s σ H R I h => ?_⟩
  refine Call_ (ld_blt I hg hm PyProof.Rows.boot_zip (PyProof.Rows.callWith_type1 (thn (ha.run pos pins s σ H _ I h) fun us s1 ⟨vs, H1, I1, r1, q1⟩ => ?_) hs hpl))
  obtain ⟨S1, S2, xs, ys, ex, hqx, hqy, q⟩ := q1
  subst ex
  obtain ⟨u1, u2, rfl, ra, rb⟩ := vals2 r1
  obtain ⟨t1, rfl⟩ := src_val ra
  obtain ⟨t2, rfl⟩ := src_val rb
  obtain ⟨K1, B1, k1⟩ := Src.begins t1 I1 hqx
  obtain ⟨K2, B2, k2⟩ := Src.begins t2 I1 hqy
  have lt1 := Src.lt I1 hqx
  have lt2 := Src.lt I1 hqy
  refine zip_begins2 B1 B2 k1 k2 fun h' hz hTI hTO h1 h2 hsz hk => wpAny_pyIter_zip hz ?_
  have I2 : Inv X pins σ H1 { s1 with heap := h' } := I1.kept (t' := s1.toks) hk
  have ap : ApartS (s1.heap.objs.size + 4) (s1.heap.objs.size + 2) (s1.heap.objs.size + 3) s1.heap.objs.size (s1.heap.objs.size + 1) S1 S2 := by
    generalize s1.heap.objs.size = n at lt1 lt2 ⊢
    have nn : ∀ {a b : Nat}, a < b → (a : Addr) ≠ (b : Addr) := fun h => Nat.ne_of_lt h
    have mm : ∀ {a b : Nat}, b < a → (a : Addr) ≠ (b : Addr) := fun h => Nat.ne_of_gt h
    refine ⟨nn (by omega), nn (by omega), nn (by omega), mm (by omega), mm (by omega), mm (by omega), mm (by omega), mm (by omega), mm (by omega), nn (by omega), fun a ha => ?_, fun a ha => ?_⟩
    · have h := lt1 a ha
      exact ⟨nn (Nat.lt_of_lt_of_le h (Nat.le_add_right _ _)), nn (Nat.lt_of_lt_of_le h (Nat.le_add_right _ _)), nn h, nn (Nat.lt_of_lt_of_le h (Nat.le_add_right _ _))⟩
    · have h := lt2 a ha
      exact ⟨nn (Nat.lt_of_lt_of_le h (Nat.le_add_right _ _)), nn (Nat.lt_of_lt_of_le h (Nat.le_add_right _ _)), nn h, nn (Nat.lt_of_lt_of_le h (Nat.le_add_right _ _))⟩
  refine ⟨s1.heap.objs.size + 4, [s1.heap.objs.size + 4, s1.heap.objs.size + 2, s1.heap.objs.size + 3, s1.heap.objs.size, s1.heap.objs.size + 1], _, _, H1, rfl, I2, turn_zipS (t1 := t1) (t2 := t2) ap, ⟨hz, hTI, ⟨_, _, hTO⟩, Src.it_new h1, Src.it_new h2⟩, fun c hcm => ?_, q⟩
  have hle : s1.heap.objs.size ≤ c := by
    have e' : c = s1.heap.objs.size + 4 ∨ c = s1.heap.objs.size + 2 ∨ c = s1.heap.objs.size + 3 ∨ c = s1.heap.objs.size ∨ c = s1.heap.objs.size + 1 := by simpa using hcm
    rcases e' with q | q | q | q | q
    · rw [q]; exact Nat.le_add_right _ _
    · rw [q]; exact Nat.le_add_right _ _
    · rw [q]; exact Nat.le_add_right _ _
    · rw [q]; exact Nat.le_refl _
    · rw [q]; exact Nat.le_add_right _ _
  exact I1.fpOk hle (I1.hok.fresh hle)
theorem walk_zipS {K : PySem.W.Frag} {S1 S2 : Src} {xs ys : List V} {n : Nat} (hx : xs.length = n) (hy : ys.length = n) :
    Walk (ItzS K S1 S2) n (fun H => S1.has K H xs ∧ S2.has K H ys) (YPair (fun i => xs[i]?) (fun i => ys[i]?)) := by
  refine ⟨fun i _ hi q => ⟨xs, ys, q.1, q.2, by omega, by omega⟩, fun _ q => ⟨xs, ys, q.1, q.2, by omega, by omega, .inl hx.symm⟩, fun i H v H' _ q y => ?_⟩
  obtain ⟨T, x, z, h1, h2, h3, h4, h5⟩ := y
  exact ⟨T, x, z, h1, h2, h3, h4 xs q.1, h5 ys q.2⟩
theorem Src.has_ex {K : PySem.W.Frag} {H H' : Hp} {S : Src} {xs : List V} (e : Ex H H') (h : S.has K H xs) : S.has K H' xs := by
  cases S with
  | txt x => exact h
  | lst a => exact Evl.ex_l e h
  | tup a => exact Evl.ex_t e h
end LL

/-! Leastlooks: a set comprehension of texts, its length. -/
namespace LL
open PySem PySem.Spec PyProof.Rows L2
open Evl (Ex RetV RetL)
/-- the set of texts at a: its members, their number -/
def SetT (P : Program) (w : World) (a : Addr) (S : Str → Bool) (n : Nat) : HO := .ext fun h => h.SetOf (strKind P w) a S n
abbrev rawSet (w : World) : Obj := { cls := .type "set", dict := none, data := .set #[] 0 (.fresh 0 0 (!w.params.followText "set-order")) }
theorem setT_ok {P : Program} {w : World} {H : Hp} {h : Heap} {a : Addr} {S : Str → Bool} {n : Nat} (R : h.SetOf (strKind P w) a S n) : ObjOk P w H h a (SetT P w a S n) := by
  obtain ⟨o, es, ep, t, ho, r⟩ := id R
  refine ⟨R, ⟨o, ho⟩, fun h1 h2 p k => ?_⟩
  obtain ⟨o1, es1, ep1, t1, ho1, r1⟩ := p
  exact ⟨o1, es1, ep1, t1, k o1 ho1, r1⟩
theorem setT_new (P : Program) (w : World) (h : Heap) : (h.push (rawSet w)).SetOf (strKind P w) h.objs.size (fun _ => false) 0 :=
  (PyProof.Rows.setObjOf_fresh (knd := strKind P w) _).setOf (Heap.get?_push_size _ rfl) (by decide)
/-- a member more -/
abbrev plusT (S : Str → Bool) (c : Str) : Str → Bool := fun j => S j || decide (j = c)
abbrev plusN (S : Str → Bool) (c : Str) (n : Nat) : Nat := if S c = true then n else n + 1
section
variable {X : Cx}
theorem addT_ok {pins : List (Addr × Obj)} {σ : L2.St} {H : Hp} {s : Shared} {E : Value → Shared → Prop} {D : Addr} {S : Str → Bool} {n : Nat} {c : Str} {u : Value} {Q : Value → Shared → Prop} (I : Inv X pins σ H s)
    (hD : H D = some (SetT X.prog X.w D S n)) (room : n + 1 < scanBound) (r : RelV (.str c) u) (h : ∀ s', Inv X pins σ (upd H D (SetT X.prog X.w D (plusT S c) (plusN S c n))) s' → Q .none s') :
    wpAny (model X.prog X.w) X.A (call (.builtin "set.add") [.ref D, u]) Q E s := by
  obtain ⟨t, rfl⟩ := r
  have R : s.heap.SetOf (strKind X.prog X.w) D S n := (I.hok D _ hD).1
  refine call_set_add (knd := strKind X.prog X.w) (k := c) (by show Value.isStrOf c (.str c t) = true; simp [Value.isStrOf]) rfl R room fun h' sb new => ?_
  obtain ⟨o, _, _, _, ho, _⟩ := id new
  exact h _ (I.write (e := D) (t' := s.toks + 1) (by rw [hD]; trivial) (.inl rfl) (fun b u hb hu => (sb.2 b hb).trans hu) ⟨o, ho⟩ (setT_ok new))
/-- {elt for target in iter if ..}, elt a text: D the new set -/
def tSx (P : Program) (w : World) (wi : TI) (g : TG) (tt : TT) (te : TE) (vs : List Nat) : TE := fun σ H Q => wi σ H fun J H1 => ∀ D, H1 D = none → ∃ W : Nat → Nat → Hp → Prop, (∃ m, W 0 m (upd H1 D (SetT P w D (fun _ => false) 0))) ∧ ∀ i m H, W i m H →
  (J.stop i H ∧ Q (.ref D) H) ∨ (J.go i H ∧ ∃ Nx : Hp → Prop, (∀ H', Nx H' → ∃ m', m' < m ∧ W (i + 1) m' H') ∧ ∀ x H', J.yld i H x H' → g x (wipe σ vs) H' fun σ2 H2 => wipe σ2 vs = wipe σ vs ∧ tt σ2 H2 fun b H3 =>
    if b = true then te σ2 H3 fun y H4 => ∃ (c : Str) (S : Str → Bool) (n : Nat), y = .str c ∧ H4 D = some (SetT P w D S n) ∧ n + 1 < scanBound ∧ Nx (upd H4 D (SetT P w D (plusT S c) (plusN S c n))) else Nx H3)
theorem pe_sx {elt tg iter : Expr} {ifs : List Expr} {scope : Scope} {own : List (PySem.Str × Nat)} {pos : Pos} {wi : TI} {g : TG} {tt : TT} {te : TE} (hc : X.calm = true) (hN : X.N.Nodup) (hi : PI X tg iter wi) (ok : BlkOk X.N X.env.scope scope own)
    (hg : ∀ (s : Shared) (H : Hp) (C : Addr) (cl : List (PySem.Str × Addr)) (fp : List Addr), PG (X.blk s H scope (compEnvC scope cl C X.env) fp) tg g) (ht : ∀ (s : Shared) (H : Hp) (C : Addr) (cl : List (PySem.Str × Addr)) (fp : List Addr), PTs (X.blk s H scope (compEnvC scope cl C X.env) fp) ifs tt)
    (he : ∀ (s : Shared) (H : Hp) (C : Addr) (cl : List (PySem.Str × Addr)) (fp : List Addr), PE (X.blk s H scope (compEnvC scope cl C X.env) fp) elt te) (hs : ∀ x, foldedSetIterable iter X.env x = pure x := by intro _; rfl) :
    PE X (.SetComp elt [⟨tg, iter, ifs, 0⟩] scope pos) (tSx X.prog X.w wi g tt te (own.map (·.2))) := by
  refine ⟨fun pins s σ H Q I h => ?_⟩
  rw [PpSet.eval_SetComp]
  have hfree : ∀ y ∈ scope.names, y.2 = .free → ∃ c, X.env.cells.lookup y.1 = some c := fun y hy e => (ok.free y hy e).elim (fun k => I.ok.has _ (.inl k)) fun k => I.ok.has _ (.inr k)
  refine wpAny_comprehension_free (use := none) rfl hs (closure_ok hfree) ok.kind (fun y hy e => by rw [ok.uniq y hy, e]) (thn (hi.run pins s σ H _ I h) fun xv s1 hx => thn hx fun itv s2 h2 => ?_)
  obtain ⟨it, fp, tn, J, H2, e, I2, T, st2, f2, q⟩ := h2
  subst e
  refine PpSet.newSet_ok (newEnv_comp ?_)
  obtain ⟨D, hD⟩ : ∃ D, D = s2.heap.objs.size := ⟨_, rfl⟩
  rw [← hD]
  have fresh : H2 D = none := I2.hok.fresh (Nat.le_of_eq hD.symm)
  obtain ⟨W, ⟨m0, w0⟩, turn⟩ := q D fresh
  obtain ⟨s3, hs3⟩ : ∃ s3 : Shared, s3 = { s2 with heap := s2.heap.push (rawSet X.w) } := ⟨_, rfl⟩
  have g3 : s3.heap = s2.heap.push (rawSet X.w) := by rw [hs3]
  have up3 : ∀ b o, s2.heap.get? b = some o → s3.heap.get? b = some o := fun b o e => by rw [g3]; exact Heap.get?_push_of_some _ e
  obtain ⟨H3, hH3⟩ : ∃ H3, H3 = upd H2 D (SetT X.prog X.w D (fun _ => false) 0) := ⟨_, rfl⟩
  rw [← hH3] at w0
  have I3 : Inv X pins σ H3 s3 := by
    rw [hH3, hs3]
    refine I2.laid (t' := s2.toks) (fun b o e => Heap.get?_push_of_some _ e) (Nat.le_of_eq hD.symm) ?_
    rw [hD]
    exact setT_ok (setT_new X.prog X.w s2.heap)
  have below : ∀ b ∈ fp, b < s2.heap.objs.size := fun b hb => by
    obtain ⟨o, e, _⟩ := T.obj _ _ st2 b hb
    exact Heap.lt_size e
  have free3 : ∀ b ∈ fp, H3 b = none := fun b hb => by
    rw [hH3, upd_ne (by rw [hD]; exact Nat.ne_of_lt (below b hb))]
    exact (f2 b hb).1
  have f3 : ∀ b ∈ fp, FpOk X pins H3 b ∧ b < s3.heap.objs.size := fun b hb => ⟨⟨free3 b hb, (f2 b hb).2⟩, by rw [g3, Heap.size_push]; exact Nat.lt_succ_of_lt (below b hb)⟩
  have st3 : tn 0 s3.heap := T.keep _ _ _ st2 fun b _ o e => up3 b o e
  have I4 := block_start I3 ok hN f3
  obtain ⟨C, hC⟩ : ∃ C, C = s3.heap.objs.size := ⟨_, rfl⟩
  obtain ⟨cl, hcl⟩ : ∃ cl, cl = cellsFrom (s3.heap.objs.size + 1) scope.names (cloFrom X.env.cells scope.names []) := ⟨_, rfl⟩
  rw [← hcl, ← hC] at I4
  show codeAny _ _ (.compStart (.SetComp elt [⟨tg, iter, ifs, 0⟩] scope pos) 0 (.ref it) (.ref D) (compEnvC scope (cellsFrom ((s2.heap.push (rawSet X.w)).objs.size + 1) scope.names (cloFrom X.env.cells scope.names [])) (s2.heap.push (rawSet X.w)).objs.size X.env)) _
    { s2 with heap := pushCells ((s2.heap.push (rawSet X.w)).push { cls := .type "dict", data := .dict #[] }) scope.names }
  have es4 : ({ s2 with heap := pushCells ((s2.heap.push (rawSet X.w)).push { cls := .type "dict", data := .dict #[] }) scope.names } : Shared) = { s3 with heap := pushCells (s3.heap.push { cls := .type "dict", data := .dict #[] }) scope.names } := by rw [hs3]
  rw [es4, ← g3, ← hcl, ← hC]
  have pg := hg s3 H3 C cl fp
  have pt := ht s3 H3 C cl fp
  have pe := he s3 H3 C cl fp
  obtain ⟨s4, hs4⟩ : ∃ s4 : Shared, s4 = { s3 with heap := pushCells (s3.heap.push { cls := .type "dict", data := .dict #[] }) scope.names } := ⟨_, rfl⟩
  rw [← hs4] at I4 ⊢
  have st4 : tn 0 s4.heap := T.keep _ _ _ st3 fun b _ o e => by rw [hs4]; exact pushCells_keeps _ _ _ _ (Heap.get?_push_of_some _ e)
  obtain ⟨ce, hce⟩ : ∃ ce, ce = compEnvC scope cl C X.env := ⟨_, rfl⟩
  have cL : ce.locals = C := by rw [hce]; rfl
  rw [← hce] at I4 pg pt pe ⊢
  have stat : ∀ {σ' : L2.St} {H' : Hp} {s' : Shared}, Inv (X.blk s3 H3 scope ce fp) [] σ' H' s' → (∀ b ∈ fp, H' b = none) → ∀ b ∈ fp, FpOk (X.blk s3 H3 scope ce fp) [] H' b := fun I' hn b hb =>
    ⟨hn b hb, (I'.ok.exf b hb).1, I'.ok.exfs b hb, .inl hb, fun x c e => (I'.ok.exf b hb).2 x c e, fun p hp => absurd (show p ∈ ([] : List (Addr × Obj)) ++ [] from hp) (by simp)⟩
  have loop : codeAny (model X.prog X.w) X.A (.compLoop (.SetComp elt [⟨tg, iter, ifs, 0⟩] scope pos) 0 (.ref it) (.ref D) ce) (compPost (model X.prog X.w) X.A X.xe none (EP X pins σ Q) (.ref D) C) s4 := by
    refine PpSet.compLoopS_any (fun n s' => ∃ i H', Inv (X.blk s3 H3 scope ce fp) [] (wipe σ (own.map (·.2))) H' s' ∧ tn i s'.heap ∧ (∀ b ∈ fp, H' b = none) ∧ W i n H') ?_ m0 ⟨0, H3, I4, st4, free3, w0⟩
    rintro n s5 ⟨i, H5, I5, st5, n5, w5⟩
    rcases turn i n H5 w5 with ⟨stop, qq⟩ | ⟨go, Nx, hNx, step⟩
    · refine thnF (T.done (X.blk s3 H3 scope ce fp) rfl rfl rfl hc i [] s5 _ H5 (fun _ _ => False) I5 (stat I5 n5) st5 stop) fun r s6 ⟨hr, I6⟩ => ?_
      subst hr
      have I7 : Inv X pins σ H5 s6 := I3.call' (ch := fp) I6.os I6.base I6.hok I6.bare fun b hb => ⟨(f3 b hb).1.2.2.2.1, (f3 b hb).1.2.1, (f3 b hb).1.2.2.2.2.1, (f3 b hb).1.2.2.2.2.2⟩
      have nC : H5 C = none := by
        have z : H5 ce.locals = none := I6.free
        rw [cL] at z
        exact z
      obtain ⟨m, hn, _⟩ := I6.loc
      have hn : s6.heap.Ns ce.locals m := hn
      rw [cL] at hn
      obtain ⟨_, p1, _, p3, p4, p5⟩ : FpOk X pins H5 C := I3.fpOk (Nat.le_of_eq hC.symm) nC
      exact ⟨m, hn, fun h'' sb => ⟨.ref D, H5, I7.turned (t' := s6.toks) (fun b o hb e => (sb.2 b hb).trans e) nC p1 p3 p4 p5, rfl, qq⟩⟩
    · refine thnF (T.item (X.blk s3 H3 scope ce fp) rfl rfl rfl hc i [] s5 _ H5 (fun _ _ => False) I5 (stat I5 n5) st5 go) fun r s6 ⟨u, hr, h6⟩ => ?_
      subst hr
      refine thnF h6 fun _ s7 ⟨x, H7, I7, r7, y7, st7, n7⟩ => ?_
      refine thnF (pg.run _ s7 _ H7 x u _ (I7.pinned (stat I7 n7) (T.obj _ _ st7)) r7 (step x H7 y7)) fun _ s8 ⟨σ8, H8, I8, hw8, q8⟩ => ?_
      refine thnF (pt.run _ s8 σ8 H8 _ I8 q8) fun b s9 ⟨H9, I9, q9⟩ => ?_
      have fin : ∀ {s' : Shared} {H' : Hp}, Inv (X.blk s3 H3 scope ce fp) ([] ++ pinsAt fp s7.heap) σ8 H' s' → Nx H' → ∃ m, m < n ∧ ∃ i H', Inv (X.blk s3 H3 scope ce fp) [] (wipe σ (own.map (·.2))) H' s' ∧ tn i s'.heap ∧ (∀ b ∈ fp, H' b = none) ∧ W i m H' := fun {s' H'} I' nx => by
        obtain ⟨m', hm, w'⟩ := hNx H' nx
        have pin' : ∀ b ∈ fp, ∀ o, s7.heap.get? b = some o → s'.heap.get? b = some o ∧ H' b = none := fun b hb o e =>
          let z := I'.pin (b, o) (List.mem_append_right _ (List.mem_append_right _ (mem_pinsAt hb e)))
          ⟨z.1, z.2.1⟩
        refine ⟨m', hm, i + 1, H', (I'.unpinned (pins := [])).weak (by rw [← hw8, wipe_length]) (fun j v e => ?_), T.keep _ _ _ st7 fun b hb o e => (pin' b hb o e).1, fun b hb => ?_, w'⟩
        · rw [← hw8] at e
          exact (wipe_some e).1
        · obtain ⟨o, e, _⟩ := T.obj _ _ st7 b hb
          exact (pin' b hb o e).2
      cases b with
      | false =>
        rw [if_neg Bool.false_ne_true] at q9 ⊢
        exact fin I9 q9
      | true =>
        rw [if_pos rfl] at q9 ⊢
        refine thnF (pe.run _ s9 σ8 H9 _ I9 q9) fun z s10 ⟨yv, H10, I10, r10, c, S0, n0, ey, hD10, hz10, nx⟩ => ?_
        subst ey
        exact addT_ok (X := X.blk s3 H3 scope ce fp) I10 hD10 hz10 r10 fun s11 I11 => fin I11 nx
  exact PpSet.codeAny_compStart_set loop (T.self X.A 0 _ _ _ st4 loop)
/-- len of such a set -/
def rLenT (P : Program) (w : World) : List V → Hp → VK → Prop := fun xs H Q => ∃ a S n, xs = [.ref a] ∧ H a = some (SetT P w a S n) ∧ Q (.int (n : Int)) H
theorem call_lenT : CallR X (.builtin "len") (rLenT X.prog X.w) := by
  intro pins s σ H xs us Q I r h
  obtain ⟨a, S, n, rfl, ha, q⟩ := h
  obtain ⟨u, rfl, ru⟩ := vals1 r
  obtain rfl : u = .ref a := ru
  obtain ⟨o, es, ep, t, ho, hex, hd, _, _, hb, hf, hn⟩ := (show s.heap.SetOf (strKind X.prog X.w) a S n from (I.hok a _ ha).1)
  refine call_len_set ho hex hd hf (by have h1 : es.size < 4096 := hb; omega) ⟨.int (n : Int), H, ?_, ⟨_, by rw [hn]⟩, q⟩
  exact I.kept (t' := s.toks + 1 + 1) fun _ _ e => e
end
/-- over any walk whose turns leave what stood: members are the texts of l -/
def mems (l : List Str) : Str → Bool := fun j => decide (j ∈ l)
theorem sx_ex {P : Program} {w : World} {J : It} {n : Nat} {G : Hp → Prop} {Y : Nat → Hp → V → Hp → Prop} {g : TG} {te : TE} {vs : List Nat} {σ : L2.St} {H1 : Hp} {D : Addr} {Qd : Hp → Prop} (wk : Walk J n G Y) (hD : H1 D = none) (l : List Str) (hn : l.length = n) (hz : n ≤ 1000) (hG : ∀ H, Ex H1 H → G H)
    (hs : ∀ (i : Nat) (x : V) (H H' : Hp) (Q : VK), i < n → Ex H1 H → Y i H x H' → (∀ c H4, Ex H H4 → l[i]? = some c → Q (.str c) H4) → g x (wipe σ vs) H' fun σ2 H2 => wipe σ2 vs = wipe σ vs ∧ te σ2 H2 Q)
    (hd : ∀ H S k, Ex H1 H → H D = some (SetT P w D S k) → (∃ d : List Str, d.Nodup ∧ d.length = k ∧ ∀ c, c ∈ d ↔ c ∈ l) → Qd H) :
    ∃ W : Nat → Nat → Hp → Prop, (∃ m, W 0 m (upd H1 D (SetT P w D (fun _ => false) 0))) ∧ ∀ i m H, W i m H →
      (J.stop i H ∧ Qd H) ∨ (J.go i H ∧ ∃ Nx : Hp → Prop, (∀ H', Nx H' → ∃ m', m' < m ∧ W (i + 1) m' H') ∧ ∀ x H', J.yld i H x H' → g x (wipe σ vs) H' fun σ2 H2 => wipe σ2 vs = wipe σ vs ∧ tYes σ2 H2 fun b H3 =>
        if b = true then te σ2 H3 fun y H4 => ∃ (c : Str) (S : Str → Bool) (n : Nat), y = .str c ∧ H4 D = some (SetT P w D S n) ∧ n + 1 < scanBound ∧ Nx (upd H4 D (SetT P w D (plusT S c) (plusN S c n))) else Nx H3) := by
  refine ⟨fun i m H => m = n - i ∧ i ≤ n ∧ Ex H1 H ∧ ∃ (S : Str → Bool) (k : Nat) (d : List Str), H D = some (SetT P w D S k) ∧ d.Nodup ∧ d.length = k ∧ k ≤ i ∧ (∀ c, c ∈ d ↔ c ∈ l.take i) ∧ ∀ c, S c = true ↔ c ∈ d, ⟨n, rfl, Nat.zero_le _, Evl.Ex.new hD, _, 0, [], upd_same, List.nodup_nil, rfl, Nat.le_refl _, (by simp), (by simp)⟩, ?_⟩
  rintro i m H ⟨rfl, hi, e, S, k, d, hS, nd, hk, hki, hmem, hSd⟩
  by_cases hlt : i < n
  · refine .inr ⟨wk.goes i H hlt (hG H e), fun H' => Ex H1 H' ∧ ∃ (S : Str → Bool) (k : Nat) (d : List Str), H' D = some (SetT P w D S k) ∧ d.Nodup ∧ d.length = k ∧ k ≤ i + 1 ∧ (∀ c, c ∈ d ↔ c ∈ l.take (i + 1)) ∧ ∀ c, S c = true ↔ c ∈ d, fun H' p' => ⟨n - (i + 1), by omega, rfl, hlt, p'⟩, fun x H' y => ?_⟩
    refine hs i x H H' _ hlt e (wk.yields i H x H' hlt (hG H e) y) fun c H4 e4 hc => ⟨c, S, k, rfl, e4 _ _ hS, ?_, (e.trans e4).mut hD, ?_⟩
    · have : scanBound = 4096 := rfl
      omega
    · have et : ∀ c', c' ∈ l.take (i + 1) ↔ c' ∈ l.take i ∨ c' = c := fun c' => by
        rw [List.take_add_one, hc, List.mem_append]
        show _ ∨ c' ∈ [c] ↔ _
        rw [List.mem_singleton]
      cases hcS : S c with
      | true =>
        have hcd : c ∈ d := (hSd c).mp hcS
        refine ⟨_, _, d, upd_same, nd, ?_, ?_, fun c' => ?_, fun c' => ?_⟩
        · show d.length = if S c = true then k else k + 1
          rw [if_pos hcS]; exact hk
        · show (if S c = true then k else k + 1) ≤ i + 1
          rw [if_pos hcS]; omega
        · rw [et, ← hmem]
          exact ⟨.inl, fun z => z.elim id fun z => by rw [z]; exact hcd⟩
        · rw [Bool.or_eq_true, decide_eq_true_eq, hSd]
          exact ⟨fun z => z.elim id fun z => by rw [z]; exact hcd, .inl⟩
      | false =>
        have hcd : c ∉ d := fun z => by rw [(hSd c).mpr z] at hcS; cases hcS
        have hneg : ¬ S c = true := by rw [hcS]; exact Bool.false_ne_true
        refine ⟨_, _, c :: d, upd_same, List.nodup_cons.mpr ⟨hcd, nd⟩, ?_, ?_, fun c' => ?_, fun c' => ?_⟩
        · show (c :: d).length = if S c = true then k else k + 1
          rw [if_neg hneg, List.length_cons, hk]
        · show (if S c = true then k else k + 1) ≤ i + 1
          rw [if_neg hneg]; omega
        · rw [et, ← hmem, List.mem_cons]
          exact Or.comm
        · rw [Bool.or_eq_true, decide_eq_true_eq, hSd, List.mem_cons]
          exact Or.comm
  · have ei : i = n := by omega
    subst ei
    refine .inl ⟨wk.stops H (hG H e), hd H S k e hS ⟨d, nd, hk, fun c => ?_⟩⟩
    rw [hmem, ← hn, List.take_length]
end LL

/-! Leastlooks: counts (a tuple of pairs), a dict with such keys and ints. -/
namespace LL
open PySem PySem.Spec PyProof.Rows L2
open Evl (Ex RetV RetL)
/-- the counts cs stand at c -/
def CntAt (K : PySem.W.Frag) (H : Hp) (c : Addr) (cs : List (Nat × Nat)) : Prop :=
  ∃ ps : List Addr, SqT K H c (ps.map V.ref) ∧ Paired (fun p z => SqT K H p [.int (z.1 : Nat), .int (z.2 : Nat)]) ps cs
theorem CntAt.ex {K : PySem.W.Frag} {H H' : Hp} {c : Addr} {cs : List (Nat × Nat)} (e : Ex H H') (h : CntAt K H c cs) : CntAt K H' c cs := by
  obtain ⟨ps, h1, h2⟩ := h
  exact ⟨ps, Evl.ex_t e h1, Paired.mapP h2 fun p z q => Evl.ex_t e q⟩
/-- as a key -/
def nk (cs : List (Nat × Nat)) : NestedKey := .tup (cs.map fun c => .tup [.num (c.1 : Nat), .num (c.2 : Nat)])
theorem nk_inj {a b : List (Nat × Nat)} (h : nk a = nk b) : a = b := by
  have e : (a.map fun c => NestedKey.tup [.num (c.1 : Nat), .num (c.2 : Nat)]) = b.map fun c => NestedKey.tup [.num (c.1 : Nat), .num (c.2 : Nat)] := NestedKey.tup.inj h
  refine List.map_inj_right (fun x y h => ?_) |>.mp e
  have h1 := NestedKey.tup.inj h
  injection h1 with h2 h3
  injection h3 with h4 _
  have e1 : (x.1 : Int) = y.1 := NestedKey.num.inj h2
  have e2 : (x.2 : Int) = y.2 := NestedKey.num.inj h4
  exact Prod.ext (by omega) (by omega)
theorem nk_depth : ∀ cs : List (Nat × Nat), (nk cs).depth ≤ 8 := fun cs => by
  have key : ∀ cs : List (Nat × Nat), NestedKey.depthAll (cs.map fun c => NestedKey.tup [.num (c.1 : Nat), .num (c.2 : Nat)]) ≤ 1 := by
    intro cs
    induction cs with
    | nil => exact Nat.zero_le _
    | cons c r ih =>
      show max _ (NestedKey.depthAll (r.map _)) ≤ 1
      refine Nat.max_le.mpr ⟨?_, ih⟩
      show NestedKey.depthAll [.num (c.1 : Nat), .num (c.2 : Nat)] + 1 ≤ 1
      exact Nat.le_refl _
  have := key cs
  show NestedKey.depthAll _ + 1 ≤ 8
  omega
section
variable {X : Cx} {pins : List (Addr × Obj)} {σ : L2.St} {H : Hp} {s : Shared}
theorem pair_is {p : Addr} {z : Nat × Nat} (I : Inv X pins σ H s) (h : SqT X.K H p [.int (z.1 : Nat), .int (z.2 : Nat)]) : NestedIs s.heap (.tup [.num (z.1 : Nat), .num (z.2 : Nat)]) (.ref p) := by
  obtain ⟨its, rv, ⟨o, h1, h2, n, h3⟩, _⟩ := I.tuple h
  obtain ⟨u1, u2, rfl, ⟨t1, rfl⟩, t2, rfl⟩ := vals2 rv
  exact .tup h1 h2 h3 (.cons (.int _ _) (.cons (.int _ _) .nil))
theorem cnt_is {c : Addr} {cs : List (Nat × Nat)} (I : Inv X pins σ H s) (h : CntAt X.K H c cs) : (nestedKind X.prog X.w).is s.heap (nk cs) c := by
  obtain ⟨ps, h1, h2⟩ := h
  refine ⟨?_, nk_depth cs⟩
  obtain ⟨its, rv, ⟨o, g1, g2, n, g3⟩, _⟩ := I.tuple h1
  refine .tup g1 g2 g3 ?_
  have key : ∀ {ps : List Addr} {cs : List (Nat × Nat)} {us : List Value}, Paired (fun p z => SqT X.K H p [.int (z.1 : Nat), .int (z.2 : Nat)]) ps cs → Vals (ps.map V.ref) us → NestedAll s.heap (cs.map fun c => .tup [.num (c.1 : Nat), .num (c.2 : Nat)]) us := by
    intro ps cs us hp
    induction hp generalizing us with
    | nil => intro r; cases r; exact .nil
    | cons h t ih =>
      intro r
      cases r with
      | cons a b =>
        obtain rfl := (show _ = Value.ref _ from a)
        exact .cons (pair_is I h) (ih b)
  exact key h2 rv
end
/-! ### the dict -/
abbrev NE : Type := NestedKey × Addr × Int
abbrev RN : List NE → List (NestedKey × Addr × Value) → Prop := Paired fun p q => q.1 = p.1 ∧ q.2.1 = p.2.1 ∧ ∃ t, q.2.2 = .int p.2.2 t
def nkAt (kvs : List NE) (k : NestedKey) : Option Int := (kvs.find? fun x => decide (x.1 = k)).map (·.2.2)
def nput (kvs : List NE) (k : NestedKey) (a : Addr) (i : Int) : List NE := if (nkAt kvs k).isSome then kvs.map (fun x => if x.1 = k then (x.1, x.2.1, i) else x) else kvs ++ [(k, a, i)]
theorem RN.at {k : NestedKey} : ∀ {kvs : List NE} {xs : List (NestedKey × Addr × Value)}, RN kvs xs → (nkAt kvs k = none ∧ atKey xs k = none) ∨ ∃ i b t, nkAt kvs k = some i ∧ atKey xs k = some (b, .int i t)
  | _, _, .nil => .inl ⟨rfl, rfl⟩
  | p :: ps, q :: qs, .cons h t => by
    obtain ⟨h1, h2, tk, h3⟩ := h
    have ih := RN.at (k := k) t
    by_cases e : p.1 = k
    · refine .inr ⟨p.2.2, q.2.1, tk, ?_, ?_⟩
      · simp [nkAt, List.find?_cons, e]
      · simp [atKey, List.find?_cons, h1.trans e, ← h3]
    · have e' : ¬ q.1 = k := by rw [h1]; exact e
      have n1 : nkAt (p :: ps) k = nkAt ps k := by simp [nkAt, List.find?_cons, e]
      have n2 : atKey (q :: qs) k = atKey qs k := by simp [atKey, List.find?_cons, e']
      rw [n1, n2]
      exact ih
theorem RN.put {k : NestedKey} {a : Addr} {i : Int} {t : Tok} {kvs : List NE} {xs : List (NestedKey × Addr × Value)} (r : RN kvs xs) : RN (nput kvs k a i) (storedH xs k a (.int i t)) := by
  unfold nput storedH
  rcases r.at (k := k) with ⟨e1, e2⟩ | ⟨j, b, t', e1, e2⟩
  · rw [e1, e2]
    have app : ∀ {l : List NE} {m : List (NestedKey × Addr × Value)}, RN l m → RN (l ++ [(k, a, i)]) (m ++ [(k, a, .int i t)]) := by
      intro l m h
      induction h with
      | nil => exact .cons ⟨rfl, rfl, t, rfl⟩ .nil
      | cons h _ ih => exact .cons h ih
    exact app r
  · rw [e1, e2]
    show RN (kvs.map _) (xs.map _)
    clear e1 e2
    induction r with
    | nil => exact .nil
    | @cons p q ps qs h tl ih =>
      refine .cons ?_ ih
      obtain ⟨h1, h2, tk, h3⟩ := h
      dsimp only
      by_cases e : p.1 = k
      · rw [if_pos e]
        unfold putAt
        rw [if_pos (h1.trans e)]
        exact ⟨h1, h2, t, rfl⟩
      · rw [if_neg e]
        unfold putAt
        rw [if_neg (by rw [h1]; exact e)]
        exact ⟨h1, h2, tk, h3⟩
theorem mem_nput {kvs : List NE} {k : NestedKey} {a : Addr} {i : Int} {x : NE} (h : x ∈ nput kvs k a i) : x ∈ kvs ∨ x = (k, a, i) ∨ ∃ y ∈ kvs, y.1 = k ∧ x = (y.1, y.2.1, i) := by
  unfold nput at h
  split at h
  · obtain ⟨y, hy, e⟩ := List.mem_map.mp h
    by_cases hk : y.1 = k
    · rw [if_pos hk] at e
      exact .inr (.inr ⟨y, hy, hk, e.symm⟩)
    · rw [if_neg hk] at e
      exact .inl (e ▸ hy)
  · rcases List.mem_append.mp h with q | q
    · exact .inl q
    · exact .inr (.inl (List.mem_singleton.mp q))
theorem nkAt_mem {kvs : List NE} {k : NestedKey} {i : Int} (h : nkAt kvs k = some i) : ∃ b, (k, b, i) ∈ kvs := by
  unfold nkAt at h
  obtain ⟨x, hx, e⟩ := Option.map_eq_some_iff.mp h
  have h1 : x.1 = k := by simpa using List.find?_some hx
  have h2 := List.mem_of_find?_eq_some hx
  exact ⟨x.2.1, by rw [← h1, ← e]; exact h2⟩
theorem RN.len {kvs : List NE} {xs : List (NestedKey × Addr × Value)} (r : RN kvs xs) : kvs.length = xs.length := Paired.length r
theorem RN.keys {kvs : List NE} {xs : List (NestedKey × Addr × Value)} (r : RN kvs xs) : xs.map (·.1) = kvs.map (·.1) := by
  induction r with
  | nil => rfl
  | cons h _ ih => rw [List.map_cons, List.map_cons, ih, h.1]
def DN (P : Program) (w : World) (d : Addr) (kvs : List NE) : HO := .ext fun h => (d == sysModules) = false ∧ ∃ xs o es ep, RN kvs xs ∧ h.get? d = some o ∧ o.ExactDict ∧ o.data = .dict es ep ∧ es.toList = xs.map (entryOfKey (nestedKind P w)) ∧ (xs.map (·.1)).Nodup
theorem dn_ok {P : Program} {w : World} {H : Hp} {h : Heap} {d : Addr} {kvs : List NE} {xs : List (NestedKey × Addr × Value)} (hd : (d == sysModules) = false) (r : RN kvs xs) (m : h.DictOfH (nestedKind P w) d xs) : ObjOk P w H h d (DN P w d kvs) := by
  obtain ⟨o, es, ep, ho, hx, hdt, he, _, hn⟩ := m
  refine ⟨⟨hd, xs, o, es, ep, r, ho, hx, hdt, he, hn⟩, ⟨o, ho⟩, fun h1 h2 p k => ?_⟩
  obtain ⟨hd1, xs1, o1, es1, ep1, r1, ho1, rest⟩ := p
  exact ⟨hd1, xs1, o1, es1, ep1, r1, k o1 ho1, rest⟩
/-- the keys stand -/
def KeysAt (K : PySem.W.Frag) (H : Hp) (kvs : List NE) : Prop := ∀ x ∈ kvs, ∃ cs, x.1 = nk cs ∧ CntAt K H x.2.1 cs
section
variable {X : Cx} {pins : List (Addr × Obj)} {σ : L2.St} {H : Hp} {s : Shared}
theorem dn_of {d : Addr} {kvs : List NE} (I : Inv X pins σ H s) (h : H d = some (DN X.prog X.w d kvs)) (hk : KeysAt X.K H kvs) : (d == sysModules) = false ∧ ∃ xs, RN kvs xs ∧ s.heap.DictOfH (nestedKind X.prog X.w) d xs := by
  obtain ⟨hd, xs, o, es, ep, r, ho, hx, hdt, he, hn⟩ := (show ObjOk X.prog X.w H s.heap d (DN X.prog X.w d kvs) from I.hok d _ h).1
  refine ⟨hd, xs, r, o, es, ep, ho, hx, hdt, he, ?_, hn⟩
  have key : ∀ {l : List NE} {m : List (NestedKey × Addr × Value)}, RN l m → KeysAt X.K H l → ∀ x ∈ m, (nestedKind X.prog X.w).is s.heap x.1 x.2.1 := by
    intro l m q
    induction q with
    | nil => intro _ x hx; cases hx
    | @cons p q ps qs h t ih =>
      intro hk x hx
      rcases List.mem_cons.mp hx with e | hx
      · subst e
        obtain ⟨cs, e1, e2⟩ := hk p List.mem_cons_self
        rw [h.1, h.2.1, e1]
        exact cnt_is I e2
      · exact ih (fun y hy => hk y (List.mem_cons_of_mem _ hy)) x hx
  exact key r hk
/-- {} -/
def tDNewN (P : Program) (w : World) : TE := fun _ H Q => ∀ p, H p = none → Q (.ref p) (upd H p (DN P w p []))
theorem pe_dnewN {pos : Pos} : PE X (.Dict [] [] pos) (tDNewN X.prog X.w) := ⟨fun pins s σ H Q I h => by
  have hb : (s.heap.objs.size == sysModules) = false := beq_eq_false_iff_ne.mpr (Ne.symm (Nat.ne_of_lt I.big))
  refine wpAny_Dict_empty ⟨.ref s.heap.objs.size, _, I.laid (a := s.heap.objs.size) (o := DN X.prog X.w s.heap.objs.size []) (t' := s.toks) (fun _ _ q => Heap.get?_push_of_some _ q) (Nat.le_refl _) ?_, rfl, h _ (I.hok.fresh (Nat.le_refl _))⟩
  exact dn_ok (xs := []) hb .nil (Heap.DictOfH.new s.heap)⟩
/-- y in d -/
def tDInN (P : Program) (w : World) (K : PySem.W.Frag) (ty td : TE) : TE := fun σ H Q => ty σ H fun y H1 => td σ H1 fun x H2 => ∃ d c kvs cs, x = .ref d ∧ y = .ref c ∧ H2 d = some (DN P w d kvs) ∧ KeysAt K H2 kvs ∧ CntAt K H2 c cs ∧ Q (.bl (nkAt kvs (nk cs)).isSome) H2
theorem room8 {A : Around} {k : Nat} (hr : Room k A) : (nestedKind X.prog X.w).room A.in1 := by
  have h : A.units + 64 < cLine := hr.units
  show A.in1.units + 8 < cLine
  have e : A.in1.units = A.units + 1 := rfl
  omega
theorem pc_dinN {k : Nat} {i o : Expr} {ty td : TE} (hr : Room k X.A) (hi : PE X i ty) (ho : PE X o td) : PC X .In i o (tDInN X.prog X.w X.K ty td) := by
  refine ⟨fun pins s σ H Q I h => ?_⟩
  refine thn (hi.run pins s σ H _ I h) fun iv s1 ⟨y, H1, I1, ry, q1⟩ => thn (ho.run pins s1 σ H1 _ I1 q1) fun u s2 ⟨x, H2, I2, rx, d, c, kvs, cs, ex, ey, hd, hk, hc, q2⟩ => ?_
  subst ex ey
  obtain rfl : u = Value.ref d := rx
  obtain rfl : iv = Value.ref c := ry
  obtain ⟨nm, xs, r, m⟩ := dn_of I2 hd hk
  refine wpAny_in_heap (room8 hr) (cnt_is I2 hc) nm m ?_
  have e : (atKey xs (nk cs)).isSome = (nkAt kvs (nk cs)).isSome := by
    rcases r.at (k := nk cs) with ⟨e1, e2⟩ | ⟨j, b, t, e1, e2⟩ <;> rw [e1, e2] <;> rfl
  rw [e]
  exact ⟨.bl _, H2, I2.tok _, rfl, q2⟩
/-- d[y], there -/
def tDGetN (P : Program) (w : World) (K : PySem.W.Frag) (td ty : TE) : TE := fun σ H Q => td σ H fun x H1 => ty σ H1 fun y H2 => ∃ d c kvs cs i, x = .ref d ∧ y = .ref c ∧ H2 d = some (DN P w d kvs) ∧ KeysAt K H2 kvs ∧ CntAt K H2 c cs ∧ nkAt kvs (nk cs) = some i ∧ Q (.int i) H2
theorem pe_dgetN {k : Nat} {i o : Expr} {ty td : TE} {pos : Pos} (hr : Room k X.A) (ho : PE X o td) (hi : PE X i ty) (hs : NoSl i) : PE X (.Subscript o i pos) (tDGetN X.prog X.w X.K td ty) := by
  refine ⟨fun pins s σ H Q I h => ?_⟩
  refine subD_of PySem.F.slot_dict_getitem.lookup hs (thn (ho.run pins s σ H _ I h) fun u s1 ⟨x, H1, I1, rx, q1⟩ => thn (hi.run pins s1 σ H1 _ I1 q1) fun iv s2 ⟨y, H2, I2, ry, d, c, kvs, cs, v, ex, ey, hd, hk, hc, hv, q2⟩ => ?_)
  subst ex ey
  obtain rfl : u = Value.ref d := rx
  obtain rfl : iv = Value.ref c := ry
  obtain ⟨nm, xs, r, m⟩ := dn_of I2 hd hk
  rcases r.at (k := nk cs) with ⟨e1, _⟩ | ⟨j, b, t, e1, e2⟩
  · rw [e1] at hv
    cases hv
  · rw [e1] at hv
    have ej : j = v := Option.some.inj hv
    rw [ej] at e2
    exact ⟨m.typeIs, wpAny_getItem_heap (room8 hr) (cnt_is I2 hc) m e2 ⟨.int v, H2, I2.tok _, ⟨t, rfl⟩, q2⟩⟩
/-- d[y] = v -/
def sDPutN (P : Program) (w : World) (K : PySem.W.Frag) (td ty tv : TE) : TS := fun D σ H => tv σ H fun v H1 => td σ H1 fun x H2 => ty σ H2 fun y H3 => ∃ d c kvs cs i, x = .ref d ∧ y = .ref c ∧ v = .int i ∧ H3 d = some (DN P w d kvs) ∧ KeysAt K H3 kvs ∧ CntAt K H3 c cs ∧ kvs.length ≤ 100000 ∧
  D.nx σ (upd H3 d (DN P w d (nput kvs (nk cs) c i)))
theorem ps_dputN {k : Nat} {i o value : Expr} {ty td tv : TE} {pos pos' : Pos} (hr : Room k X.A) (ho : PE X o td) (hi : PE X i ty) (hv : PE X value tv) (hs : swapsWith value (some (.Subscript o i pos')) pos.line X.env = pure false) :
    PS X (.Assign [.Subscript o i pos'] value pos) (sDPutN X.prog X.w X.K td ty tv) := by
  refine ⟨fun pins s σ H D I h => ?_⟩
  refine wpAny_Assign_Subscript (thn (hv.run pins s σ H _ I h) fun r s1 ⟨v, H1, I1, rv, q1⟩ => thn (ho.run pins s1 σ H1 _ I1 q1) fun u s2 ⟨x, H2, I2, rx, q2⟩ => thn (hi.run pins s2 σ H2 _ I2 q2) fun iv s3 ⟨y, H3, I3, ry, d, c, kvs, cs, z, ex, ey, ez, hd, hk, hc, hz, q3⟩ => ?_) hs
  subst ex ey ez
  obtain rfl : u = Value.ref d := rx
  obtain rfl : iv = Value.ref c := ry
  obtain ⟨t, rfl⟩ := rv
  obtain ⟨nm, xs, r', m⟩ := dn_of I3 hd hk
  refine wpAny_setItem_heap (hsz := by rw [← r'.len]; exact sz6 hz) (room8 hr) (cnt_is I3 hc) m fun h' m' sb => ?_
  obtain ⟨o, _, _, ho', _⟩ := id m'
  exact ⟨σ, _, I3.write (e := d) (t' := s3.toks + (nestedKind X.prog X.w).draws (nk cs)) (by rw [hd]; trivial) (.inl rfl) (fun b u hb hu => (sb.2 b hb).trans hu) ⟨o, ho'⟩ (dn_ok nm r'.put m'), q3⟩
end
end LL

/-! Leastlooks: is_told, counts_of. -/
namespace LL
open PySem PySem.Spec PyProof.Rows L2
open Evl (Ex RetV RetL)
def bi (b : Bool) : Int := if b then 1 else 0
/-- an empty tuple of the written part -/
def NoTup (K : PySem.W.Frag) (t : Addr) : Prop := ∃ o its n, K.lookup t = some o ∧ o.cls = .type "tuple" ∧ o.data = .seq its n ∧ its.size ≤ sizeLine ∧ Vals [] its.toList
theorem NoTup.sq {K : PySem.W.Frag} {t : Addr} (h : NoTup K t) (H : Hp) : SqT K H t [] := by
  obtain ⟨o, its, n, r⟩ := h
  exact .inr ⟨o, its, n, r⟩
/-- what was told stands at t -/
def Told (K : PySem.W.Frag) (H : Hp) (t : Addr) (vs : List (Nat × Bool)) : Prop :=
  (∃ ps : List Addr, H t = some (.lst (ps.map V.ref)) ∧ Paired (fun p (v : Nat × Bool) => H p = some (.tup [.int (v.1 : Nat), .int (bi v.2)])) ps vs) ∨ (vs = [] ∧ NoTup K t)
theorem Told.ex {K : PySem.W.Frag} {H H' : Hp} {t : Addr} {vs : List (Nat × Bool)} (e : Ex H H') (h : Told K H t vs) : Told K H' t vs := by
  rcases h with ⟨ps, h1, h2⟩ | h
  · exact .inl ⟨ps, e _ _ h1, Paired.mapP h2 fun p v q => e _ _ q⟩
  · exact .inr h
theorem Paired.at {α β : Type} {F : α → β → Prop} : ∀ {l : List α} {m : List β} {i : Nat} {a : α}, Paired F l m → l[i]? = some a → ∃ b, m[i]? = some b ∧ F a b
  | _, _, 0, _, .cons r _, h => by
    have e := Option.some.inj h
    exact ⟨_, rfl, e ▸ r⟩
  | _, _, i + 1, a, .cons _ t, h => by
    obtain ⟨b, hb, r⟩ := Paired.at (i := i) (a := a) t h
    exact ⟨b, hb, r⟩
theorem bi_range (b : Bool) : 0 ≤ bi b ∧ bi b ≤ 1 := by cases b <;> decide
section
variable {P : Program} {w : World} {K : PySem.W.Frag} {mg : Str → Option Value} {base : Heap}
def sp_is_told (K : PySem.W.Frag) : Sp := fun vs H Q _ => ∃ (t : Addr) (n : Nat) (ws : List (Nat × Bool)), vs = [.ref t, .int (n : Int)] ∧ Told K H t ws ∧ (∀ v ∈ ws, v.1 < n) ∧ RetV (.bl true) H Q
theorem ok_is_told (D : DfM K mg "is_told" s_is_told) (G : Gs K mg) (C1 : Ct P w K mg base 1 "is_integer" sp_is_integer) : Ct P w K mg base 2 "is_told" (sp_is_told K) := by
  refine ct_of D sc_is_told (fun vs H Q E h => ?_) (fun _ _ _ _ _ _ us hl => match us, hl with | [_, _], _ => rfl) (fun f cdv A outer s H vs Q E hr h => ?_)
  · obtain ⟨_, _, _, rfl, _⟩ := h
    rfl
  · obtain ⟨t, n, ws, rfl, hT, hb, q⟩ := h
    rcases hT with ⟨ps, ht, hp⟩ | ⟨rfl, hN⟩
    · refine ⟨_, pss_cons (ps_if (pt_not (pt_val (pe_callB call_isiT (by rfl) G.isi boot_isinstance (pa_cons (pv 0) (pa_cons (pe_tup (pa_cons (pe_bltn (v := .ty "list") (by rfl) G.list boot_list rfl) (pa_cons (pe_bltn (v := .ty "tuple") (by rfl) G.tuple boot_tuple rfl) pa_nil))) pa_nil))))) (pss_one (ps_ret pe_bl)) pss_nil)
        (pss_cons (ps_for PassesOwn.never rfl (pi_list (pv 0)) (pg_name (i := 2) sc_is_told.nd rfl (.inl rfl))
          (pss_cons (ps_if (PW.pt (pw_or (pt_not (pt_val (pe_callB call_isi (by rfl) G.isi boot_isinstance (pa_cons (pv 2) (pa_cons (pe_bltn (v := .ty "tuple") (by rfl) G.tuple boot_tuple rfl) pa_nil))))) (pw_or1 (pt_cmpR op_ne (pe_callB call_len_seq (by rfl) G.len boot_len (pa_cons (pv 2) pa_nil)) pe_int (nomark _))))) (pss_one (ps_ret pe_bl)) pss_nil)
          (pss_one (ps_if (PW.pt (pw_or (pt_not (pt_val (pe_ct C1 hr (by rfl) (pa_cons (pe_ix ix_tup (pv 2) pe_int (fun _ _ => rfl)) (pa_cons pe_int (pa_cons (pe_op op_sub (pv 1) pe_int) pa_nil))))))
            (pw_or1 (pt_not (pt_val (pe_ct C1 hr (by rfl) (pa_cons (pe_ix ix_tup (pv 2) pe_int (fun _ _ => rfl)) (pa_cons pe_int (pa_cons pe_int pa_nil))))))))) (pss_one (ps_ret pe_bl)) pss_nil))))
        (pss_one (ps_ret pe_bl))), ?_⟩
      refine ⟨_, rfl, by show 2 ≤ sizeLine; decide, new_at fun p H2 hp2 e2 h2 => ?_⟩
      refine ⟨.ref t, p, _, .type "list", _, true, rfl, h2, .cons (.ty "list") (.cons (.ty "tuple") .nil), .base (.lst (e2 _ _ ht)), kitAny_cons (b := true) (kit_ty (by decide +kernel)) (fun z => nomatch z) (fun _ => rfl), true, rfl, ?_⟩
      refine iteF ?_
      refine ⟨_, rfl, t, rfl, ⟨_, .of (e2 _ _ ht)⟩, ?_⟩
      refine for_list (xs := ps.map V.ref) (fun i σ H3 => ∃ x2, σ = [some (.ref t), some (.int (n : Int)), x2] ∧ Ex H H3) ⟨none, rfl, e2⟩ (fun i σ H3 _ p => ?_) (fun i x σ H3 hx p => ?_) (fun σ H3 p => ?_)
      · obtain ⟨_, _, e3⟩ := p
        exact .of (e3 _ _ ht)
      · obtain ⟨x2, rfl, e3⟩ := p
        rw [List.getElem?_map] at hx
        obtain ⟨a, ha, rfl⟩ := Option.map_eq_some_iff.mp hx
        obtain ⟨v, hv, hat⟩ := Paired.at hp ha
        have hat3 := e3 _ _ hat
        have hvn := hb v (List.mem_of_getElem? hv)
        have hbr := bi_range v.2
        refine ⟨_, rfl, _, _, _, _, true, rfl, .ty "tuple", .base (.tup hat3), kit_ty (by decide +kernel), true, rfl, iteF ?_⟩
        refine ⟨_, rfl, a, _, rfl, .inr (.of hat3), rfl, _, rfl, iteF ?_⟩
        refine ⟨_, rfl, a, _, 0, _, rfl, rfl, .of hat3, atI_nat (j := 0) rfl, _, rfl, (n : Int), 1, rfl, rfl, (v.1 : Int), 0, (n : Int) - 1, rfl, _, rfl, ?_⟩
        rw [decide_eq_true (show (0 : Int) ≤ (v.1 : Int) by omega), decide_eq_true (show (v.1 : Int) ≤ (n : Int) - 1 by omega)]
        refine iteF ?_
        refine ⟨_, rfl, a, _, 1, _, rfl, rfl, .of hat3, atI_nat (j := 1) rfl, bi v.2, 0, 1, rfl, _, rfl, ?_⟩
        rw [decide_eq_true hbr.1, decide_eq_true hbr.2]
        exact iteF ⟨_, rfl, e3⟩
      · obtain ⟨_, _, e3⟩ := p
        exact q H3 e3
    · refine ⟨_, pss_cons (ps_if (pt_not (pt_val (pe_callB call_isiT (by rfl) G.isi boot_isinstance (pa_cons (pv 0) (pa_cons (pe_tup (pa_cons (pe_bltn (v := .ty "list") (by rfl) G.list boot_list rfl) (pa_cons (pe_bltn (v := .ty "tuple") (by rfl) G.tuple boot_tuple rfl) pa_nil))) pa_nil))))) (pss_one (ps_ret pe_bl)) pss_nil)
        (pss_cons (ps_for PassesOwn.never rfl (pi_tup (pv 0)) (pg_name (i := 2) sc_is_told.nd rfl (.inl rfl)) pss_never)
        (pss_one (ps_ret pe_bl))), ?_⟩
      refine ⟨_, rfl, by show 2 ≤ sizeLine; decide, new_at fun p H2 hp2 e2 h2 => ?_⟩
      obtain ⟨o, its, k, hk, hc, _⟩ := id hN
      refine ⟨.ref t, p, _, .type "tuple", _, true, rfl, h2, .cons (.ty "list") (.cons (.ty "tuple") .nil), .kTuple hk hc, kitAny_cons (b := false) (kit_ty (by decide +kernel)) (fun _ => kitAny_cons (b := true) (kit_ty (by decide +kernel)) (fun z => nomatch z) (fun _ => rfl)) (fun z => nomatch z), true, rfl, ?_⟩
      refine iteF ?_
      refine ⟨_, rfl, t, rfl, ⟨_, hN.sq H2⟩, ?_⟩
      refine for_tup (xs := []) (fun i σ H3 => Ex H H3) e2 (fun i σ H3 _ _ => hN.sq H3) (fun i x σ H3 hx _ => ?_) (fun σ H3 e3 => q H3 e3)
      cases hx
end
end LL

/-! Leastlooks: counts_of. -/
namespace LL
open PySem PySem.Spec PyProof.Rows L2
open Evl (Ex RetV RetL)
/-- a list or a tuple is walked -/
def iSeq (K : PySem.W.Frag) (tl : TE) : TI := fun σ H R => tl σ H fun x H1 => ∃ a J, x = .ref a ∧ ((J = Itl K a ∧ ∃ xs, SqL K H1 a xs) ∨ (J = Itt K a ∧ ∃ xs, SqT K H1 a xs)) ∧ R J H1
theorem pi_seq {X : Cx} {tg l : Expr} {tl : TE} (hl : PE X l tl) : PI X tg l (iSeq X.K tl) := by
  refine ⟨fun pins s σ H R I h => thn (hl.run pins s σ H _ I h) fun v s1 ⟨x, H1, I1, r1, a, J, e, hJ, q⟩ => ?_⟩
  subst e
  obtain rfl : v = Value.ref a := r1
  have fp : ∀ b ∈ [s1.heap.objs.size], FpOk X pins H1 b := fun b hb => by
    have e : b = s1.heap.objs.size := by simpa using hb
    rw [e]
    exact I1.fpOk (Nat.le_refl _) (I1.hok.fresh (Nat.le_refl _))
  rcases hJ with ⟨rfl, xs, hq⟩ | ⟨rfl, xs, hq⟩
  · obtain ⟨its, rv, p, _⟩ := I1.list hq
    exact wpAny_pyIter_list p.isList ⟨s1.heap.objs.size, [s1.heap.objs.size], _, _, H1, rfl, I1.kept (t' := s1.toks) fun b o e => Heap.get?_push_of_some _ e, turn_list a _, ⟨_, Heap.get?_push_size _ rfl, rfl, rfl⟩, fp, q⟩
  · obtain ⟨its, rv, p, _⟩ := I1.tuple hq
    exact wpAny_pyIter_tuple (show s1.heap.IsTuple a its.toArray from p) ⟨s1.heap.objs.size, [s1.heap.objs.size], _, _, H1, rfl, I1.kept (t' := s1.toks) fun b o e => Heap.get?_push_of_some _ e, turn_tuple a _, ⟨_, Heap.get?_push_size _ rfl, rfl, rfl⟩, fp, q⟩
theorem told_walk {K : PySem.W.Frag} {H : Hp} {t : Addr} {ws : List (Nat × Bool)} (h : Told K H t ws) : ∃ J, ((J = Itl K t ∧ ∃ xs, SqL K H t xs) ∨ (J = Itt K t ∧ ∃ xs, SqT K H t xs)) ∧
    Walk J ws.length (fun H' => Ex H H') (fun i H1 x H' => H' = H1 ∧ ∃ p v, ws[i]? = some v ∧ x = .ref p ∧ H p = some (.tup [.int (v.1 : Nat), .int (bi v.2)])) := by
  rcases h with ⟨ps, ht, hp⟩ | ⟨rfl, hN⟩
  · have hl : ps.length = ws.length := Paired.length hp
    refine ⟨_, .inl ⟨rfl, _, .of ht⟩, ?_⟩
    have W : Walk (Itl K t) (ps.map V.ref).length (fun H => SqL K H t (ps.map V.ref)) (YAt (ps.map V.ref)) := walk_list
    rw [List.length_map, hl] at W
    refine W.mono (fun H' e => .of (e _ _ ht)) fun i H1 x H' hi e y => ?_
    obtain ⟨rfl, hx⟩ := y
    rw [List.getElem?_map] at hx
    obtain ⟨a, ha, rfl⟩ := Option.map_eq_some_iff.mp hx
    obtain ⟨v, hv, hat⟩ := Paired.at hp ha
    exact ⟨rfl, a, v, hv, rfl, hat⟩
  · refine ⟨_, .inr ⟨rfl, _, hN.sq H⟩, ?_⟩
    have W : Walk (Itt K t) ([] : List V).length (fun H => SqT K H t []) (YAt []) := walk_tup
    exact W.mono (fun H' _ => hN.sq H') fun i H1 x H' hi _ _ => absurd hi (Nat.not_lt_zero i)
/-- xs[j], by values -/
def rGetN (K : PySem.W.Frag) : V → V → Hp → VK → Prop := fun x y H Q => ∃ (p : Addr) (xs : List V) (j : Nat) (v : V), x = .ref p ∧ y = .int (j : Int) ∧ SqL K H p xs ∧ xs[j]? = some v ∧ Q v H
theorem get_list {X : Cx} : PGet X (rGetN X.K) := by
  intro pins s σ H o i ov iv Q I ro ri h
  obtain ⟨p, xs, j, v, rfl, rfl, hq, hv, q⟩ := h
  obtain rfl : ov = Value.ref p := ro
  obtain ⟨t, rfl⟩ := ri
  obtain ⟨its, r, pl, hz⟩ := I.list hq
  obtain ⟨u, hu, ru⟩ := r.get hv
  have hj : j < xs.length := (List.getElem?_eq_some_iff.mp hv).1
  have hn := line63
  exact wpAny_getItem_list (x := u) pl.isList (by omega) (by omega) (by simpa using hu) ⟨v, H, I, ru, q⟩
theorem more_set {cs : List (Nat × Nat)} {p : Nat} {b : Bool} (h : p < cs.length) : LM.more cs p b = cs.set p (LM.bump (cs.getD p (0, 0)) b) := by
  unfold LM.more
  rw [List.set_eq_take_append_cons_drop, if_pos h]
theorem Paired.at2 {α β : Type} {F : α → β → Prop} : ∀ {l : List α} {m : List β} {i : Nat} {b : β}, Paired F l m → m[i]? = some b → ∃ a, l[i]? = some a ∧ F a b
  | _, _, 0, _, .cons r _, h => by
    have e := Option.some.inj h
    exact ⟨_, rfl, e ▸ r⟩
  | _, _, i + 1, b, .cons _ t, h => by
    obtain ⟨a, ha, r⟩ := Paired.at2 (i := i) (b := b) t h
    exact ⟨a, ha, r⟩
theorem Paired.snoc {α β : Type} {F : α → β → Prop} {a : α} {b : β} : ∀ {l : List α} {m : List β}, Paired F l m → F a b → Paired F (l ++ [a]) (m ++ [b])
  | _, _, .nil, r => .cons r .nil
  | _, _, .cons q t, r => .cons q (Paired.snoc t r)
/-- one place changes: the others stand apart -/
theorem Paired.upd {α β : Type} {F G : α → β → Prop} : ∀ {l : List α} {m : List β} {i : Nat} {a : α} {b : β}, Paired F l m → l.Nodup → l[i]? = some a → (∀ x y, x ≠ a → F x y → G x y) → G a b → Paired G l (m.set i b)
  | x :: _, _ :: _, 0, _, _, .cons r t, nd, h, k, g => by
    have e : x = _ := Option.some.inj h
    subst e
    have key : ∀ {l m}, Paired F l m → x ∉ l → Paired G l m := by
      intro l m q
      induction q with
      | nil => intro _; exact .nil
      | cons h _ ih => intro hx; exact .cons (k _ _ (fun e => hx (by rw [e]; exact List.mem_cons_self)) h) (ih fun z => hx (List.mem_cons_of_mem _ z))
    exact .cons g (key t (List.nodup_cons.mp nd).1)
  | x :: l, _ :: _, i + 1, a, b, .cons r t, nd, h, k, g => by
    have h' : l[i]? = some a := h
    refine .cons (k _ _ (fun e => ?_) r) (Paired.upd t (List.nodup_cons.mp nd).2 h' k g)
    exact (List.nodup_cons.mp nd).1 (by rw [e]; exact List.mem_of_getElem? h')
section
variable {P : Program} {w : World} {K : PySem.W.Frag} {mg : Str → Option Value} {base : Heap}
def sp_counts_of (K : PySem.W.Frag) : Sp := fun vs H Q _ => ∃ (n : Nat) (t : Addr) (ws : List (Nat × Bool)), vs = [.int (n : Int), .ref t] ∧ n ≤ 3 ∧ Told K H t ws ∧ (∀ v ∈ ws, v.1 < n) ∧ ∀ c H2, Ex H H2 → CntAt K H2 c (LM.cnt n ws) → Q (.ref c) H2
abbrev cell2 (z : Nat × Nat) : HO := .lst [.int (z.1 : Nat), .int (z.2 : Nat)]
theorem ok_counts_of (D : DfM K mg "counts_of" s_counts_of) (G : Gs K mg) : Ct P w K mg base 1 "counts_of" (sp_counts_of K) := by
  refine ct_of D sc_counts_of (fun vs H Q E h => ?_) (fun _ _ _ _ _ _ us hl => match us, hl with | [_, _], _ => rfl) (fun f cdv A outer s H vs Q E hr h => ?_)
  · obtain ⟨_, _, _, rfl, _⟩ := h
    rfl
  · obtain ⟨n, t, ws, rfl, hn, hT, hb, q⟩ := h
    refine ⟨_, pss_cons (ps_setLc (i := 2) (own := [("position", 3)]) (g := gName 3) (tt := tYes) (by rfl) sc_counts_of.nd rfl rfl (sw_true rfl rfl rfl (by decide +kernel)) (pi_range1 (by rfl) G.range (pa_cons (pv 0) pa_nil))
        (blkOk_by (own := [("position", 3)]) (N := ["many", "told", "found", "position", "bit", "pair"]) (sc := defScope s_counts_of) (by decide +kernel)) (fun _ _ _ _ _ => pg_name (i := 3) sc_counts_of.nd rfl (Or.inl rfl)) (fun _ _ _ _ _ => pts_nil)
        (fun _ _ _ _ _ => pe_lst (pa_cons pe_int (pa_cons pe_int pa_nil))))
      (pss_cons (ps_for PassesOwn.never rfl (pi_seq (pv 1)) (pg_tup rfl (pgs_cons (pg_name (i := 3) sc_counts_of.nd rfl (.inl rfl)) (pgs_cons (pg_name (i := 4) sc_counts_of.nd rfl (.inl rfl)) pgs_nil)))
        (pss_one (ps_augS (pe_ix ix_list (pv 2) (pv 3) (fun _ _ => rfl)) (pv 4) get_list pe_int ip_add set_list)))
      (pss_one (ps_ret (pe_callTy call_tuple_of (by rfl) G.tuple boot_tuple (pa_cons (pe_lc (own := [("pair", 5)]) (g := gName 5) (tt := tYes) (by rfl) sc_counts_of.nd (pi_list (pv 2))
        (blkOk_by (own := [("pair", 5)]) (N := ["many", "told", "found", "position", "bit", "pair"]) (sc := defScope s_counts_of) (by decide +kernel)) (fun _ _ _ _ _ => pg_name (i := 5) sc_counts_of.nd rfl (Or.inl rfl)) (fun _ _ _ _ _ => pts_nil)
        (fun _ _ _ _ _ => pe_tup (pa_cons (pe_ix (r := rIxL K) ix_list (pv 5) pe_int (fun _ _ => rfl)) (pa_cons (pe_ix (r := rIxL K) ix_list (pv 5) pe_int (fun _ _ => rfl)) pa_nil)))) pa_nil))))), ?_⟩
    refine ⟨_, rfl, (n : Int), rfl, by omega, by omega, fun L hL => ?_⟩
    -- found = [[0, 0] ..]
    refine lc_range (n := (n : Int).toNat) (fun i H' => Ex H H' ∧ ∃ qs : List Addr, H' L = some (.lst (qs.map V.ref)) ∧ qs.Nodup ∧ Paired (fun a z => H' a = some (cell2 z)) qs (List.replicate i (0, 0)) ∧ i ≤ 3 ∧ ∀ a ∈ qs, H a = none) ⟨Evl.Ex.new hL, [], upd_same, List.nodup_nil, .nil, by omega, fun a ha => nomatch ha⟩ ?_ ?_
    · rintro i H1 hi ⟨e1, qs, h1, nd, hp, _, hf⟩
      refine ⟨rfl, ?_⟩
      refine tyes (iteT ?_)
      refine ⟨by show 2 ≤ sizeLine; decide, fun p hp0 => ?_⟩
      have nLp : L ≠ p := ne_of_none h1 hp0
      have hlen : qs.length = i := by rw [Paired.length hp, List.length_replicate]
      refine ⟨qs.map V.ref, by rw [upd_ne nLp]; exact h1, by rw [List.length_map, hlen]; exact small1000 (by omega), ?_, qs ++ [p], ?_, ?_, ?_, by omega, fun a ha => ?_⟩
      · exact (e1.trans (Evl.Ex.new hp0)).mut hL
      · rw [upd_same, List.map_append]
        rfl
      · refine List.nodup_append.mpr ⟨nd, List.nodup_cons.mpr ⟨(by simp), List.nodup_nil⟩, fun a ha b hb => ?_⟩
        have eb : b = p := by simpa using hb
        rw [eb]
        obtain ⟨j, hj⟩ := List.mem_iff_getElem?.mp ha
        obtain ⟨z, _, hz⟩ := Paired.at hp hj
        exact ne_of_none hz hp0
      · have er : List.replicate (i + 1) ((0 : Nat), (0 : Nat)) = List.replicate i (0, 0) ++ [(0, 0)] := List.replicate_succ'
        rw [er]
        refine Paired.snoc (Paired.mapP hp fun a z hz => ?_) ?_
        · rw [upd_ne (fun e => by rw [e] at hz; rw [h1] at hz; cases qs <;> cases hz), upd_ne (ne_of_none hz hp0)]
          exact hz
        · rw [upd_ne nLp.symm, upd_same]
          rfl
      · rcases List.mem_append.mp ha with z | z
        · exact hf a z
        · rw [List.mem_singleton.mp z]
          exact Evl.fresh_back e1 hp0
    · rintro H1 ⟨e1, qs, h1, nd, hp, _, hf⟩
      have en : ((n : Int)).toNat = n := by omega
      rw [en] at hp
      -- the loop
      obtain ⟨J, hJ0, W⟩ := told_walk hT
      have hJ : (J = Itl K t ∧ ∃ xs, SqL K H1 t xs) ∨ (J = Itt K t ∧ ∃ xs, SqT K H1 t xs) := hJ0.imp (fun ⟨a, xs, b⟩ => ⟨a, xs, Evl.ex_l e1 b⟩) fun ⟨a, xs, b⟩ => ⟨a, xs, Evl.ex_t e1 b⟩
      refine ⟨_, rfl, t, J, rfl, hJ, ?_⟩
      have hlq : qs.length = n := by rw [Paired.length hp, List.length_replicate]
      refine for_it W (fun i σ H2 => ∃ x3 x4, σ = [some (.int (n : Int)), some (.ref t), some (.ref L), x3, x4, none] ∧ Ex H H2 ∧ H2 L = some (.lst (qs.map V.ref)) ∧ Paired (fun a z => H2 a = some (cell2 z)) qs (LM.cnt n (ws.take i))) ?_ ?_ ?_ ?_
      · exact ⟨none, none, rfl, e1, h1, hp⟩
      · rintro i σ H2 _ ⟨_, _, _, e2, _⟩
        exact e2
      · rintro i x σ Hx H2 hi ⟨x3, x4, rfl, e2, h2, hp2⟩ ⟨rfl, p, v, hv, rfl, hat⟩
        have hvn := hb v (List.mem_of_getElem? hv)
        have hcl : (LM.cnt n (ws.take i)).length = n := LM.cnt_len fun u hu => hb u (List.mem_of_mem_take hu)
        have hlt : v.1 < qs.length := by omega
        have hqa : qs[v.1]? = some qs[v.1] := List.getElem?_eq_getElem hlt
        obtain ⟨z, hz, hcell⟩ := Paired.at hp2 hqa
        -- position, bit = the pair
        refine ⟨p, _, rfl, .of (e2 _ _ hat), rfl, _, _, rfl, _, _, rfl, rfl, ?_⟩
        -- found[position][bit] += 1
        have ez : (LM.cnt n (ws.take i)).getD v.1 (0, 0) = z := by rw [List.getD_eq_getElem?_getD, hz]; rfl
        have et : LM.cnt n (ws.take (i + 1)) = (LM.cnt n (ws.take i)).set v.1 (LM.bump z v.2) := by
          rw [List.take_add_one, hv]
          show LM.cnt n (ws.take i ++ [v]) = _
          rw [LM.cnt_snoc, more_set (by omega), ez]
        refine ⟨_, rfl, _, rfl, L, _, (v.1 : Int), .ref qs[v.1], rfl, rfl, .of h2, atI_nat (by rw [List.getElem?_map, hqa]; rfl), ?_⟩
        have fin : ∀ o, o = cell2 (LM.bump z v.2) → Ex H (L2.upd H2 qs[v.1] o) ∧ (L2.upd H2 qs[v.1] o) L = some (.lst (qs.map V.ref)) ∧ Paired (fun a z => (L2.upd H2 qs[v.1] o) a = some (cell2 z)) qs (LM.cnt n (ws.take (i + 1))) := fun o eo => by
          refine ⟨e2.mut (hf _ (List.getElem_mem hlt)), ?_, ?_⟩
          · have nL : L ≠ qs[v.1] := fun e => by
              rw [← e, h2] at hcell
              have e3 := HO.lst.inj (Option.some.inj hcell)
              cases hqs : qs with
              | nil => rw [hqs] at hlt; exact absurd hlt (Nat.not_lt_zero _)
              | cons a r => rw [hqs] at e3; cases e3
            rw [upd_ne nL]
            exact h2
          · rw [et]
            refine Paired.upd hp2 nd hqa (fun a y ha hy => ?_) ?_
            · rw [upd_ne ha]
              exact hy
            · rw [upd_same, eo]
        obtain ⟨v1, v2⟩ := v
        cases v2 with
        | false =>
          refine ⟨_, rfl, qs[v1], _, 0, .int (z.1 : Nat), rfl, rfl, .of hcell, rfl, (z.1 : Nat), 1, rfl, rfl, qs[v1], _, 0, 0, rfl, rfl, hcell, rfl, ?_⟩
          exact ⟨_, _, rfl, fin _ rfl⟩
        | true =>
          refine ⟨_, rfl, qs[v1], _, 1, .int (z.2 : Nat), rfl, rfl, .of hcell, rfl, (z.2 : Nat), 1, rfl, rfl, qs[v1], _, 1, 1, rfl, rfl, hcell, rfl, ?_⟩
          exact ⟨_, _, rfl, fin _ rfl⟩
      · rintro σ H2 ⟨x3, x4, rfl, e2, h2, hp2⟩
        rw [List.take_length] at hp2
        -- the tuple
        refine ⟨_, rfl, L, rfl, ⟨_, .of h2⟩, fun D0 hD => ?_⟩
        have hcl : (LM.cnt n ws).length = n := LM.cnt_len hb
        refine lc_list (xs := qs.map V.ref) (fun i H' => Ex H2 H' ∧ ∃ ps : List Addr, H' D0 = some (.lst (ps.map V.ref)) ∧ ps.length = i ∧ Paired (fun a (z : Nat × Nat) => H' a = some (.tup [.int (z.1 : Nat), .int (z.2 : Nat)])) ps ((LM.cnt n ws).take i)) ⟨Evl.Ex.new hD, [], upd_same, rfl, .nil⟩ (fun i H' _ p => .of (p.1 _ _ h2)) ?_ ?_
        · rintro i x H3 hx ⟨e3, ps, h3, hl3, hp3⟩
          rw [List.getElem?_map] at hx
          obtain ⟨a, ha, rfl⟩ := Option.map_eq_some_iff.mp hx
          obtain ⟨z, hz, hcell⟩ := Paired.at hp2 ha
          have hc3 := e3 _ _ hcell
          have hi : i < n := by
            have := (List.getElem?_eq_some_iff.mp ha).1
            omega
          refine ⟨rfl, ?_⟩
          refine tyes (iteT ?_)
          refine ⟨_, rfl, a, _, 0, _, rfl, rfl, .of hc3, atI_nat (j := 0) rfl, _, rfl, a, _, 1, _, rfl, rfl, .of hc3, atI_nat (j := 1) rfl, by show 2 ≤ sizeLine; decide, fun p hp0 => ?_⟩
          have nDp : D0 ≠ p := ne_of_none h3 hp0
          refine ⟨_, by rw [upd_ne nDp]; exact h3, by rw [List.length_map]; exact small1000 (by omega), (e3.trans (Evl.Ex.new hp0)).mut hD, ps ++ [p], ?_, by rw [List.length_append, hl3]; rfl, ?_⟩
          · rw [upd_same, List.map_append]
            rfl
          · rw [List.take_add_one, hz]
            refine Paired.snoc (Paired.mapP hp3 fun b y hy => ?_) ?_
            · rw [upd_ne (fun e => by rw [e, h3] at hy; cases hy), upd_ne (ne_of_none hy hp0)]
              exact hy
            · rw [upd_ne nDp.symm, upd_same]
        · rintro H3 ⟨e3, ps, h3, hl3, hp3⟩
          rw [List.take_of_length_le (by rw [List.length_map]; omega)] at hp3
          refine ⟨D0, _, rfl, .inl ⟨.of h3, new_at fun c H4 hc e4 h4 => ?_⟩⟩
          exact q c H4 ((e2.trans e3).trans e4) ⟨ps, .of h4, Paired.mapP hp3 fun a z hz => .of (e4 _ _ hz)⟩
end
end LL

/-! Leastlooks: wrong_looks, open_by, need_open, open_inputs. -/
namespace LL
open PySem PySem.Spec PyProof.Rows L2
open Evl (Ex RetV RetL)
theorem wrong_sum : ∀ (t : List Bool) (cs : List (Nat × Nat)), ((List.zipWith (fun b (z : Nat × Nat) => if b then z.1 else z.2) t cs).map fun k : Nat => (k : Int)).sum = (LM.wrong t cs : Int)
  | [], _ => rfl
  | _ :: _, [] => rfl
  | b :: t, z :: cs => by
    have ih := wrong_sum t cs
    show (((if b then z.1 else z.2 : Nat) : Int) :: _).sum = ((((if b then z.1 else z.2 : Nat) + LM.wrong t cs : Nat)) : Int)
    rw [List.sum_cons, ih, Int.natCast_add]
theorem int_sign (b : Bool) : PySem.intText? (⟨#[cd b]⟩ : Str) = some (bi b) := by cases b <;> decide +kernel
theorem signs_at {t : List Bool} {i : Nat} (h : i < t.length) : (signsV (tx t))[i]? = some (.str ⟨#[cd t[i]]⟩) := by
  unfold signsV
  rw [tx_codes, List.getElem?_map, List.getElem?_map, List.getElem?_eq_getElem h]
  rfl
theorem signs_len (t : List Bool) : (signsV (tx t)).length = t.length := by
  unfold signsV
  rw [tx_codes, List.length_map, List.length_map]
section
variable {P : Program} {w : World} {K : PySem.W.Frag} {mg : Str → Option Value} {base : Heap}
def sp_wrong_looks (K : PySem.W.Frag) : Sp := fun vs H Q _ => ∃ (t : List Bool) (c : Addr) (cs : List (Nat × Nat)), vs = [.str (tx t), .ref c] ∧ CntAt K H c cs ∧ t.length = cs.length ∧ t.length ≤ 6 ∧ RetV (.int (LM.wrong t cs : Nat)) H Q
theorem ok_wrong_looks (D : DfM K mg "wrong_looks" s_wrong_looks) (G : Gs K mg) : Ct P w K mg base 1 "wrong_looks" (sp_wrong_looks K) := by
  refine ct_of D sc_wrong_looks (fun vs H Q E h => ?_) (fun _ _ _ _ _ _ us hl => match us, hl with | [_, _], _ => rfl) (fun f cdv A outer s H vs Q E hr h => ?_)
  · obtain ⟨_, _, _, rfl, _⟩ := h
    rfl
  · obtain ⟨t, c, cs, rfl, ⟨ps, hc, hp⟩, hl, h6, q⟩ := h
    refine ⟨_, pss_one (ps_ret (pe_callB (cr_sum rfl) (by rfl) G.sum boot_sum (pa_cons (pe_lc (own := [("bit", 2), ("pair", 3)]) (g := gTup K 2 (gCons (gName 2) (gCons (gName 3) gNil))) (tt := tYes) (by rfl) sc_wrong_looks.nd
      (pi_zipS (by rfl) G.zip (pa_cons (pv 0) (pa_cons (pv 1) pa_nil))) (blkOk_by (own := [("bit", 2), ("pair", 3)]) (N := ["text", "counts", "bit", "pair"]) (sc := defScope s_wrong_looks) (by decide +kernel))
      (fun _ _ _ _ _ => pg_tup rfl (pgs_cons (pg_name (i := 2) sc_wrong_looks.nd rfl (Or.inl rfl)) (pgs_cons (pg_name (i := 3) sc_wrong_looks.nd rfl (Or.inl rfl)) pgs_nil))) (fun _ _ _ _ _ => pts_nil)
      (fun _ _ _ _ _ => pe_ix (r := rIxT K) ix_tup (pv 3) (pe_op op_sub pe_int (pe_callTy call_int_str (by rfl) G.int boot_int (pa_cons (pv 2) pa_nil))) (fun _ _ => rfl))) pa_nil))), ?_⟩
    refine ⟨_, rfl, _, rfl, .txt (tx t), .tup c, _, _, rfl, rfl, hc, fun D0 hD => ?_⟩
    have hpl := Paired.length hp
    refine lc_map (walk_zipS (n := t.length) (signs_len t) (by rw [List.length_map]; omega)) hD (((List.zipWith (fun b (z : Nat × Nat) => if b then z.1 else z.2) t cs).map fun k : Nat => (k : Int)).map V.int) (by rw [List.length_map, List.length_map, List.length_zipWith]; omega) (by omega) (fun H2 e2 => ⟨rfl, Evl.ex_t e2 hc⟩) ?_ ?_
    · rintro i x H2 H' Q2 hi e2 ⟨T, x1, y1, rfl, hT, rfl, h1, h2⟩ k
      have hi2 : i < cs.length := by omega
      have h1 : (signsV (tx t))[i]? = some x1 := h1
      rw [signs_at hi] at h1
      have h1 := Option.some.inj h1
      subst h1
      have h2 : (ps.map V.ref)[i]? = some y1 := h2
      rw [List.getElem?_map] at h2
      obtain ⟨p, hpi, rfl⟩ := Option.map_eq_some_iff.mp h2
      obtain ⟨z, hz, hpair⟩ := Paired.at hp hpi
      have eT := Evl.Ex.new (o := .tup [.str ⟨#[cd t[i]]⟩, .ref p]) hT
      refine ⟨T, _, rfl, .of upd_same, rfl, _, _, rfl, _, _, rfl, rfl, rfl, ?_⟩
      refine ⟨_, rfl, _, rfl, ⟨#[cd t[i]]⟩, bi t[i], rfl, int_sign _, by show 1 ≤ 640; decide, 1, bi t[i], rfl, rfl, p, _, 1 - bi t[i], .int ((if t[i] then z.1 else z.2 : Nat) : Int), rfl, rfl, Evl.ex_t (e2.trans eT) hpair, ?_, k _ _ eT ?_⟩
      · cases t[i] <;> rfl
      · rw [List.getElem?_map, List.getElem?_map, List.getElem?_zipWith, List.getElem?_eq_getElem hi, hz]
        rfl
    · intro H2 e2 d
      refine ⟨D0, _, rfl, .of d, ?_⟩
      rw [wrong_sum]
      exact q H2 e2
def sp_open_by (K : PySem.W.Frag) : Sp := fun vs H Q _ => ∃ (n l : Nat) (c : Addr) (cs : List (Nat × Nat)), vs = [.int (n : Int), .int (l : Int), .ref c] ∧ n ≤ 3 ∧ cs.length = n ∧ CntAt K H c cs ∧ RetL (txs (LM.opn n l cs)) H Q
theorem ok_open_by (D : DfM K mg "open_by" s_open_by) (G : Gs K mg) (C1 : Ct P w K mg base 3 "inputs" sp_inputs) (C2 : Ct P w K mg base 3 "wrong_looks" (sp_wrong_looks K)) : Ct P w K mg base 4 "open_by" (sp_open_by K) := by
  refine ct_of D sc_open_by (fun vs H Q E h => ?_) (fun _ _ _ _ _ _ us hl => match us, hl with | [_, _, _], _ => rfl) (fun f cdv A outer s H vs Q E hr h => ?_)
  · obtain ⟨_, _, _, _, rfl, _⟩ := h
    rfl
  · obtain ⟨n, l, c, cs, rfl, hn, hl, hc, q⟩ := h
    refine ⟨_, pss_one (ps_ret (pe_lc (own := [("text", 3)]) (g := gName 3) (by rfl) sc_open_by.nd (pi_list (pe_ct C1 hr (by rfl) (pa_cons (pv 0) pa_nil))) (blkOk_by (own := [("text", 3)]) (N := ["many", "lies", "counts", "text"]) (sc := defScope s_open_by) (by decide +kernel))
      (fun _ _ _ _ _ => pg_name (i := 3) sc_open_by.nd rfl (Or.inl rfl)) (fun _ _ _ _ _ => pts_one (pt_cmpR op_le (pe_ct C2 hr (by rfl) (pa_cons (pv 3) (pa_cons (pv 2) pa_nil))) (pv 1) (nomark _))) (fun _ _ _ _ _ => pv 3))), ?_⟩
    refine ⟨_, rfl, n, rfl, hn, fun p H2 hp e2 h2 => ⟨p, rfl, ⟨_, .of h2⟩, fun D0 hD => ?_⟩⟩
    refine lc_filter (walk_list (xs := txs (LM.ins n))) hD (LM.ins n) (fun t => V.str (tx t)) (fun t => decide (LM.wrong t cs ≤ l)) (by unfold txs; rw [List.length_map]) (by unfold txs; rw [List.length_map]; exact Nat.le_trans (ins_small hn) (by decide)) (fun H3 e3 => .of (e3 _ _ h2)) ?_ ?_
    · rintro i x H3 H' t Q2 Qn hi e3 ⟨rfl, hx⟩ ht k kn
      unfold txs at hx
      rw [List.getElem?_map, ht] at hx
      have ex := Option.some.inj hx
      subst ex
      have htl : t.length = n := (LM.mem_ins n t).mp (List.mem_of_getElem? ht)
      refine ⟨rfl, _, rfl, _, rfl, t, c, cs, rfl, hc.ex (e2.trans e3), by omega, by omega, fun H4 e4 => ?_⟩
      refine ⟨_, rfl, (LM.wrong t cs : Nat), (l : Int), rfl, rfl, _, rfl, ite2 (fun z => ?_) (fun z => ?_)⟩
      · exact ⟨_, rfl, k _ _ e4 (decide_eq_true (by have := of_decide_eq_true z; omega)) rfl⟩
      · exact kn _ e4 (decide_eq_false fun z' => z (decide_eq_true (by omega)))
    · intro H3 e3 d
      exact q D0 H3 (Evl.fresh_back e2 hD) (e2.trans e3) d
def sp_need_open (K : PySem.W.Frag) : Sp := fun vs H Q _ => ∃ (n l : Nat) (t : Addr) (ws : List (Nat × Bool)), vs = [.int (n : Int), .int (l : Int), .ref t] ∧ n ≤ 3 ∧ l ≤ 2 ∧ Told K H t ws ∧ (∀ v ∈ ws, v.1 < n) ∧ LM.opn n l (LM.cnt n ws) ≠ [] ∧
  ∀ c H2, Ex H H2 → CntAt K H2 c (LM.cnt n ws) → Q (.ref c) H2
theorem ok_need_open (D : DfM K mg "need_open" s_need_open) (G : Gs K mg) (C1 : Ct P w K mg base 4 "is_integer" sp_is_integer) (C2 : Ct P w K mg base 4 "is_told" (sp_is_told K)) (C3 : Ct P w K mg base 4 "counts_of" (sp_counts_of K)) (C4 : Ct P w K mg base 4 "open_by" (sp_open_by K)) :
    Ct P w K mg base 5 "need_open" (sp_need_open K) := by
  refine ct_of D sc_need_open (fun vs H Q E h => ?_) (fun _ _ _ _ _ _ us hl => match us, hl with | [_, _, _], _ => rfl) (fun f cdv A outer s H vs Q E hr h => ?_)
  · obtain ⟨_, _, _, _, rfl, _⟩ := h
    rfl
  · obtain ⟨n, l, t, ws, rfl, hn, hl, hT, hb, ho, q⟩ := h
    refine ⟨_, pss_cons (ps_if (pt_cmpR op_gt (pv 0) (pe_gi G.WIDE) (nomark _)) (pss_one ps_never) pss_nil)
      (pss_cons (ps_if (pt_not (pt_val (pe_ct C1 hr (by rfl) (pa_cons (pv 1) (pa_cons pe_int (pa_cons (pe_gi G.LIES) pa_nil)))))) (pss_one ps_never) pss_nil)
      (pss_cons (ps_if (pt_not (pt_val (pe_ct C2 hr (by rfl) (pa_cons (pv 2) (pa_cons (pv 0) pa_nil))))) (pss_one ps_never) pss_nil)
      (pss_cons (ps_set (i := 3) sc_need_open.nd rfl (.inl rfl) (pe_ct C3 hr (by rfl) (pa_cons (pv 0) (pa_cons (pv 2) pa_nil))))
      (pss_cons (ps_if (pt_cmpR op_eq (pe_callB call_len_seq (by rfl) G.len boot_len (pa_cons (pe_ct C4 hr (by rfl) (pa_cons (pv 0) (pa_cons (pv 1) (pa_cons (pv 3) pa_nil)))) pa_nil)) pe_int (nomark _)) (pss_one ps_never) pss_nil)
      (pss_one (ps_ret (pv 3))))))), ?_⟩
    refine ⟨_, rfl, (n : Int), 3, rfl, rfl, _, rfl, ?_⟩
    rw [decide_eq_false (show ¬ (3 : Int) < (n : Int) by omega)]
    refine iteF ?_
    refine ⟨_, rfl, (l : Int), 0, 2, rfl, _, rfl, ?_⟩
    rw [decide_eq_true (show (0 : Int) ≤ (l : Int) by omega), decide_eq_true (show (l : Int) ≤ 2 by omega)]
    refine iteF ?_
    refine ⟨_, rfl, _, rfl, t, n, ws, rfl, hT, hb, fun H2 e2 => ⟨true, rfl, iteF ?_⟩⟩
    refine ⟨_, rfl, _, rfl, n, t, ws, rfl, hn, hT.ex e2, hb, fun c H3 e3 hc => ?_⟩
    refine ⟨_, rfl, _, rfl, _, rfl, n, l, c, _, rfl, hn, LM.cnt_len hb, hc, fun p H4 hp e4 h4 => ?_⟩
    refine ⟨p, _, rfl, .inl (.of h4), rfl, _, rfl, ite2 (fun z => ?_) (fun z => ?_)⟩
    · exfalso
      have z1 := V.int.inj (of_decide_eq_true z)
      unfold txs at z1
      rw [List.length_map] at z1
      exact ho (List.length_eq_zero_iff.mp (by omega))
    · exact ⟨_, rfl, q c H4 ((e2.trans e3).trans e4) (hc.ex e4)⟩
def sp_open_inputs (K : PySem.W.Frag) : Sp := fun vs H Q _ => ∃ (n l : Nat) (t : Addr) (ws : List (Nat × Bool)), vs = [.int (n : Int), .int (l : Int), .ref t] ∧ n ≤ 3 ∧ l ≤ 2 ∧ Told K H t ws ∧ (∀ v ∈ ws, v.1 < n) ∧ LM.opn n l (LM.cnt n ws) ≠ [] ∧
  RetL (txs (LM.opn n l (LM.cnt n ws))) H Q
theorem ok_open_inputs (D : DfM K mg "open_inputs" s_open_inputs) (G : Gs K mg) (C1 : Ct P w K mg base 5 "open_by" (sp_open_by K)) (C2 : Ct P w K mg base 5 "need_open" (sp_need_open K)) : Ct P w K mg base 6 "open_inputs" (sp_open_inputs K) := by
  refine ct_of D sc_open_inputs (fun vs H Q E h => ?_) (fun _ _ _ _ _ _ us hl => match us, hl with | [_, _, _], _ => rfl) (fun f cdv A outer s H vs Q E hr h => ?_)
  · obtain ⟨_, _, _, _, rfl, _⟩ := h
    rfl
  · obtain ⟨n, l, t, ws, rfl, hn, hl, hT, hb, ho, q⟩ := h
    refine ⟨_, pss_one (ps_ret (pe_ct C1 hr (by rfl) (pa_cons (pv 0) (pa_cons (pv 1) (pa_cons (pe_ct C2 hr (by rfl) (pa_cons (pv 0) (pa_cons (pv 1) (pa_cons (pv 2) pa_nil)))) pa_nil))))), ?_⟩
    refine ⟨_, rfl, _, rfl, _, rfl, _, rfl, _, rfl, n, l, t, ws, rfl, hn, hl, hT, hb, ho, fun c H2 e2 hc => ?_⟩
    exact ⟨n, l, c, _, rfl, hn, LM.cnt_len hb, hc, fun p H3 hp e3 h3 => q p H3 (Evl.fresh_back e2 hp) (e2.trans e3) h3⟩
end
end LL

/-! Leastlooks: a question's calls, only_answer, told_answer, more, split_positions. -/
namespace LL
open PySem PySem.Spec PyProof.Rows L2
open Evl (Ex RetV RetL)
/-- the class of questions -/
structure QC (K : PySem.W.Frag) (C : Addr) : Prop where
  cls : Cls K C
  nT : NoAttr K C "kept_table"
  nM : NoAttr K C "kept_many"
  nA : NoAttr K C "answer_of"
  nY : NoAttr K C "yes"
/-- a question of n positions that answers as f -/
def QAt (C : Addr) (H : Hp) (q : Addr) (n : Nat) (f : List Bool → Bool) : Prop :=
  ∃ (dx : Addr) (fs : List (Str × V)) (d : Addr) (kvs : List (Key × V)), H q = some (.ins C dx fs) ∧ fs.lookup ("kept_many" : Str) = some (.int (n : Int)) ∧ fs.lookup ("answer_of" : Str) = some (.ref d) ∧ H d = some (.dK kvs) ∧
    ∀ bs : List Bool, bs.length = n → valV kvs (.inr (tx bs)) = some (.int (bi (f bs)))
theorem QAt.ex {C : Addr} {H H' : Hp} {q : Addr} {n : Nat} {f : List Bool → Bool} (e : Ex H H') (h : QAt C H q n f) : QAt C H' q n f := by
  obtain ⟨dx, fs, d, kvs, h1, h2, h3, h4, h5⟩ := h
  exact ⟨dx, fs, d, kvs, e _ _ h1, h2, h3, e _ _ h4, h5⟩
theorem u1 {k : Nat} {A : Around} (hr : Room k A) : A.units + 1 < cLine := by
  have := hr.units
  omega
theorem bi_inj {a b : Bool} (h : bi a = bi b) : a = b := by cases a <;> cases b <;> first | rfl | exact absurd h (by decide)
section
variable {P : Program} {w : World} {K : PySem.W.Frag} {mg : Str → Option Value} {base : Heap}
/-- its __call__ keeps a promise -/
def CtQ (P : Program) (w : World) (K : PySem.W.Frag) (mg : Str → Option Value) (base : Heap) (C : Addr) (k : Nat) (sp : Sp) : Prop := ∃ g, StX.CallO K C g ∧ FnR P w K mg base CX0 k g sp
theorem CtQ.up {C : Addr} {j k : Nat} {sp : Sp} (c : CtQ P w K mg base C j sp) (h : j ≤ k) : CtQ P w K mg base C k sp := by
  obtain ⟨g, a, F⟩ := c
  exact ⟨g, a, F.mono h⟩
def sp_q_call (C : Addr) : Sp := fun vs H Q _ => ∃ (q : Addr) (n : Nat) (f : List Bool → Bool) (t : List Bool), vs = [.ref q, .str (tx t)] ∧ QAt C H q n f ∧ t.length = n ∧ n ≤ 6 ∧ RetV (.int (bi (f t))) H Q
theorem ok_q_call {C : Addr} (D : ∃ g, StX.CallO K C g ∧ Df K mg "__call__" "Question.__call__" s_q_call [] g) (q : QC K C) (C1 : Ct P w K mg base 3 "need_input" sp_need_input) : CtQ P w K mg base C 4 (sp_q_call C) := by
  obtain ⟨g, hO, fd, F⟩ := D
  refine ⟨g, hO, fn_by F sc_q_call (fun vs H Q E h => ?_) (fun _ _ _ _ _ _ us hl => match us, hl with | [_, _], _ => rfl) (fun cdv A outer s H vs Q E hr h => ?_)⟩
  · obtain ⟨_, _, _, _, rfl, _⟩ := h
    rfl
  · obtain ⟨p, n, f, t, rfl, ⟨dx, fs, d, kvs, h1, h2, h3, h4, h5⟩, hl, h6, k⟩ := h
    refine ⟨_, pss_cons (ps_expr (pe_ct C1 hr (by rfl) (pa_cons (pv 1) (pa_cons (pe_fld (pv 0) rfl) pa_nil)))) (pss_one (ps_ret (pe_dget (u1 hr) (pe_fld (pv 0) rfl) (pv 1) (fun _ _ => rfl)))), ?_⟩
    refine ⟨_, rfl, _, rfl, p, C, dx, fs, _, rfl, h1, q.cls, q.nM, h2, t, ?_, by omega, fun H2 e2 => ?_⟩
    · rw [hl]
    refine ⟨_, rfl, p, C, dx, fs, _, rfl, e2 _ _ h1, q.cls, q.nA, h3, _, rfl, d, _, rfl, ?_, k H2 e2⟩
    rw [← h5 t hl]
    exact DGet.k (k := .inr (tx t)) (e2 _ _ h4)
/-- its property many -/
def CtM (P : Program) (w : World) (K : PySem.W.Frag) (mg : Str → Option Value) (base : Heap) (C : Addr) : Prop := ∃ p g fd, PropOf K C "many" p g ∧ FnOk P w K mg base CX0 1 g fd ["self"] (getSp C "kept_many") ∧ Binds K fd ["self"] []
theorem ok_q_many {C : Addr} (D : ∃ p g, PropOf K C "many" p g ∧ Df K mg "many" "Question.many" s_q_many [] g) (q : QC K C) : CtM P w K mg base C := by
  obtain ⟨p, g, hO, fd, F⟩ := D
  refine ⟨p, g, fd, hO, FunD.ok F sc_q_many (fun vs H Q E h => ?_) (fun cdv A outer s H vs Q E hr h => ?_), F.bindsN (fun _ _ _ _ _ _ us hl => match us, hl with | [_], _ => rfl)⟩
  · obtain ⟨_, _, _, _, rfl, _⟩ := h
    rfl
  · obtain ⟨a, dx, fs, v, rfl, ea, l, k⟩ := h
    refine ⟨_, pss_one (ps_ret (pe_fld (pv 0) rfl)), ?_⟩
    exact ⟨.ref a, rfl, a, C, dx, fs, v, rfl, ea, q.cls, q.nM, l, k⟩
theorem CtM.fn {C : Addr} (c : CtM P w K mg base C) {k : Nat} : ∃ p g fd, PropOf K C "many" p g ∧ FnOk P w K mg base CX0 (k + 1) g fd ["self"] (getSp C "kept_many") ∧ Binds K fd ["self"] [] := by
  obtain ⟨p, g, fd, a, b, c⟩ := c
  exact ⟨p, g, fd, a, b.mono (by omega), c⟩
end
/-- q.many -/
theorem pe_many {X : Cx} {k : Nat} {C : Addr} {e : Expr} {ta : TE} {pos : Pos} (c : CtM X.prog X.w X.K X.mg X.base C) (q : QC X.K C) (hr : Room k X.A) (hk : 2 ≤ k) (he : PE X e ta) (hab : attributeBase e "many" X.env (eval e X.env) = eval e X.env := by rfl) :
    PE X (.Attribute e "many" pos) (tProp C (getSp C "kept_many") [] E0 ta) := by
  obtain ⟨p, g, fd, a, b, d⟩ := c
  exact pe_prop he q.cls a (b.mono (k := 1) (Nat.le_refl _)) (hr.mono hk) d .nil (fun _ _ _ _ _ _ _ h => h.elim) hab
/-- q(e) -/
def tCq (C : Addr) (sp : Sp) (tf : TE) (t : TA) : TE := fun σ H Q => tf σ H fun y H1 => ∃ a, y = V.ref a ∧ t σ H1 fun vs H2 => (∃ dx fs, H2 a = some (.ins C dx fs)) ∧ sp (V.ref a :: vs) H2 Q E0
theorem pe_cq {X : Cx} {k : Nat} {C : Addr} {sp : Sp} {fe e : Expr} {es : List Expr} {tf : TE} {t : TA} {pos : Pos} (c : CtQ X.prog X.w X.K X.mg X.base C k sp) (hr : Room k X.A) (hf : PE X fe tf) (ha : PA X (e :: es) t)
    (ht : eval (.Call fe (e :: es) [] pos) X.env = (do callWith pos (← eval fe X.env) [] (backTo pos (starEach (e :: es) X.env)) (backToKw pos (keywordEach [] X.env))) := by rfl)
    (he : starEach (e :: es) X.env = (false, eval e X.env) :: starEach es X.env := by rfl) (hpl : (backTo pos (starEach es X.env)).any (·.1) = false := by rfl) : PE X (.Call fe (e :: es) [] pos) (tCq C sp tf t) := by
  obtain ⟨g, a, F⟩ := c
  refine ⟨fun pins s σ H Q I h => ?_⟩
  refine Call_ (thn (hf.run pins s σ H _ I h) fun u s1 ⟨y, H1, I1, ry, a0, ey, q⟩ => ?_) ht
  subst ey
  obtain rfl : u = Value.ref a0 := ry
  refine StX.callO_with (thn (ha.run pos pins s1 σ H1 _ I1 q) fun us s2 ⟨vs, H2, I2, r, hi, q2⟩ => ?_) he hpl
  have hi2 : StX.InsC X H2 a0 C := .inr hi
  obtain ⟨ox, od, J, hd⟩ := StX.insC_at I2 hi2
  exact ⟨⟨C, ox, od, J, hd⟩, StX.run_callO a F hr pass0 I2 hi2 r q2⟩
/-- the answer of some inputs, or none -/
def onlyV (f : List Bool → Bool) (ts : List (List Bool)) : V := if LM.same f ts = true then .int (bi (f (ts.headD []))) else .non
section
variable {P : Program} {w : World} {K : PySem.W.Frag} {mg : Str → Option Value} {base : Heap}
def sp_only (K : PySem.W.Frag) (C : Addr) : Sp := fun vs H Q _ => ∃ (q t : Addr) (n : Nat) (f : List Bool → Bool) (ts : List (List Bool)), vs = [.ref q, .ref t] ∧ QAt C H q n f ∧ SqL K H t (txs ts) ∧ ts ≠ [] ∧ (∀ u ∈ ts, u.length = n) ∧ n ≤ 6 ∧ ts.length ≤ 100 ∧ RetV (onlyV f ts) H Q
theorem ok_only {C : Addr} (D : DfM K mg "only_answer" s_only_answer) (G : Gs K mg) (C1 : CtQ P w K mg base C 4 (sp_q_call C)) : Ct P w K mg base 5 "only_answer" (sp_only K C) := by
  refine ct_of D sc_only_answer (fun vs H Q E h => ?_) (fun _ _ _ _ _ _ us hl => match us, hl with | [_, _], _ => rfl) (fun f cdv A outer s H vs Q E hr h => ?_)
  · obtain ⟨_, _, _, _, _, rfl, _⟩ := h
    rfl
  · obtain ⟨q, t, n, g, ts, rfl, hq, ht, hne, hl, h6, hz, k⟩ := h
    refine ⟨_, pss_cons (ps_setLc (i := 2) (own := [("text", 3)]) (g := gName 3) (tt := tYes) (by rfl) sc_only_answer.nd rfl rfl (sw_true rfl rfl rfl (by decide +kernel)) (pi_list (pv 1))
        (blkOk_by (own := [("text", 3)]) (N := ["question", "texts", "answers", "text"]) (sc := defScope s_only_answer) (by decide +kernel)) (fun _ _ _ _ _ => pg_name (i := 3) sc_only_answer.nd rfl (Or.inl rfl)) (fun _ _ _ _ _ => pts_nil)
        (fun _ _ _ _ _ => pe_cq C1 hr (pv 0) (pa_cons (pv 3) pa_nil)))
      (pss_one (ps_ret (pe_ifExp (pt_cmpR op_eq (pe_callB (cr_min rfl) (by rfl) G.min boot_min (pa_cons (pv 2) pa_nil)) (pe_callB (cr_max rfl) (by rfl) G.max boot_max (pa_cons (pv 2) pa_nil)) (nomark _))
        (pe_ix (r := rIxL K) ix_list (pv 2) pe_int (fun _ _ => rfl)) pe_non))), ?_⟩
    refine ⟨_, rfl, t, rfl, ⟨_, ht⟩, fun D0 hD => ?_⟩
    have hlen : (txs ts).length = ts.length := by unfold txs; rw [List.length_map]
    refine lc_map (walk_list (xs := txs ts)) hD ((ts.map fun u => bi (g u)).map V.int) (by rw [List.length_map, List.length_map, hlen]) (by omega) (fun H2 e2 => Evl.ex_l e2 ht) ?_ ?_
    · rintro i x H2 H3 Q2 hi e2 ⟨rfl, hx⟩ kk
      rw [hlen] at hi
      unfold txs at hx
      rw [List.getElem?_map, List.getElem?_eq_getElem hi] at hx
      obtain rfl := Option.some.inj hx
      refine ⟨rfl, _, rfl, q, rfl, _, rfl, ?_, q, n, g, ts[i], rfl, hq.ex e2, hl _ (List.getElem_mem hi), h6, fun H4 e4 => kk _ _ e4 ?_⟩
      · obtain ⟨dx, fs, d, kvs, h1, _⟩ := hq.ex e2
        exact ⟨dx, fs, h1⟩
      · rw [List.getElem?_map, List.getElem?_map, List.getElem?_eq_getElem hi]
        rfl
    · intro H2 e2 d
      have hpos : 0 < ts.length := List.length_pos_iff.mpr hne
      refine ⟨_, rfl, D0, _, rfl, .of d, by rw [List.length_map]; exact hpos, fun m1 hm1 hle1 => ?_⟩
      refine ⟨_, rfl, D0, _, rfl, .of d, by rw [List.length_map]; exact hpos, fun m2 hm2 hle2 => ?_⟩
      have hin : ∀ u ∈ ts, bi (g u) ∈ ts.map fun u => bi (g u) := fun u hu => List.mem_map.mpr ⟨u, hu, rfl⟩
      refine ⟨rfl, _, rfl, ite2 (fun z => ?_) (fun z => ?_)⟩
      · have em : m1 = m2 := V.int.inj (of_decide_eq_true z)
        have hs : LM.same g ts = true := LM.same_iff.mpr fun u hu v hv => bi_inj (by
          have a1 := hle1 _ (hin u hu)
          have a2 := hle2 _ (hin u hu)
          have b1 := hle1 _ (hin v hv)
          have b2 := hle2 _ (hin v hv)
          omega)
        refine ⟨_, rfl, D0, _, 0, .int (bi (g (ts.headD []))), rfl, rfl, .of d, ?_, ?_⟩
        · cases ts with
          | nil => exact absurd rfl hne
          | cons a r => exact atI_nat (j := 0) rfl
        · have := k H2 e2
          unfold onlyV at this
          rw [if_pos hs] at this
          exact this
      · have hs : ¬ LM.same g ts = true := fun hs => z (decide_eq_true (by
          obtain ⟨u, hu, eu⟩ := List.mem_map.mp hm1
          obtain ⟨v, hv, ev⟩ := List.mem_map.mp hm2
          rw [← eu, ← ev, LM.same_iff.mp hs u hu v hv]))
        have := k H2 e2
        unfold onlyV at this
        rw [if_neg hs] at this
        exact this
def sp_told_answer (K : PySem.W.Frag) (C : Addr) : Sp := fun vs H Q _ => ∃ (q t : Addr) (n l : Nat) (f : List Bool → Bool) (ws : List (Nat × Bool)), vs = [.ref q, .int (l : Int), .ref t] ∧ QAt C H q n f ∧ n ≤ 3 ∧ l ≤ 2 ∧ Told K H t ws ∧ (∀ v ∈ ws, v.1 < n) ∧ LM.opn n l (LM.cnt n ws) ≠ [] ∧
  RetV (onlyV f (LM.opn n l (LM.cnt n ws))) H Q
theorem opn_small {n l : Nat} {cs : List (Nat × Nat)} (h : n ≤ 3) : (LM.opn n l cs).length ≤ 8 := Nat.le_trans (List.length_filter_le _ _) (ins_small h)
theorem ok_told_answer {C : Addr} (D : DfM K mg "told_answer" s_told_answer) (q : QC K C) (CM : CtM P w K mg base C) (C1 : Ct P w K mg base 6 "only_answer" (sp_only K C)) (C2 : Ct P w K mg base 6 "open_inputs" (sp_open_inputs K)) : Ct P w K mg base 7 "told_answer" (sp_told_answer K C) := by
  refine ct_of D sc_told_answer (fun vs H Q E h => ?_) (fun _ _ _ _ _ _ us hl => match us, hl with | [_, _, _], _ => rfl) (fun f cdv A outer s H vs Q E hr h => ?_)
  · obtain ⟨_, _, _, _, _, _, rfl, _⟩ := h
    rfl
  · obtain ⟨a, t, n, l, g, ws, rfl, hq, hn, hl, hT, hb, ho, k⟩ := h
    refine ⟨_, pss_one (ps_ret (pe_ct C1 hr (by rfl) (pa_cons (pv 0) (pa_cons (pe_ct C2 hr (by rfl) (pa_cons (pe_many CM q hr (by decide) (pv 0)) (pa_cons (pv 1) (pa_cons (pv 2) pa_nil)))) pa_nil)))), ?_⟩
    obtain ⟨dx, fs, d, kvs, h1, h2, h3, h4, h5⟩ := id hq
    refine ⟨_, rfl, _, rfl, a, dx, fs, rfl, h1, a, dx, fs, _, rfl, h1, h2, ?_⟩
    refine ⟨_, rfl, _, rfl, n, l, t, ws, rfl, hn, hl, hT, hb, ho, fun p H2 hp e2 h2 => ?_⟩
    exact ⟨a, p, n, g, _, rfl, hq.ex e2, .of h2, ho, LM.opn_len, by omega, by have := opn_small (l := l) (cs := LM.cnt n ws) hn; omega, fun H3 e3 => k H3 (e2.trans e3)⟩
end
end LL

/-! Leastlooks: more, split_positions. -/
namespace LL
open PySem PySem.Spec PyProof.Rows L2
open Evl (Ex RetV RetL)
theorem drop_take_self {α : Type} (l : List α) (k : Nat) : (l.drop k).take (l.length - k) = l.drop k := List.take_of_length_le (by rw [List.length_drop]; omega)
section
variable {P : Program} {w : World} {K : PySem.W.Frag} {mg : Str → Option Value} {base : Heap}
theorem Paired.take {α β : Type} {F : α → β → Prop} : ∀ {l : List α} {m : List β} (k : Nat), Paired F l m → Paired F (l.take k) (m.take k)
  | _, _, 0, _ => by rw [List.take_zero, List.take_zero]; exact .nil
  | _, _, _ + 1, .nil => .nil
  | _, _, k + 1, .cons r t => .cons r (Paired.take k t)
theorem Paired.drop {α β : Type} {F : α → β → Prop} : ∀ {l : List α} {m : List β} (k : Nat), Paired F l m → Paired F (l.drop k) (m.drop k)
  | _, _, 0, h => h
  | _, _, _ + 1, .nil => .nil
  | _, _, k + 1, .cons r t => Paired.drop k t
theorem Paired.app {α β : Type} {F : α → β → Prop} : ∀ {l l2 : List α} {m m2 : List β}, Paired F l m → Paired F l2 m2 → Paired F (l ++ l2) (m ++ m2)
  | _, _, _, _, .nil, h => h
  | _, _, _, _, .cons r t, h => .cons r (Paired.app t h)
def sp_more (K : PySem.W.Frag) : Sp := fun vs H Q _ => ∃ (c : Addr) (cs : List (Nat × Nat)) (p : Nat) (b : Bool), vs = [.ref c, .int (p : Int), .int (bi b)] ∧ CntAt K H c cs ∧ p < cs.length ∧ cs.length ≤ 6 ∧ ∀ c' H2, Ex H H2 → CntAt K H2 c' (LM.more cs p b) → Q (.ref c') H2
theorem ok_more (D : DfM K mg "more" s_more) (G : Gs K mg) : Ct P w K mg base 1 "more" (sp_more K) := by
  refine ct_of D sc_more (fun vs H Q E h => ?_) (fun _ _ _ _ _ _ us hl => match us, hl with | [_, _, _], _ => rfl) (fun f cdv A outer s H vs Q E hr h => ?_)
  · obtain ⟨_, _, _, _, rfl, _⟩ := h
    rfl
  · obtain ⟨c, cs, p, b, rfl, ⟨ps, hc, hp⟩, hpl, h6, q⟩ := h
    refine ⟨_, pss_cons (ps_asg (pe_ix ix_tup (pv 0) (pv 1) (fun _ _ => rfl)) (pg_tup rfl (pgs_cons (pg_name (i := 3) sc_more.nd rfl (.inl rfl)) (pgs_cons (pg_name (i := 4) sc_more.nd rfl (.inl rfl)) pgs_nil))))
      (pss_cons (ps_set (i := 5) sc_more.nd rfl (.inl rfl) (pe_ifExp (pt_cmpR op_eq (pv 2) pe_int (nomark _)) (pe_tup (pa_cons (pe_op op_add (pv 3) pe_int) (pa_cons (pv 4) pa_nil))) (pe_tup (pa_cons (pv 3) (pa_cons (pe_op op_add (pv 4) pe_int) pa_nil)))))
      (pss_one (ps_ret (pe_tup (StX.pa_star (pe_slice sl_tup (pv 0) po_none (po_some (pv 1))) (pa_cons (pv 5) (StX.pa_star (pe_slice sl_tup (pv 0) (po_some (pe_op op_add (pv 1) pe_int)) po_none) pa_nil))))))), ?_⟩
    have hlp : ps.length = cs.length := Paired.length hp
    have hp1 : cs[p]? = some cs[p] := List.getElem?_eq_getElem hpl
    obtain ⟨pa, hpa, hpair⟩ := Paired.at2 hp hp1
    refine ⟨_, rfl, _, rfl, c, _, (p : Int), .ref pa, rfl, rfl, hc, atI_nat (by rw [List.getElem?_map, hpa]; rfl), pa, _, rfl, hpair, rfl, _, _, rfl, _, _, rfl, rfl, ?_⟩
    have key : ∀ (d : Addr) (H2 : Hp), Ex H H2 → SqT K H2 d [.int ((LM.bump cs[p] b).1 : Nat), .int ((LM.bump cs[p] b).2 : Nat)] → tTup (StX.tStar K (tSl (rSlT K) (tVar 0) tNoPart (tPart (tVar 1))) (tCons (tVar 5) (StX.tStar K (tSl (rSlT K) (tVar 0) (tPart (tOp (rI0 fun i j => .int (i + j)) (tVar 1) (tC (.int 1)))) tNoPart) tNil))) [some (.ref c), some (.int (p : Int)), some (.int (bi b)), some (.int (cs[p].1 : Nat)), some (.int (cs[p].2 : Nat)), some (.ref d)] H2 Q := by
      intro d H2 e2 hd
      have hc2 := Evl.ex_t e2 hc
      have hmap : (ps.map V.ref).length = cs.length := by rw [List.length_map]; exact hlp
      refine ⟨_, rfl, _, rfl, (p : Int), rfl, c, _, rfl, hc2, ?_, fun q1 hq1 => ?_⟩
      · rw [HT.sIx_nat]
        omega
      refine ⟨q1, _, rfl, .inl (.of upd_same), ?_⟩
      have e3 := e2.trans (Ex.new (o := .tup (cutV (ps.map V.ref) none (some (p : Int)))) hq1)
      refine ⟨_, rfl, _, rfl, _, rfl, (p : Int), 1, rfl, rfl, _, rfl, c, _, rfl, Evl.ex_t e3 hc, ?_, fun q2 hq2 => ?_⟩
      · rintro ⟨z, _⟩
        rw [show (p : Int) + 1 = ((p + 1 : Nat) : Int) by omega, HT.sIx_nat, hmap] at z
        omega
      have e4 := e3.trans (Ex.new (o := .tup (cutV (ps.map V.ref) (some ((p : Int) + 1)) none)) hq2)
      have c1 : cutV (ps.map V.ref) none (some (p : Int)) = (ps.take p).map V.ref := by
        unfold cutV
        rw [HT.sIx_nat, hmap, HT.sIx_none, List.drop_zero, Nat.min_eq_left (by omega), Nat.sub_zero, List.map_take]
      have c2 : cutV (ps.map V.ref) (some ((p : Int) + 1)) none = (ps.drop (p + 1)).map V.ref := by
        unfold cutV
        rw [show (p : Int) + 1 = ((p + 1 : Nat) : Int) by omega, HT.sIx_nat, hmap, HT.sIx_none, Nat.min_eq_left (by omega), List.map_drop, ← hmap, drop_take_self]
      refine ⟨q2, _, rfl, .inl (.of upd_same), ?_⟩
      have eu : cutV (ps.map V.ref) none (some (p : Int)) ++ (V.ref d :: (cutV (ps.map V.ref) (some ((p : Int) + 1)) none ++ [])) = (ps.take p ++ (d :: ps.drop (p + 1))).map V.ref := by
        rw [c1, c2, List.append_nil, List.map_append, List.map_cons]
      show (cutV (ps.map V.ref) none (some (p : Int)) ++ (V.ref d :: (cutV (ps.map V.ref) (some ((p : Int) + 1)) none ++ []))).length ≤ sizeLine ∧ _
      rw [eu]
      refine ⟨?_, fun r hr2 => ?_⟩
      · rw [List.length_map, List.length_append, List.length_take, List.length_cons, List.length_drop]
        exact sz6 (by omega)
      · have e5 := e4.trans (Ex.new (o := .tup ((ps.take p ++ (d :: ps.drop (p + 1))).map V.ref)) hr2)
        have h25 : Ex H2 _ := ((Ex.new (o := .tup (cutV (ps.map V.ref) none (some (p : Int)))) hq1).trans (Ex.new (o := .tup (cutV (ps.map V.ref) (some ((p : Int) + 1)) none)) hq2)).trans (Ex.new (o := .tup ((ps.take p ++ (d :: ps.drop (p + 1))).map V.ref)) hr2)
        refine q r _ e5 ⟨ps.take p ++ (d :: ps.drop (p + 1)), .of upd_same, ?_⟩
        have hp5 := Paired.mapP hp fun x z hz => Evl.ex_t e5 hz
        have hg : cs.getD p (0, 0) = cs[p] := by rw [List.getD_eq_getElem?_getD, hp1]; rfl
        unfold LM.more
        rw [hg]
        exact Paired.app (Paired.take p hp5) (.cons (Evl.ex_t h25 hd) (Paired.drop (p + 1) hp5))
    cases b with
    | false =>
      refine ⟨_, rfl, rfl, _, rfl, ?_⟩
      refine iteT ?_
      refine ⟨_, rfl, (cs[p].1 : Nat), 1, rfl, rfl, _, rfl, by show 2 ≤ sizeLine; decide, fun d hd => ?_⟩
      exact key d _ (Ex.new hd) (.of upd_same)
    | true =>
      refine ⟨_, rfl, rfl, _, rfl, ?_⟩
      refine iteF ?_
      refine ⟨_, rfl, _, rfl, (cs[p].2 : Nat), 1, rfl, rfl, by show 2 ≤ sizeLine; decide, fun d hd => ?_⟩
      exact key d _ (Ex.new hd) (.of upd_same)
/-- both bits at a position -/
theorem two_bits {d : List Str} {ts : List (List Bool)} {p : Nat} (nd : d.Nodup) (h : ∀ c, c ∈ d ↔ c ∈ ts.map fun u => tx [u.getD p false]) : d.length = 2 ↔ ∀ b : Bool, ∃ u ∈ ts, u.getD p false = b := by
  have hb : ∀ c ∈ d, ∃ b : Bool, c = tx [b] := fun c hc => by
    obtain ⟨u, _, e⟩ := List.mem_map.mp ((h c).mp hc)
    exact ⟨_, e.symm⟩
  have hm : ∀ b : Bool, tx [b] ∈ d ↔ ∃ u ∈ ts, u.getD p false = b := fun b => by
    rw [h, List.mem_map]
    constructor
    · rintro ⟨u, hu, e⟩
      exact ⟨u, hu, by have := tx_inj e; simpa using this⟩
    · rintro ⟨u, hu, e⟩
      exact ⟨u, hu, by rw [e]⟩
  constructor
  · intro hl b
    rw [← hm]
    match d, hl, nd, hb with
    | [x, y], _, nd, hb =>
      obtain ⟨b1, e1⟩ := hb x (by simp)
      obtain ⟨b2, e2⟩ := hb y (by simp)
      have hne : b1 ≠ b2 := fun e => by
        have : x ≠ y := by simpa using nd
        exact this (by rw [e1, e2, e])
      cases b <;> cases b1 <;> cases b2 <;> simp_all
  · intro hall
    have h1 := (hm true).mpr (hall true)
    have h0 := (hm false).mpr (hall false)
    have ne : tx [true] ≠ tx [false] := fun e => by have := tx_inj e; simp at this
    match d, nd, hb, h1, h0 with
    | [], _, _, h1, _ => cases h1
    | [x], _, _, h1, h0 =>
      exfalso
      rw [List.mem_singleton] at h1 h0
      exact ne (h1.trans h0.symm)
    | [_, _], _, _, _, _ => rfl
    | x :: y :: z :: r, nd, hb, _, _ =>
      exfalso
      obtain ⟨b1, e1⟩ := hb x (by simp)
      obtain ⟨b2, e2⟩ := hb y (by simp)
      obtain ⟨b3, e3⟩ := hb z (by simp)
      have n1 : x ≠ y := by intro e; simp [e] at nd
      have n2 : x ≠ z := by intro e; simp [e] at nd
      have n3 : y ≠ z := by intro e; simp [e] at nd
      cases b1 <;> cases b2 <;> cases b3 <;> simp_all
end
/-! ### a comprehension in another's block -/
def relab (scope sc0 : Scope) : Scope := { scope with names := scope.names.map fun (n, k) => if (k == .free && sc0.kind == .function && sc0.names.lookup n == some .cell) then (n, .cell) else (n, k) }
theorem blkOk_in {N : List Str} {scope scope2 : Scope} {own : List (Str × Nat)} {cl : List (Str × Addr)} {C : Addr} {env : Env} (sc0 : Scope) (h0 : env.scope = sc0) (h : blkC N (relab scope sc0) scope2 own = true) : BlkOk N (compEnvC scope cl C env).scope scope2 own := by
  subst h0
  exact blkOk_by h
theorem pe_sxP {P : Program} {w : World} {X : Cx} {elt tg iter : Expr} {ifs : List Expr} {scope : Scope} {own : List (PySem.Str × Nat)} {pos : Pos} {wi : TI} {g : TG} {tt : TT} {te : TE} (hP : X.prog = P) (hw : X.w = w) (hc : X.calm = true) (hN : X.N.Nodup) (hi : PI X tg iter wi) (ok : BlkOk X.N X.env.scope scope own)
    (hg : ∀ (s : Shared) (H : Hp) (C : Addr) (cl : List (PySem.Str × Addr)) (fp : List Addr), PG (X.blk s H scope (compEnvC scope cl C X.env) fp) tg g) (ht : ∀ (s : Shared) (H : Hp) (C : Addr) (cl : List (PySem.Str × Addr)) (fp : List Addr), PTs (X.blk s H scope (compEnvC scope cl C X.env) fp) ifs tt)
    (he : ∀ (s : Shared) (H : Hp) (C : Addr) (cl : List (PySem.Str × Addr)) (fp : List Addr), PE (X.blk s H scope (compEnvC scope cl C X.env) fp) elt te) (hs : ∀ x, foldedSetIterable iter X.env x = pure x := by intro _; rfl) :
    PE X (.SetComp elt [⟨tg, iter, ifs, 0⟩] scope pos) (tSx P w wi g tt te (own.map (·.2))) := by
  subst hP hw
  exact pe_sx hc hN hi ok hg ht he hs
theorem call_lenTP {P : Program} {w : World} {X : Cx} (hP : X.prog = P) (hw : X.w = w) : CallR X (.builtin "len") (rLenT P w) := by
  subst hP hw
  exact call_lenT
section
variable {P : Program} {w : World} {K : PySem.W.Frag} {mg : Str → Option Value} {base : Heap}
def sp_split_positions (K : PySem.W.Frag) : Sp := fun vs H Q _ => ∃ (n : Nat) (t : Addr) (ts : List (List Bool)), vs = [.int (n : Int), .ref t] ∧ n ≤ 6 ∧ SqL K H t (txs ts) ∧ ts.length ≤ 100 ∧ (∀ u ∈ ts, u.length = n) ∧ RetL ((LM.split n ts).map fun p => V.int (p : Nat)) H Q
theorem ok_split_positions (D : DfM K mg "split_positions" s_split_positions) (G : Gs K mg) : Ct P w K mg base 1 "split_positions" (sp_split_positions K) := by
  refine ct_of D sc_split_positions (fun vs H Q E h => ?_) (fun _ _ _ _ _ _ us hl => match us, hl with | [_, _], _ => rfl) (fun f cdv A outer s H vs Q E hr h => ?_)
  · obtain ⟨_, _, _, rfl, _⟩ := h
    rfl
  · obtain ⟨n, t, ts, rfl, hn, ht, hz, hl, q⟩ := h
    refine ⟨_, pss_one (ps_ret (pe_lc (own := [("position", 2)]) (g := gName 2) (by rfl) sc_split_positions.nd (pi_range1 (by rfl) G.range (pa_cons (pv 0) pa_nil))
      (blkOk_by (own := [("position", 2)]) (N := ["many", "texts", "position", "text"]) (sc := defScope s_split_positions) (by decide +kernel)) (fun _ _ _ _ _ => pg_name (i := 2) sc_split_positions.nd rfl (Or.inr rfl))
      (fun _ _ _ _ _ => pts_one (pt_cmpR op_eq (pe_callB (r := rLenT P w) (call_lenTP rfl rfl) (by rfl) G.len boot_len (pa_cons (pe_sxP (P := P) (w := w) (wi := iList K (tVar 1)) (own := [("text", 3)]) (g := gName 3) (tt := tYes) rfl rfl (by rfl) sc_split_positions.nd (pi_list (pv 1))
        (blkOk_in (own := [("text", 3)]) (N := ["many", "texts", "position", "text"]) (defScope s_split_positions) rfl (by decide +kernel)) (fun _ _ _ _ _ => pg_name (i := 3) sc_split_positions.nd rfl (Or.inl rfl)) (fun _ _ _ _ _ => pts_nil)
        (fun _ _ _ _ _ => pe_ix (r := rIxS) ix_str (pv 3) (pv 2) (fun _ _ => rfl))) pa_nil)) pe_int (nomark _)))
      (fun _ _ _ _ _ => pv 2))), ?_⟩
    refine ⟨_, rfl, (n : Int), rfl, by omega, by omega, fun D0 hD => ?_⟩
    refine lc_filter (walk_range (lo := 0) (n := (n : Int).toNat)) hD (List.range n) (fun p => V.int (p : Nat)) (fun p => ts.any (fun t => t.getD p false) && ts.any (fun t => !t.getD p false)) (by rw [List.length_range]; omega) (by omega) (fun _ _ => trivial) ?_ ?_
    · rintro i x H2 H' p Q2 Qn hi e2 ⟨rfl, rfl⟩ hp k kn
      have ep : p = i := by
        rw [List.getElem?_range (by omega)] at hp
        exact (Option.some.inj hp).symm
      subst ep
      have hpn : p < n := by omega
      have ei : (0 : Int) + (p : Nat) = (p : Nat) := by omega
      show gName 2 (V.int ((0 : Int) + (p : Nat))) _ _ _
      rw [ei]
      refine ⟨rfl, _, rfl, t, rfl, ⟨_, Evl.ex_l e2 ht⟩, fun D1 hD1 => ?_⟩
      have hlen : (txs ts).length = ts.length := by unfold txs; rw [List.length_map]
      refine sx_ex (walk_list (xs := txs ts)) hD1 (ts.map fun u => tx [u.getD p false]) (by rw [List.length_map, hlen]) (by omega) (fun H3 e3 => Evl.ex_l (e2.trans e3) ht) ?_ ?_
      · rintro j x H3 H' Q3 hj e3 ⟨rfl, hx⟩ kk
        rw [hlen] at hj
        unfold txs at hx
        rw [List.getElem?_map, List.getElem?_eq_getElem hj] at hx
        obtain rfl := Option.some.inj hx
        have hul := hl _ (List.getElem_mem hj)
        have hb : (ts[j])[p]? = some ((ts[j]).getD p false) := by
          rw [List.getD_eq_getElem?_getD, List.getElem?_eq_getElem (by omega)]
          rfl
        refine ⟨rfl, _, rfl, _, rfl, tx ts[j], (p : Int), cd ((ts[j]).getD p false), rfl, rfl, line_tx (by omega), atI_nat (by rw [tx_codes, List.getElem?_map, hb]; rfl), ?_⟩
        exact kk _ _ (Evl.Ex.refl _) (by rw [List.getElem?_map, List.getElem?_eq_getElem hj]; rfl)
      · rintro H3 S k3 e3 hD3 ⟨d, nd, hdl, hd⟩
        have h2 := two_bits nd hd
        have hb : (ts.any (fun t => t.getD p false) && ts.any (fun t => !t.getD p false)) = true ↔ d.length = 2 := by
          rw [h2, Bool.and_eq_true, List.any_eq_true, List.any_eq_true]
          constructor
          · rintro ⟨⟨u, hu, eu⟩, ⟨v, hv, ev⟩⟩ b
            cases b with
            | true => exact ⟨u, hu, eu⟩
            | false => exact ⟨v, hv, by simpa using ev⟩
          · intro hall
            obtain ⟨u, hu, eu⟩ := hall true
            obtain ⟨v, hv, ev⟩ := hall false
            exact ⟨⟨u, hu, eu⟩, ⟨v, hv, by rw [ev]; rfl⟩⟩
        refine ⟨D1, S, k3, rfl, hD3, rfl, _, rfl, ite2 (fun z => ?_) (fun z => ?_)⟩
        · have zk := V.int.inj (of_decide_eq_true z)
          refine ⟨_, rfl, k _ _ e3 (hb.mpr (by omega)) rfl⟩
        · exact kn _ e3 (by
            cases hq : (ts.any (fun t => t.getD p false) && ts.any (fun t => !t.getD p false)) with
            | false => rfl
            | true => exact absurd (decide_eq_true (by rw [← hdl, hb.mp hq]; rfl)) z)
    · intro H2 e2 d
      exact q D0 H2 hD e2 d
end
end LL

/-! Leastlooks: what a dict of looks keeps; its size. -/
namespace LL
open PySem PySem.Spec PyProof.Rows L2
open Evl (Ex RetV RetL)
/-! ### the box -/
def box : List (Nat × Nat) → List (Nat × Nat) → Prop
  | [], [] => True
  | c :: r, z :: t => (c.1 ≤ z.1 ∧ z.1 ≤ c.1 + 3 ∧ c.2 ≤ z.2 ∧ z.2 ≤ c.2 + 3) ∧ box r t
  | _, _ => False
def enc : List (Nat × Nat) → List (Nat × Nat) → Nat
  | c :: r, z :: t => (z.1 - c.1) + 4 * (z.2 - c.2) + 16 * enc r t
  | _, _ => 0
theorem box_len : ∀ {c z : List (Nat × Nat)}, box c z → z.length = c.length
  | [], [], _ => rfl
  | _ :: r, _ :: t, h => by
    rw [List.length_cons, List.length_cons, box_len h.2]
  | [], _ :: _, h => h.elim
  | _ :: _, [], h => h.elim
theorem box_refl : ∀ c : List (Nat × Nat), box c c
  | [] => trivial
  | c :: r => ⟨⟨by omega, by omega, by omega, by omega⟩, box_refl r⟩
theorem enc_lt : ∀ {c z : List (Nat × Nat)}, box c z → enc c z < 16 ^ c.length
  | [], [], _ => by decide
  | c :: r, z :: t, h => by
    have ih := enc_lt h.2
    have h1 := h.1
    show (z.1 - c.1) + 4 * (z.2 - c.2) + 16 * enc r t < 16 ^ (r.length + 1)
    rw [Nat.pow_succ]
    omega
  | [], _ :: _, h => h.elim
  | _ :: _, [], h => h.elim
theorem enc_inj : ∀ {c z y : List (Nat × Nat)}, box c z → box c y → enc c z = enc c y → z = y
  | [], [], [], _, _, _ => rfl
  | c :: r, z :: t, y :: u, h, k, e => by
    have h1 := h.1
    have k1 := k.1
    have e : (z.1 - c.1) + 4 * (z.2 - c.2) + 16 * enc r t = (y.1 - c.1) + 4 * (y.2 - c.2) + 16 * enc r u := e
    have e1 : enc r t = enc r u := by omega
    rw [enc_inj h.2 k.2 e1]
    have : z = y := Prod.ext (by omega) (by omega)
    rw [this]
  | [], _ :: _, _, h, _, _ => h.elim
  | _ :: _, [], _, h, _, _ => h.elim
  | [], [], _ :: _, _, k, _ => k.elim
  | _ :: _, _ :: _, [], _, k, _ => k.elim
theorem more_cons {c : Nat × Nat} {r : List (Nat × Nat)} {p : Nat} {b : Bool} : LM.more (c :: r) (p + 1) b = c :: LM.more r p b := rfl
theorem more_zero {c : Nat × Nat} {r : List (Nat × Nat)} {b : Bool} : LM.more (c :: r) 0 b = LM.bump c b :: r := rfl
theorem box_more : ∀ {c z : List (Nat × Nat)} {p : Nat} {b : Bool}, box c z → p < z.length → (z.getD p (0, 0)).1 ≤ 2 → (z.getD p (0, 0)).2 ≤ 2 → box c (LM.more z p b)
  | c :: r, z :: t, 0, b, h, _, h1, h2 => by
    rw [more_zero]
    refine ⟨?_, h.2⟩
    have k := h.1
    have h1 : z.1 ≤ 2 := h1
    have h2 : z.2 ≤ 2 := h2
    cases b
    · show c.1 ≤ z.1 + 1 ∧ z.1 + 1 ≤ c.1 + 3 ∧ c.2 ≤ z.2 ∧ z.2 ≤ c.2 + 3
      omega
    · show c.1 ≤ z.1 ∧ z.1 ≤ c.1 + 3 ∧ c.2 ≤ z.2 + 1 ∧ z.2 + 1 ≤ c.2 + 3
      omega
  | c :: r, z :: t, p + 1, b, h, hp, h1, h2 => by
    rw [more_cons]
    exact ⟨h.1, box_more h.2 (by simpa using hp) h1 h2⟩
  | [], [], _, _, _, hp, _, _ => absurd hp (Nat.not_lt_zero _)
  | [], _ :: _, _, _, h, _, _, _ => h.elim
  | _ :: _, [], _, _, h, _, _, _ => h.elim
theorem box_first : ∀ {c : List (Nat × Nat)} {p : Nat} {b : Bool}, p < c.length → box c (LM.more c p b)
  | c :: r, 0, b, _ => by
    rw [more_zero]
    refine ⟨?_, box_refl r⟩
    cases b
    · show c.1 ≤ c.1 + 1 ∧ c.1 + 1 ≤ c.1 + 3 ∧ c.2 ≤ c.2 ∧ c.2 ≤ c.2 + 3
      omega
    · show c.1 ≤ c.1 ∧ c.1 ≤ c.1 + 3 ∧ c.2 ≤ c.2 + 1 ∧ c.2 + 1 ≤ c.2 + 3
      omega
  | c :: r, p + 1, b, hp => by
    rw [more_cons]
    exact ⟨(box_refl (c :: r)).1, box_first (by simpa using hp)⟩
  | [], _, _, hp => absurd hp (Nat.not_lt_zero _)
theorem split_small {n l p : Nat} {cs : List (Nat × Nat)} (hc : cs.length = n) (h : p ∈ LM.split n (LM.opn n l cs)) : (cs.getD p (0, 0)).1 ≤ l ∧ (cs.getD p (0, 0)).2 ≤ l := by
  obtain ⟨hp, hb⟩ := LM.mem_split.mp h
  obtain ⟨t, ht, et⟩ := hb true
  obtain ⟨u, hu, eu⟩ := hb false
  obtain ⟨t1, t2⟩ := LM.mem_opn.mp ht
  obtain ⟨v1, v2⟩ := LM.mem_opn.mp hu
  have a := LM.wrong_ge (t := t) (cs := cs) (p := p) (by omega) (by omega)
  have b := LM.wrong_ge (t := u) (cs := cs) (p := p) (by omega) (by omega)
  rw [et, if_pos rfl] at a
  rw [eu, if_neg Bool.false_ne_true] at b
  omega
theorem nodup_lt : ∀ (N : Nat) {l : List Nat}, l.Nodup → (∀ x ∈ l, x < N) → l.length ≤ N
  | 0, [], _, _ => Nat.le_refl _
  | 0, x :: _, _, h => absurd (h x List.mem_cons_self) (Nat.not_lt_zero _)
  | N + 1, l, nd, h => by
    have ih := nodup_lt N (l := l.erase N) (nd.erase N) fun x hx => by
      have h1 := h x (List.mem_of_mem_erase hx)
      have h2 := ((List.Nodup.mem_erase_iff nd).mp hx).1
      omega
    rw [List.length_erase] at ih
    split at ih <;> omega
/-! ### all but one object stays -/
def Xd (d : Addr) (H H' : Hp) : Prop := ∀ b o, b ≠ d → H b = some o → H' b = some o
theorem Xd.refl {d : Addr} (H : Hp) : Xd d H H := fun _ _ _ h => h
theorem Xd.trans {d : Addr} {H H1 H2 : Hp} (a : Xd d H H1) (b : Xd d H1 H2) : Xd d H H2 := fun x o n h => b x o n (a x o n h)
theorem Xd.of {d : Addr} {H H' : Hp} (e : Ex H H') : Xd d H H' := fun x o _ h => e x o h
theorem Xd.put {d : Addr} {H : Hp} {o : HO} : Xd d H (upd H d o) := fun b u n h => by rw [upd_ne n]; exact h
section
variable {P : Program} {w : World} {K : PySem.W.Frag} {d : Addr} {H H' : Hp}
abbrev IsDN (P : Program) (w : World) (d : Addr) (H : Hp) : Prop := ∃ kvs, H d = some (DN P w d kvs)
theorem rd_xd {a : Addr} {o : HO} (hd : IsDN P w d H) (hne : ∀ kvs, o ≠ DN P w d kvs) (hf : ∀ c kvs, HO.frz c o ≠ DN P w d kvs) (x : Xd d H H') (h : Rd H a o) : Rd H' a o := by
  obtain ⟨kvs, hd⟩ := hd
  rcases h with h | ⟨c, h⟩
  · exact .inl (x _ _ (fun e => by rw [e, hd] at h; exact hne kvs (Option.some.inj h).symm) h)
  · exact .inr ⟨c, x _ _ (fun e => by rw [e, hd] at h; exact hf c kvs (Option.some.inj h).symm) h⟩
theorem sqT_xd {a : Addr} {xs : List V} (hd : IsDN P w d H) (x : Xd d H H') (h : SqT K H a xs) : SqT K H' a xs := h.imp (rd_xd hd (fun _ e => nomatch e) (fun _ _ e => nomatch e) x) id
theorem sqL_xd {a : Addr} {xs : List V} (hd : IsDN P w d H) (x : Xd d H H') (h : SqL K H a xs) : SqL K H' a xs := h.imp (rd_xd hd (fun _ e => nomatch e) (fun _ _ e => nomatch e) x) id
theorem lst_xd {a : Addr} {xs : List V} (hd : IsDN P w d H) (x : Xd d H H') (h : H a = some (.lst xs)) : H' a = some (.lst xs) := by
  obtain ⟨kvs, hd⟩ := hd
  exact x _ _ (fun e => by rw [e, hd] at h; cases h) h
theorem cnt_xd {c : Addr} {cs : List (Nat × Nat)} (hd : IsDN P w d H) (x : Xd d H H') (h : CntAt K H c cs) : CntAt K H' c cs := by
  obtain ⟨ps, h1, h2⟩ := h
  exact ⟨ps, sqT_xd hd x h1, Paired.mapP h2 fun p z q => sqT_xd hd x q⟩
theorem q_xd {C q : Addr} {n : Nat} {f : List Bool → Bool} (hd : IsDN P w d H) (x : Xd d H H') (h : QAt C H q n f) : QAt C H' q n f := by
  obtain ⟨dx, fs, e, kvs, h1, h2, h3, h4, h5⟩ := h
  obtain ⟨ks, hd⟩ := hd
  exact ⟨dx, fs, e, kvs, x _ _ (fun z => by rw [z, hd] at h1; cases h1) h1, h2, h3, x _ _ (fun z => by rw [z, hd] at h4; cases h4) h4, h5⟩
/-! ### the memo -/
structure Memo (P : Program) (w : World) (K : PySem.W.Frag) (d : Addr) (c0 : List (Nat × Nat)) (f : List Bool → Bool) (n l : Nat) (H : Hp) (kvs : List NE) : Prop where
  at_ : H d = some (DN P w d kvs)
  nd : (kvs.map (·.1)).Nodup
  all : ∀ x ∈ kvs, ∃ cs, x.1 = nk cs ∧ CntAt K H x.2.1 cs ∧ box c0 cs ∧ x.2.2 = (LM.L f n l cs : Nat)
variable {c0 : List (Nat × Nat)} {f : List Bool → Bool} {n l : Nat} {kvs : List NE}
theorem Memo.isd (m : Memo P w K d c0 f n l H kvs) : IsDN P w d H := ⟨_, m.at_⟩
theorem Memo.keys (m : Memo P w K d c0 f n l H kvs) : KeysAt K H kvs := fun x hx => by
  obtain ⟨cs, h1, h2, _⟩ := m.all x hx
  exact ⟨cs, h1, h2⟩
theorem Memo.ex (m : Memo P w K d c0 f n l H kvs) (e : Ex H H') : Memo P w K d c0 f n l H' kvs :=
  ⟨e _ _ m.at_, m.nd, fun x hx => by
    obtain ⟨cs, h1, h2, h3⟩ := m.all x hx
    exact ⟨cs, h1, h2.ex e, h3⟩⟩
theorem Memo.new (h : H d = some (DN P w d [])) : Memo P w K d c0 f n l H [] := ⟨h, List.nodup_nil, fun x hx => nomatch hx⟩
theorem Memo.len (m : Memo P w K d c0 f n l H kvs) : kvs.length ≤ 16 ^ c0.length := by
  have key : ∀ ks : List NE, (∀ x ∈ ks, ∃ cs, x.1 = nk cs ∧ box c0 cs) → ∃ css : List (List (Nat × Nat)), ks.map (·.1) = css.map nk ∧ ∀ cs ∈ css, box c0 cs := by
    intro ks
    induction ks with
    | nil => intro _; exact ⟨[], rfl, fun _ h => nomatch h⟩
    | cons x r ih =>
      intro h
      obtain ⟨css, e, hb⟩ := ih fun y hy => h y (List.mem_cons_of_mem _ hy)
      obtain ⟨cs, e1, b1⟩ := h x List.mem_cons_self
      refine ⟨cs :: css, by rw [List.map_cons, List.map_cons, e, e1], fun z hz => ?_⟩
      rcases List.mem_cons.mp hz with e2 | hz
      · rw [e2]; exact b1
      · exact hb z hz
  obtain ⟨css, e, hb⟩ := key kvs fun x hx => by
    obtain ⟨cs, h1, _, h3, _⟩ := m.all x hx
    exact ⟨cs, h1, h3⟩
  have nd := m.nd
  rw [e] at nd
  have nd1 : css.Pairwise fun a b => nk a ≠ nk b := List.pairwise_map.mp nd
  have nd2 : (css.map (enc c0)).Nodup := List.pairwise_map.mpr (List.Pairwise.imp_of_mem (fun {a b} ha hb2 ne z => ne (by rw [enc_inj (hb a ha) (hb b hb2) z])) nd1)
  have h1 := nodup_lt (16 ^ c0.length) nd2 fun x hx => by
    obtain ⟨cs, hcs, e2⟩ := List.mem_map.mp hx
    rw [← e2]
    exact enc_lt (hb cs hcs)
  have h2 : kvs.length = css.length := by
    have := congrArg List.length e
    rwa [List.length_map, List.length_map] at this
  rw [List.length_map] at h1
  omega
theorem Memo.look (m : Memo P w K d c0 f n l H kvs) {cs : List (Nat × Nat)} {i : Int} (h : nkAt kvs (nk cs) = some i) : i = (LM.L f n l cs : Nat) := by
  obtain ⟨b, hb⟩ := nkAt_mem h
  obtain ⟨cs', h1, _, _, h4⟩ := m.all _ hb
  have : cs = cs' := nk_inj h1
  rw [this]
  exact h4
theorem Memo.put (m : Memo P w K d c0 f n l H kvs) {c : Addr} {cs : List (Nat × Nat)} (hc : CntAt K H c cs) (hb : box c0 cs) :
    Memo P w K d c0 f n l (upd H d (DN P w d (nput kvs (nk cs) c (LM.L f n l cs : Nat)))) (nput kvs (nk cs) c (LM.L f n l cs : Nat)) := by
  have x : Xd d H (upd H d (DN P w d (nput kvs (nk cs) c (LM.L f n l cs : Nat)))) := .put
  refine ⟨upd_same, ?_, fun y hy => ?_⟩
  · unfold nput
    split
    · have : (kvs.map fun x => if x.1 = nk cs then (x.1, x.2.1, ((LM.L f n l cs : Nat) : Int)) else x).map (·.1) = kvs.map (·.1) := by
        rw [List.map_map]
        refine List.map_congr_left fun x _ => ?_
        show (if x.1 = nk cs then (x.1, x.2.1, ((LM.L f n l cs : Nat) : Int)) else x).1 = x.1
        split <;> rfl
      rw [this]
      exact m.nd
    · rename_i hn
      rw [List.map_append]
      refine nd_snoc m.nd fun hk => ?_
      obtain ⟨y, hy, e⟩ := List.mem_map.mp hk
      apply hn
      unfold nkAt
      rw [Option.isSome_map, List.find?_isSome]
      exact ⟨y, hy, decide_eq_true e⟩
  · rcases mem_nput hy with h | h | ⟨z, hz, e1, e2⟩
    · obtain ⟨cs', h1, h2, h3⟩ := m.all y h
      exact ⟨cs', h1, cnt_xd m.isd x h2, h3⟩
    · rw [h]
      exact ⟨cs, rfl, cnt_xd m.isd x hc, hb, rfl⟩
    · rw [e2]
      obtain ⟨cs', h1, h2, h3, _⟩ := m.all z hz
      have : cs' = cs := nk_inj (h1.symm.trans e1)
      exact ⟨cs', h1, cnt_xd m.isd x h2, h3, by rw [this]⟩
end
end LL

/-! Leastlooks: looks_from, behind. -/
namespace LL
open PySem PySem.Spec PyProof.Rows L2
open Evl (Ex RetV RetL)
theorem Xd.mut {d p : Addr} {H H' : Hp} {o : HO} (x : Xd d H H') (h : H p = none) : Xd d H (upd H' p o) := fun b u n hb => by
  rw [upd_ne (ne_of_none hb h)]
  exact x b u n hb
/-- a call as a comprehension's element -/
def tCt (sp : Sp) (t : TA) : TE := fun σ H Q => t σ H fun vs H1 => sp vs H1 Q E0
theorem pe_ctN {X : Cx} {k : Nat} {x : Str} {sp : Sp} {p pos : Pos} {e : Expr} {es : List Expr} {t : TA} (c : Ct X.prog X.w X.K X.mg X.base k x sp) (hr : Room k X.A) (hg : Gl X x) (ha : PA X (e :: es) t) (hdb : (x == ("__debug__" : Str)) = false := by decide)
    (he : starEach (e :: es) X.env = (false, eval e X.env) :: starEach es X.env := by rfl) (hpl : (backTo pos (starEach es X.env)).any (·.1) = false := by rfl) : PE X (.Call (.Name x p) (e :: es) [] pos) (tCt sp t) := pe_ct c hr hg ha hdb he hpl
section
variable {P : Program} {w : World} {K : PySem.W.Frag} {mg : Str → Option Value} {base : Heap}
theorem cnt_lst {H : Hp} {c a : Addr} {xs ys : List V} {cs : List (Nat × Nat)} (ha : H a = some (.lst xs)) (h : CntAt K H c cs) : CntAt K (upd H a (.lst ys)) c cs := by
  have key : ∀ {b : Addr} {zs : List V}, SqT K H b zs → SqT K (upd H a (.lst ys)) b zs := fun {b zs} h => by
    rcases h with (h | ⟨o, h⟩) | h
    · exact .inl (.inl (by rw [upd_ne (fun e => by rw [e, ha] at h; cases h)]; exact h))
    · exact .inl (.inr ⟨o, by rw [upd_ne (fun e => by rw [e, ha] at h; cases h)]; exact h⟩)
    · exact .inr h
  obtain ⟨ps, h1, h2⟩ := h
  exact ⟨ps, key h1, Paired.mapP h2 fun p z q => key q⟩
theorem Memo.lst {d a : Addr} {c0 : List (Nat × Nat)} {f : List Bool → Bool} {n l : Nat} {H : Hp} {kvs : List NE} {xs ys : List V} (m : Memo P w K d c0 f n l H kvs) (h : H a = some (.lst xs)) : Memo P w K d c0 f n l (upd H a (.lst ys)) kvs :=
  ⟨by rw [upd_ne (fun e => by have z := m.at_; rw [e, h] at z; cases z)]; exact m.at_, m.nd, fun x hx => by
    obtain ⟨cs, h1, h2, h3⟩ := m.all x hx
    exact ⟨cs, h1, cnt_lst h h2, h3⟩⟩
def sp_lf (P : Program) (w : World) (K : PySem.W.Frag) (C : Addr) (m : Nat) : Sp := fun vs H Q _ => ∃ (q c d : Addr) (n l : Nat) (f : List Bool → Bool) (cs c0 : List (Nat × Nat)) (kvs : List NE), vs = [.ref q, .int (l : Int), .ref c, .ref d] ∧ QAt C H q n f ∧ n ≤ 3 ∧ l ≤ 2 ∧ cs.length = n ∧
  CntAt K H c cs ∧ LM.opn n l cs ≠ [] ∧ box c0 cs ∧ Memo P w K d c0 f n l H kvs ∧ LM.meas n l cs ≤ m ∧ ∀ H' kvs', Xd d H H' → Memo P w K d c0 f n l H' kvs' → Q (.int (LM.L f n l cs : Nat)) H'
def sp_be (P : Program) (w : World) (K : PySem.W.Frag) (C : Addr) (m : Nat) : Sp := fun vs H Q _ => ∃ (q c d : Addr) (n l p : Nat) (f : List Bool → Bool) (cs c0 : List (Nat × Nat)) (kvs : List NE), vs = [.ref q, .int (l : Int), .ref c, .ref d, .int (p : Int)] ∧ QAt C H q n f ∧ n ≤ 3 ∧ l ≤ 2 ∧ cs.length = n ∧
  CntAt K H c cs ∧ p ∈ LM.split n (LM.opn n l cs) ∧ box c0 cs ∧ Memo P w K d c0 f n l H kvs ∧ LM.meas n l cs ≤ m + 1 ∧ ∀ H' kvs', Xd d H H' → Memo P w K d c0 f n l H' kvs' → Q (.int (max (LM.L f n l (LM.more cs p false)) (LM.L f n l (LM.more cs p true)) : Nat)) H'
theorem be_of {C : Addr} {m k : Nat} (hk : 1 ≤ k) (D : DfM K mg "behind" s_behind) (G : Gs K mg) (C1 : Ct P w K mg base 1 "more" (sp_more K)) (C2 : Ct P w K mg base k "looks_from" (sp_lf P w K C m)) : Ct P w K mg base (k + 1) "behind" (sp_be P w K C m) := by
  refine ct_of D sc_behind (fun vs H Q E h => ?_) (fun _ _ _ _ _ _ us hl => match us, hl with | [_, _, _, _, _], _ => rfl) (fun f cdv A outer s H vs Q E hr h => ?_)
  · obtain ⟨_, _, _, _, _, _, _, _, _, _, rfl, _⟩ := h
    rfl
  · obtain ⟨q, c, d, n, l, p, g, cs, c0, kvs, rfl, hq, hn, hl, hcl, hc, hp, hb, hm, hms, ret⟩ := h
    have C1' := C1.up hk
    refine ⟨_, pss_cons (ps_setLc (i := 5) (own := [("bit", 6)]) (g := gName 6) (tt := tYes) (by rfl) sc_behind.nd rfl rfl (sw_true rfl rfl rfl (by decide +kernel)) (pi_tup (pe_tup (pa_cons pe_int (pa_cons pe_int pa_nil))))
        (blkOk_by (own := [("bit", 6)]) (N := ["question", "lies", "counts", "known", "position", "ways", "bit", "way"]) (sc := defScope s_behind) (by decide +kernel)) (fun _ _ _ _ _ => pg_name (i := 6) sc_behind.nd rfl (Or.inl rfl)) (fun _ _ _ _ _ => pts_nil)
        (fun _ _ _ _ _ => pe_ctN C1' hr (by rfl) (pa_cons (pv 2) (pa_cons (pv 4) (pa_cons (pv 6) pa_nil)))))
      (pss_one (ps_ret (pe_callB (cr_max rfl) (by rfl) G.max boot_max (pa_cons (pe_lc (own := [("way", 7)]) (g := gName 7) (tt := tYes) (by rfl) sc_behind.nd (pi_list (pv 5))
        (blkOk_by (own := [("way", 7)]) (N := ["question", "lies", "counts", "known", "position", "ways", "bit", "way"]) (sc := defScope s_behind) (by decide +kernel)) (fun _ _ _ _ _ => pg_name (i := 7) sc_behind.nd rfl (Or.inl rfl)) (fun _ _ _ _ _ => pts_nil)
        (fun _ _ _ _ _ => pe_ctN C2 hr (by rfl) (pa_cons (pv 0) (pa_cons (pv 1) (pa_cons (pv 7) (pa_cons (pv 3) pa_nil)))))) pa_nil)))), ?_⟩
    have hpn : p < n := (LM.mem_split.mp hp).1
    have hsm := split_small hcl hp
    refine ⟨by show 2 ≤ sizeLine; decide, fun tp htp => ?_⟩
    obtain ⟨H1, hH1⟩ : ∃ H1, H1 = upd H tp (.tup [.int 0, .int 1]) := ⟨_, rfl⟩
    have e1 : Ex H H1 := by rw [hH1]; exact Ex.new htp
    have h1 : H1 tp = some (.tup [.int 0, .int 1]) := by rw [hH1, upd_same]
    rw [← hH1]
    refine ⟨tp, rfl, ⟨_, .of h1⟩, fun L0 hL0 => ?_⟩
    refine lc_tup (K := K) (xs := [V.int (bi false), V.int (bi true)]) (fun i H' => Ex H1 H' ∧ ∃ ps : List Addr, H' L0 = some (.lst (ps.map V.ref)) ∧ ps.length ≤ i ∧ Paired (fun a b => CntAt K H' a (LM.more cs p b)) ps ([false, true].take i)) ⟨Evl.Ex.new hL0, [], upd_same, Nat.le_refl _, .nil⟩ (fun i H' _ z => Evl.ex_t z.1 (show SqT K H1 tp [V.int (bi false), V.int (bi true)] from .of h1)) ?_ ?_
    · rintro i x H2 hx ⟨e2, ps, h2, hpl, hpp⟩
      obtain ⟨b, rfl, hbi, hi⟩ : ∃ b, x = V.int (bi b) ∧ [false, true][i]? = some b ∧ i ≤ 1 := by
        match i, hx with
        | 0, h => exact ⟨false, (Option.some.inj h).symm, rfl, by omega⟩
        | 1, h => exact ⟨true, (Option.some.inj h).symm, rfl, by omega⟩
      refine ⟨rfl, ?_⟩
      refine tyes (iteT ?_)
      refine ⟨_, rfl, _, rfl, _, rfl, c, cs, p, b, rfl, hc.ex (e1.trans e2), by omega, by omega, fun c' H3 e3 hc' => ?_⟩
      refine ⟨_, e3 _ _ h2, by rw [List.length_map]; exact small1000 (by omega), (e2.trans e3).mut hL0, ps ++ [c'], ?_, by rw [List.length_append, List.length_singleton]; omega, ?_⟩
      · rw [upd_same, List.map_append]
        rfl
      · rw [List.take_add_one, hbi]
        exact Paired.snoc (Paired.mapP hpp fun a z hz => cnt_lst (e3 _ _ h2) (hz.ex e3)) (cnt_lst (e3 _ _ h2) hc')
    · rintro H2 ⟨e2, ps, h2, _, hpp⟩
      have hpp : Paired (fun a b => CntAt K H2 a (LM.more cs p b)) ps [false, true] := hpp
      have e02 : Ex H H2 := e1.trans e2
      have m2 := hm.ex e02
      refine ⟨_, rfl, L0, rfl, ⟨_, .of h2⟩, fun L1 hL1 => ?_⟩
      have hps : ps.length = 2 := Paired.length hpp
      refine lc_list (xs := ps.map V.ref) (fun i H' => Xd d H2 H' ∧ H' L1 = some (.lst (([((LM.L g n l (LM.more cs p false) : Nat) : Int), ((LM.L g n l (LM.more cs p true) : Nat) : Int)].take i).map V.int)) ∧ ∃ ks, Memo P w K d c0 g n l H' ks)
        ⟨(Xd.refl _).mut hL1, upd_same, _, m2.ex (Evl.Ex.new hL1)⟩ (fun i H' _ z => .of (lst_xd m2.isd z.1 h2)) ?_ ?_
      · rintro i x H3 hx ⟨x3, h3, ks, m3⟩
        rw [List.getElem?_map] at hx
        obtain ⟨a, ha, rfl⟩ := Option.map_eq_some_iff.mp hx
        obtain ⟨b, hb2, hca⟩ := Paired.at hpp ha
        have hbn : ∀ y, LM.meas n l (LM.more cs p y) < LM.meas n l cs := fun y => LM.meas_lt hcl hp
        have hi : i ≤ 1 := by
          have := (List.getElem?_eq_some_iff.mp ha).1
          omega
        refine ⟨rfl, ?_⟩
        refine tyes (iteT ?_)
        refine ⟨_, rfl, _, rfl, _, rfl, _, rfl, q, a, d, n, l, g, LM.more cs p b, c0, ks, rfl, q_xd m2.isd x3 (hq.ex e02), hn, hl, by rw [LM.more_len (by omega)]; exact hcl, cnt_xd m2.isd x3 hca, LM.split_open hcl hp, box_more hb (by omega) (by omega) (by omega), m3, by have := hbn b; omega, fun H4 ks4 x4 m4 => ?_⟩
        have h4 := lst_xd m3.isd x4 h3
        refine ⟨_, h4, by rw [List.length_map, List.length_take]; exact small1000 (by omega), (x3.trans x4).mut hL1, ?_, ks4, m4.lst h4⟩
        rw [upd_same, List.take_add_one]
        match i, hb2, hi with
        | 0, hb2, _ =>
          obtain rfl := Option.some.inj hb2
          rfl
        | 1, hb2, _ =>
          obtain rfl := Option.some.inj hb2
          rfl
      · rintro H3 ⟨x3, h3, ks, m3⟩
        rw [List.length_map, hps] at h3
        refine ⟨L1, [((LM.L g n l (LM.more cs p false) : Nat) : Int), ((LM.L g n l (LM.more cs p true) : Nat) : Int)], rfl, .of h3, by show 0 < 2; decide, fun mx hmx hle => ?_⟩
        have em : mx = ((max (LM.L g n l (LM.more cs p false)) (LM.L g n l (LM.more cs p true)) : Nat) : Int) := by
          have a1 := hle _ (List.mem_cons_self)
          have a2 := hle _ (List.mem_cons_of_mem _ List.mem_cons_self)
          have a3 : mx = ((LM.L g n l (LM.more cs p false) : Nat) : Int) ∨ mx = ((LM.L g n l (LM.more cs p true) : Nat) : Int) := by simpa using hmx
          omega
        rw [em]
        exact ret H3 ks ((Xd.of e02).trans x3) m3
theorem lf_of {C : Addr} {m k : Nat} (hk : 6 ≤ k) (D : DfM K mg "looks_from" s_looks_from) (G : Gs K mg) (q0 : QC K C) (CM : CtM P w K mg base C) (C1 : Ct P w K mg base 4 "open_by" (sp_open_by K)) (C2 : Ct P w K mg base 5 "only_answer" (sp_only K C)) (C3 : Ct P w K mg base 1 "split_positions" (sp_split_positions K))
    (C4 : Ct P w K mg base k "behind" (sp_be P w K C m)) : Ct P w K mg base (k + 1) "looks_from" (sp_lf P w K C (m + 1)) := by
  refine ct_of D sc_looks_from (fun vs H Q E h => ?_) (fun _ _ _ _ _ _ us hl => match us, hl with | [_, _, _, _], _ => rfl) (fun f cdv A outer s H vs Q E hr h => ?_)
  · obtain ⟨_, _, _, _, _, _, _, _, _, rfl, _⟩ := h
    rfl
  · obtain ⟨q, c, d, n, l, g, cs, c0, kvs, rfl, hq, hn, hl, hcl, hc, ho, hb, hm, hms, ret⟩ := h
    have C1' := C1.up (k := k) (by omega)
    have C2' := C2.up (k := k) (by omega)
    have C3' := C3.up (k := k) (by omega)
    refine ⟨_, pss_cons (ps_if (pt_cmp (pc_dinN hr (pv 2) (pv 3))) (pss_one (ps_ret (pe_dgetN hr (pv 3) (pv 2) (fun _ _ => rfl)))) pss_nil)
      (pss_cons (ps_set (i := 4) sc_looks_from.nd rfl (.inl rfl) (pe_ct C1' hr (by rfl) (pa_cons (pe_many CM q0 hr (by omega) (pv 0)) (pa_cons (pv 1) (pa_cons (pv 2) pa_nil)))))
      (pss_cons (ps_set (i := 5) sc_looks_from.nd rfl (.inl rfl) pe_int)
      (pss_cons (ps_if (pt_cmp (pc_isN (pe_ct C2' hr (by rfl) (pa_cons (pv 0) (pa_cons (pv 4) pa_nil)))))
        (pss_cons (ps_set (i := 6) sc_looks_from.nd rfl (.inl rfl) (pe_ct C3' hr (by rfl) (pa_cons (pe_many CM q0 hr (by omega) (pv 0)) (pa_cons (pv 4) pa_nil))))
        (pss_one (ps_set (i := 5) sc_looks_from.nd rfl (.inl rfl) (pe_callB (cr_min rfl) (by rfl) G.min boot_min (pa_cons (pe_lc (own := [("position", 7)]) (g := gName 7) (tt := tYes) (by rfl) sc_looks_from.nd (pi_list (pv 6))
          (blkOk_by (own := [("position", 7)]) (N := ["question", "lies", "counts", "known", "texts", "found", "spots", "position"]) (sc := defScope s_looks_from) (by decide +kernel)) (fun _ _ _ _ _ => pg_name (i := 7) sc_looks_from.nd rfl (Or.inl rfl)) (fun _ _ _ _ _ => pts_nil)
          (fun _ _ _ _ _ => pe_op op_add pe_int (pe_ctN C4 hr (by rfl) (pa_cons (pv 0) (pa_cons (pv 1) (pa_cons (pv 2) (pa_cons (pv 3) (pa_cons (pv 7) pa_nil)))))))) pa_nil))))) pss_nil)
      (pss_cons (ps_dputN hr (pv 3) (pv 2) (pv 5) (by rfl))
      (pss_one (ps_ret (pv 5))))))), ?_⟩
    obtain ⟨dx, fs, ad, kv, q1, q2, q3, q4, q5⟩ := id hq
    refine ⟨_, rfl, _, rfl, d, c, kvs, cs, rfl, rfl, hm.at_, hm.keys, hc, _, rfl, ite2 (fun z => ?_) (fun z => ?_)⟩
    · obtain ⟨i, hi⟩ := Option.isSome_iff_exists.mp z
      refine ⟨_, rfl, _, rfl, d, c, kvs, cs, i, rfl, rfl, hm.at_, hm.keys, hc, hi, ?_⟩
      rw [hm.look hi]
      exact ret H kvs (Xd.refl _) hm
    · refine ⟨_, rfl, q, dx, fs, rfl, q1, q, dx, fs, _, rfl, q1, q2, _, rfl, _, rfl, n, l, c, cs, rfl, hn, hcl, hc, fun p H2 hp e2 h2 => ?_⟩
      refine ⟨_, rfl, _, rfl, q, p, n, g, _, rfl, hq.ex e2, .of h2, ho, LM.opn_len, by omega, by have := opn_small (l := l) (cs := cs) hn; omega, fun H3 e3 => ?_⟩
      have hc0 : c0.length = n := by rw [← box_len hb]; exact hcl
      have room : ∀ {H4 ks}, Memo P w K d c0 g n l H4 ks → ks.length ≤ 100000 := fun {H4 ks} m4 => by
        have h1 := m4.len
        have h2 : 16 ^ c0.length ≤ 16 ^ 3 := Nat.pow_le_pow_right (by decide) (by omega)
        have h3 : (16 : Nat) ^ 3 = 4096 := by decide
        omega
      have e03 : Ex H H3 := e2.trans e3
      have m3 := hm.ex e03
      refine ⟨_, rfl, ite2 (fun zz => ?_) (fun zz => ?_)⟩
      · -- the answers differ
        have hs : LM.same g (LM.opn n l cs) = false := by
          cases hq2 : LM.same g (LM.opn n l cs) with
          | false => rfl
          | true =>
            have := of_decide_eq_true zz
            unfold onlyV at this
            rw [if_pos hq2] at this
            cases this
        refine ⟨_, rfl, q, dx, fs, rfl, e03 _ _ q1, q, dx, fs, _, rfl, e03 _ _ q1, q2, _, rfl, n, p, _, rfl, by omega, .of (e3 _ _ h2), by have := opn_small (l := l) (cs := cs) hn; omega, LM.opn_len, fun p4 H4 hp4 e4 h4 => ?_⟩
        generalize hsp : LM.split n (LM.opn n l cs) = sp at h4
        have e04 : Ex H H4 := e03.trans e4
        have m4 := hm.ex e04
        have hspl : sp.length ≤ n := by
          rw [← hsp]
          unfold LM.split
          exact Nat.le_trans (List.length_filter_le _ _) (by rw [List.length_range]; exact Nat.le_refl _)
        let gp : Nat → Nat := fun p => 1 + max (LM.L g n l (LM.more cs p false)) (LM.L g n l (LM.more cs p true))
        refine ⟨_, rfl, p4, rfl, ⟨_, .of h4⟩, fun L1 hL1 => ?_⟩
        refine lc_list (xs := sp.map fun p => V.int (p : Nat)) (fun i H' => Xd d H4 H' ∧ H' L1 = some (.lst (((sp.take i).map fun p => ((gp p : Nat) : Int)).map V.int)) ∧ ∃ ks, Memo P w K d c0 g n l H' ks)
          ⟨(Xd.refl _).mut hL1, upd_same, _, m4.ex (Evl.Ex.new hL1)⟩ (fun i H' _ z => .of (lst_xd m4.isd z.1 h4)) ?_ ?_
        · rintro i x H5 hx ⟨x5, h5, ks, m5⟩
          rw [List.getElem?_map] at hx
          obtain ⟨a, ha, rfl⟩ := Option.map_eq_some_iff.mp hx
          have hi : i < sp.length := (List.getElem?_eq_some_iff.mp ha).1
          have has : a ∈ LM.split n (LM.opn n l cs) := by rw [hsp]; exact List.mem_of_getElem? ha
          refine ⟨rfl, ?_⟩
          refine tyes (iteT ?_)
          refine ⟨_, rfl, _, rfl, _, rfl, _, rfl, _, rfl, q, c, d, n, l, a, g, cs, c0, ks, rfl, q_xd m4.isd x5 (hq.ex e04), hn, hl, hcl, cnt_xd m4.isd x5 (hc.ex e04), has, hb, m5, by omega, fun H6 ks6 x6 m6 => ?_⟩
          have h6 := lst_xd m5.isd x6 h5
          refine ⟨1, _, rfl, rfl, _, h6, by rw [List.length_map, List.length_map, List.length_take]; exact small1000 (by omega), (x5.trans x6).mut hL1, ?_, ks6, m6.lst h6⟩
          rw [upd_same, List.take_add_one, ha, List.map_append, List.map_append]
          have eg : ((gp a : Nat) : Int) = 1 + ((max (LM.L g n l (LM.more cs a false)) (LM.L g n l (LM.more cs a true)) : Nat) : Int) := by
            show ((1 + _ : Nat) : Int) = _
            rw [Int.natCast_add]
            rfl
          show _ = some (HO.lst (_ ++ [V.int ((gp a : Nat) : Int)]))
          rw [eg]
        · rintro H5 ⟨x5, h5, ks, m5⟩
          rw [List.length_map, List.take_length] at h5
          have hne : sp ≠ [] := by rw [← hsp]; exact LM.split_ne LM.opn_len hs
          refine ⟨L1, sp.map fun p => ((gp p : Nat) : Int), rfl, .of h5, by rw [List.length_map]; exact List.length_pos_iff.mpr hne, fun mn hmn hle => ?_⟩
          have em : mn = ((LM.L g n l cs : Nat) : Int) := by
            rw [LM.L_eq hcl, hs, if_neg Bool.false_ne_true, hsp]
            obtain ⟨a, ha, ea⟩ := List.mem_map.mp hmn
            rw [← ea]
            refine congrArg Int.ofNat (LM.minL_unique (xs := sp.map gp) (m := gp a) (List.mem_map.mpr ⟨a, ha, rfl⟩) fun y hy => ?_).symm
            obtain ⟨b, hb2, eb⟩ := List.mem_map.mp hy
            have := hle _ (List.mem_map.mpr ⟨b, hb2, rfl⟩)
            rw [← ea] at this
            rw [← eb]
            exact Int.ofNat_le.mp this
          rw [em]
          have x05 : Xd d H H5 := (Xd.of e04).trans x5
          have hc5 := cnt_xd m4.isd x5 (hc.ex e04)
          exact ⟨_, rfl, _, rfl, _, rfl, d, c, ks, cs, _, rfl, rfl, rfl, m5.at_, m5.keys, hc5, room m5, _, rfl, ret _ _ (x05.trans .put) (m5.put hc5 hb)⟩
      · have hs : LM.same g (LM.opn n l cs) = true := by
          cases hq2 : LM.same g (LM.opn n l cs) with
          | true => rfl
          | false =>
            refine absurd (decide_eq_true ?_) zz
            unfold onlyV
            rw [if_neg (by rw [hq2]; exact Bool.false_ne_true)]
        have e0 : (0 : Int) = ((LM.L g n l cs : Nat) : Int) := by rw [LM.L_same hcl hs]; rfl
        have hc3 := hc.ex e03
        refine ⟨_, rfl, _, rfl, _, rfl, d, c, kvs, cs, ((LM.L g n l cs : Nat) : Int), rfl, rfl, by rw [← e0], m3.at_, m3.keys, hc3, room m3, _, rfl, ?_⟩
        rw [e0]
        exact ret _ _ ((Xd.of e03).trans .put) (m3.put hc3 hb)
end
end LL

/-! Leastlooks: the levels of looks_from; lie_looks, next_looks. -/
namespace LL
open PySem PySem.Spec PyProof.Rows L2
open Evl (Ex RetV RetL)
theorem Xd.back {d : Addr} {H H1 H' : Hp} (x : Xd d H1 H') (e : Ex H H1) (hd : H d = none) : Ex H H' := fun b o hb => x b o (fun z => by rw [z, hd] at hb; cases hb) (e b o hb)
theorem meas_le {n l : Nat} {cs : List (Nat × Nat)} (hn : n ≤ 3) (hl : l ≤ 2) : LM.meas n l cs ≤ 24 := by
  have key : ∀ xs : List (List Bool), (xs.map fun t => l + 1 - LM.wrong t cs).sum ≤ 3 * xs.length := by
    intro xs
    induction xs with
    | nil => exact Nat.le_refl _
    | cons a r ih =>
      rw [List.map_cons, List.sum_cons, List.length_cons]
      omega
  have h1 := key (LM.ins n)
  have h2 := ins_small hn
  unfold LM.meas
  omega
section
variable {P : Program} {w : World} {K : PySem.W.Frag} {mg : Str → Option Value} {base : Heap}
theorem lf_zero {C : Addr} (D : DfM K mg "looks_from" s_looks_from) : Ct P w K mg base 1 "looks_from" (sp_lf P w K C 0) := by
  refine ct_of D sc_looks_from (fun vs H Q E h => ?_) (fun _ _ _ _ _ _ us hl => match us, hl with | [_, _, _, _], _ => rfl) (fun f cdv A outer s H vs Q E hr h => ?_)
  · obtain ⟨_, _, _, _, _, _, _, _, _, rfl, _⟩ := h
    rfl
  · obtain ⟨q, c, d, n, l, g, cs, c0, kvs, rfl, hq, hn, hl, hcl, hc, ho, hb, hm, hms, ret⟩ := h
    exact absurd (LM.meas_zero (Nat.le_zero.mp hms)) ho
theorem lf_all {C : Addr} (DL : DfM K mg "looks_from" s_looks_from) (DB : DfM K mg "behind" s_behind) (G : Gs K mg) (q0 : QC K C) (CM : CtM P w K mg base C) (C0 : Ct P w K mg base 1 "more" (sp_more K)) (C1 : Ct P w K mg base 4 "open_by" (sp_open_by K)) (C2 : Ct P w K mg base 5 "only_answer" (sp_only K C)) (C3 : Ct P w K mg base 1 "split_positions" (sp_split_positions K)) :
    ∀ m, Ct P w K mg base (7 + 2 * m) "looks_from" (sp_lf P w K C m) ∧ Ct P w K mg base (8 + 2 * m) "behind" (sp_be P w K C m) := by
  intro m
  induction m with
  | zero =>
    have h0 : Ct P w K mg base 7 "looks_from" (sp_lf P w K C 0) := (lf_zero DL).up (by decide)
    exact ⟨h0, be_of (by decide) DB G C0 h0⟩
  | succ m ih =>
    have h1 : Ct P w K mg base (8 + 2 * m + 1) "looks_from" (sp_lf P w K C (m + 1)) := lf_of (by omega) DL G q0 CM C1 C2 C3 ih.2
    have h2 : Ct P w K mg base (7 + 2 * (m + 1)) "looks_from" (sp_lf P w K C (m + 1)) := h1.up (by omega)
    exact ⟨h2, (be_of (by omega) DB G C0 h2).up (by omega)⟩
/-- with one default -/
theorem ct_dfl {x : Str} {st : Stmt} {N ps : List Str} {k n : Nat} {sp : Sp} {v0 : V} (D : ∃ f, mg x = some (.ref f) ∧ Df K mg x x st [v0] f) (S : FnScope N ps (defScope st)) (hn : ps.length = n + 1) (len : ∀ vs H Q E, sp vs H Q E → vs.length = ps.length)
    (bF : ∀ (T : Addr) (kV doc pm : Value) (an : Option Addr) (cdv ct : Value) (us its : List Value), us.length = n + 1 → its.length = 1 →
      ∃ k, bindArgs (PySem.W.fnOf x x (defArgs st) (defBody st) (defScope st) (.ref T) kV doc pm an cdv ct) ⟨us, []⟩ = seqItems? (.ref T) >>= k ∧ k (some its.toArray) = pure (ps.zip (us ++ its.drop 1)))
    (bS : ∀ (T : Addr) (kV doc pm : Value) (an : Option Addr) (cdv ct : Value) (us its : List Value), us.length = n → its.length = 1 →
      ∃ k, bindArgs (PySem.W.fnOf x x (defArgs st) (defBody st) (defScope st) (.ref T) kV doc pm an cdv ct) ⟨us, []⟩ = seqItems? (.ref T) >>= k ∧ k (some its.toArray) = pure (ps.zip (us ++ its.drop 0)))
    (hbody : ∀ (f : Addr) (cdv : Value) (A : Around) (outer : List Env) (s : Shared) (H : Hp) (vs : List V) (Q : VK) (E : XK), Room k (A.deeper (envOfC x (defScope st) s.heap.objs.size f cdv)) → sp vs H Q E →
      ∃ t, PSs (cxOf CX0 P w K mg base N x (defScope st) f cdv A outer s H E).nox (defBody st) t ∧ t { nx := fun _ H' => Q .non H', rt := Q } (start N vs) H) : Ct P w K mg base (k + 1) x sp ∧ Ct P w K mg base (k + 1) x (fun vs H Q E => sp (vs ++ [v0]) H Q E) := by
  obtain ⟨f, g, fd, F⟩ := D
  have ok : FnOk P w K mg base CX0 (k + 1) f fd ps sp := FunD.ok F S len fun cdv A outer s H vs Q E hr hsp => by
    obtain ⟨t, h, q⟩ := hbody f cdv A outer s H vs Q E hr hsp
    exact ⟨t, h.nox, q⟩
  obtain ⟨ds1, v1, b1⟩ := F.binds1 (n + 1) 1 (by simp) (by rw [hn]; rfl) bF
  obtain ⟨ds0, v00, b0⟩ := F.binds1 n 0 (by simp) (by rw [hn]; rfl) bS
  refine ⟨⟨f, g, F.kp, FnR.imp (ok.raw b1 v1) fun vs H Q E h => ?_⟩, ⟨f, g, F.kp, ok.raw b0 v00⟩⟩
  show sp (vs ++ []) H Q E
  rw [List.append_nil]
  exact h
def sp_lie (K : PySem.W.Frag) (C : Addr) : Sp := fun vs H Q _ => ∃ (q t : Addr) (n l : Nat) (f : List Bool → Bool) (ws : List (Nat × Bool)), vs = [.ref q, .int (l : Int), .ref t] ∧ QAt C H q n f ∧ n ≤ 3 ∧ l ≤ 2 ∧ Told K H t ws ∧ (∀ v ∈ ws, v.1 < n) ∧ LM.opn n l (LM.cnt n ws) ≠ [] ∧ RetV (.int (LM.L f n l (LM.cnt n ws) : Nat)) H Q
theorem ok_lie {C : Addr} {v0 : V} (D : ∃ f, mg "lie_looks" = some (.ref f) ∧ Df K mg "lie_looks" "lie_looks" s_lie_looks [v0] f) (q0 : QC K C) (CM : CtM P w K mg base C) (C1 : Ct P w K mg base 55 "looks_from" (sp_lf P w K C 24)) (C2 : Ct P w K mg base 5 "need_open" (sp_need_open K)) :
    Ct P w K mg base 56 "lie_looks" (sp_lie K C) ∧ Ct P w K mg base 56 "lie_looks" (fun vs H Q E => sp_lie K C (vs ++ [v0]) H Q E) := by
  refine ct_dfl (n := 2) D sc_lie_looks rfl (fun vs H Q E h => ?_) (fun _ _ _ _ _ _ _ us its hl hi => match us, its, hl, hi with | [_, _, _], [_], _, _ => ⟨_, rfl, rfl⟩) (fun _ _ _ _ _ _ _ us its hl hi => match us, its, hl, hi with | [_, _], [_], _, _ => ⟨_, rfl, rfl⟩) (fun f cdv A outer s H vs Q E hr h => ?_)
  · obtain ⟨_, _, _, _, _, _, rfl, _⟩ := h
    rfl
  · obtain ⟨q, t, n, l, g, ws, rfl, hq, hn, hl, hT, hb, ho, k⟩ := h
    have C2' := C2.up (k := 55) (by decide)
    refine ⟨_, pss_one (ps_ret (pe_ct C1 hr (by rfl) (pa_cons (pv 0) (pa_cons (pv 1) (pa_cons (pe_ct C2' hr (by rfl) (pa_cons (pe_many CM q0 hr (by decide) (pv 0)) (pa_cons (pv 1) (pa_cons (pv 2) pa_nil)))) (pa_cons pe_dnewN pa_nil)))))), ?_⟩
    obtain ⟨dx, fs, ad, kv, q1, q2, q3, q4, q5⟩ := id hq
    refine ⟨_, rfl, _, rfl, _, rfl, q, dx, fs, rfl, q1, q, dx, fs, _, rfl, q1, q2, _, rfl, _, rfl, n, l, t, ws, rfl, hn, hl, hT, hb, ho, fun c H2 e2 hc => ?_⟩
    intro d hd
    have e3 : Ex H2 (upd H2 d (DN P w d [])) := Ex.new hd
    refine ⟨q, c, d, n, l, g, LM.cnt n ws, LM.cnt n ws, [], rfl, hq.ex (e2.trans e3), hn, hl, LM.cnt_len hb, hc.ex e3, ho, box_refl _, Memo.new upd_same, meas_le hn hl, fun H' kvs' x m => ?_⟩
    exact k H' (x.back (e2.trans e3) (Evl.fresh_back e2 hd))
def nxt (f : List Bool → Bool) (n l : Nat) (cs : List (Nat × Nat)) : List Nat :=
  if LM.L f n l cs = 0 then [] else (LM.split n (LM.opn n l cs)).filter fun p => decide (1 + max (LM.L f n l (LM.more cs p false)) (LM.L f n l (LM.more cs p true)) = LM.L f n l cs)
def sp_next (K : PySem.W.Frag) (C : Addr) : Sp := fun vs H Q _ => ∃ (q t : Addr) (n l : Nat) (f : List Bool → Bool) (ws : List (Nat × Bool)), vs = [.ref q, .int (l : Int), .ref t] ∧ QAt C H q n f ∧ n ≤ 3 ∧ l ≤ 2 ∧ Told K H t ws ∧ (∀ v ∈ ws, v.1 < n) ∧ LM.opn n l (LM.cnt n ws) ≠ [] ∧
  RetL ((nxt f n l (LM.cnt n ws)).map fun p => V.int (p : Nat)) H Q
theorem ok_next {C : Addr} {v0 : V} (D : ∃ f, mg "next_looks" = some (.ref f) ∧ Df K mg "next_looks" "next_looks" s_next_looks [v0] f) (q0 : QC K C) (CM : CtM P w K mg base C) (C1 : Ct P w K mg base 56 "looks_from" (sp_lf P w K C 24)) (C2 : Ct P w K mg base 5 "need_open" (sp_need_open K))
    (C3 : Ct P w K mg base 56 "behind" (sp_be P w K C 24)) (C4 : Ct P w K mg base 1 "split_positions" (sp_split_positions K)) (C5 : Ct P w K mg base 4 "open_by" (sp_open_by K)) :
    Ct P w K mg base 57 "next_looks" (sp_next K C) := by
  refine (ct_dfl (n := 2) D sc_next_looks rfl (fun vs H Q E h => ?_) (fun _ _ _ _ _ _ _ us its hl hi => match us, its, hl, hi with | [_, _, _], [_], _, _ => ⟨_, rfl, rfl⟩) (fun _ _ _ _ _ _ _ us its hl hi => match us, its, hl, hi with | [_, _], [_], _, _ => ⟨_, rfl, rfl⟩) (fun f cdv A outer s H vs Q E hr h => ?_)).1
  · obtain ⟨_, _, _, _, _, _, rfl, _⟩ := h
    rfl
  · obtain ⟨q, t, n, l, g, ws, rfl, hq, hn, hl, hT, hb, ho, k⟩ := h
    have C2' := C2.up (k := 56) (by decide)
    have C4' := C4.up (k := 56) (by decide)
    have C5' := C5.up (k := 56) (by decide)
    refine ⟨_, pss_cons (ps_set (i := 3) sc_next_looks.nd rfl (.inr rfl) (pe_ct C2' hr (by rfl) (pa_cons (pe_many CM q0 hr (by decide) (pv 0)) (pa_cons (pv 1) (pa_cons (pv 2) pa_nil)))))
      (pss_cons (ps_set (i := 4) sc_next_looks.nd rfl (.inr rfl) pe_dnewN)
      (pss_cons (ps_set (i := 5) sc_next_looks.nd rfl (.inr rfl) (pe_ct C1 hr (by rfl) (pa_cons (pv 0) (pa_cons (pv 1) (pa_cons (pv 3) (pa_cons (pv 4) pa_nil))))))
      (pss_cons (ps_if (pt_cmpR op_eq (pv 5) pe_int (nomark _)) (pss_one (ps_ret (pe_lst pa_nil))) pss_nil)
      (pss_cons (ps_set (i := 6) sc_next_looks.nd rfl (.inl rfl) (pe_ct C4' hr (by rfl) (pa_cons (pe_many CM q0 hr (by decide) (pv 0)) (pa_cons (pe_ct C5' hr (by rfl) (pa_cons (pe_many CM q0 hr (by decide) (pv 0)) (pa_cons (pv 1) (pa_cons (pv 3) pa_nil)))) pa_nil))))
      (pss_one (ps_ret (pe_lc (own := [("position", 7)]) (g := gName 7) (by rfl) sc_next_looks.nd (pi_list (pv 6))
        (blkOk_by (own := [("position", 7)]) (N := ["question", "lies", "told", "counts", "known", "count", "spots", "position"]) (sc := defScope s_next_looks) (by decide +kernel)) (fun _ _ _ _ _ => pg_name (i := 7) sc_next_looks.nd rfl (Or.inl rfl))
        (fun _ _ _ _ _ => pts_one (pt_cmpR op_eq (pe_op op_add pe_int (pe_ctN C3 hr (by rfl) (pa_cons (pv 0) (pa_cons (pv 1) (pa_cons (pv 3) (pa_cons (pv 4) (pa_cons (pv 7) pa_nil))))))) (pv 5) (nomark _)))
        (fun _ _ _ _ _ => pv 7)))))))), ?_⟩
    obtain ⟨dx, fs, ad, kv, q1, q2, q3, q4, q5⟩ := id hq
    refine ⟨_, rfl, q, dx, fs, rfl, q1, q, dx, fs, _, rfl, q1, q2, _, rfl, _, rfl, n, l, t, ws, rfl, hn, hl, hT, hb, ho, fun c H2 e2 hc => ?_⟩
    intro d hd
    have e3 : Ex H2 (upd H2 d (DN P w d [])) := Ex.new hd
    have hcl : (LM.cnt n ws).length = n := LM.cnt_len hb
    generalize hcs : LM.cnt n ws = cs at hc ho hcl k
    refine ⟨_, rfl, _, rfl, _, rfl, _, rfl, q, c, d, n, l, g, cs, cs, [], rfl, hq.ex (e2.trans e3), hn, hl, hcl, hc.ex e3, ho, box_refl _, Memo.new upd_same, meas_le hn hl, fun H4 kvs' x4 m4 => ?_⟩
    have hd0 : H d = none := Evl.fresh_back e2 hd
    have e4 : Ex H H4 := x4.back (e2.trans e3) hd0
    have hc4 : CntAt K H4 c cs := cnt_xd ⟨_, upd_same⟩ x4 (hc.ex e3)
    refine ⟨_, rfl, rfl, _, rfl, ite2 (fun z => ?_) (fun z => ?_)⟩
    · have z0 : LM.L g n l cs = 0 := by have := V.int.inj (of_decide_eq_true z); omega
      refine ⟨by show 0 ≤ sizeLine; exact Nat.zero_le _, fun p hp => k p _ (Evl.fresh_back e4 hp) (e4.trans (Ex.new hp)) ?_⟩
      rw [upd_same]
      unfold nxt
      rw [if_pos z0]
      rfl
    · have z0 : ¬ LM.L g n l cs = 0 := fun z0 => z (decide_eq_true (by rw [z0]; rfl))
      refine ⟨_, rfl, q, dx, fs, rfl, e4 _ _ q1, q, dx, fs, _, rfl, e4 _ _ q1, q2, ?_⟩
      refine ⟨_, rfl, q, dx, fs, rfl, e4 _ _ q1, q, dx, fs, _, rfl, e4 _ _ q1, q2, _, rfl, _, rfl, n, l, c, cs, rfl, hn, hcl, hc4, fun p5 H5 hp5 e5 h5 => ?_⟩
      refine ⟨n, p5, _, rfl, by omega, .of h5, by have := opn_small (l := l) (cs := cs) hn; omega, LM.opn_len, fun p6 H6 hp6 e6 h6 => ?_⟩
      have e46 := e5.trans e6
      have e06 := e4.trans e46
      have m6 := m4.ex e46
      generalize hsp : LM.split n (LM.opn n l cs) = sp at h6
      have hspl : sp.length ≤ n := by
        rw [← hsp]
        unfold LM.split
        exact Nat.le_trans (List.length_filter_le _ _) (by rw [List.length_range]; exact Nat.le_refl _)
      let pt : Nat → Bool := fun p => decide (1 + max (LM.L g n l (LM.more cs p false)) (LM.L g n l (LM.more cs p true)) = LM.L g n l cs)
      refine ⟨_, rfl, p6, rfl, ⟨_, .of h6⟩, fun L1 hL1 => ?_⟩
      refine lc_list (xs := sp.map fun p => V.int (p : Nat)) (fun i H' => Xd d H6 H' ∧ H' L1 = some (.lst (((sp.take i).filter pt).map fun p => V.int (p : Nat))) ∧ ∃ ks, Memo P w K d cs g n l H' ks)
        ⟨(Xd.refl _).mut hL1, upd_same, _, m6.ex (Evl.Ex.new hL1)⟩ (fun i H' _ z => .of (lst_xd m6.isd z.1 h6)) ?_ ?_
      · rintro i x H7 hx ⟨x7, h7, ks, m7⟩
        rw [List.getElem?_map] at hx
        obtain ⟨a, ha, rfl⟩ := Option.map_eq_some_iff.mp hx
        have hi : i < sp.length := (List.getElem?_eq_some_iff.mp ha).1
        have has : a ∈ LM.split n (LM.opn n l cs) := by rw [hsp]; exact List.mem_of_getElem? ha
        refine ⟨rfl, ?_⟩
        refine ⟨_, rfl, _, rfl, _, rfl, _, rfl, _, rfl, q, c, d, n, l, a, g, cs, cs, ks, rfl, q_xd m6.isd x7 (hq.ex e06), hn, hl, hcl, cnt_xd m6.isd x7 (hc4.ex e46), has, box_refl _, m7, by have := meas_le (cs := cs) hn hl; omega, fun H8 ks8 x8 m8 => ?_⟩
        have h8 := lst_xd m7.isd x8 h7
        refine ⟨1, _, rfl, rfl, _, rfl, rfl, _, rfl, ite2 (fun zz => ?_) (fun zz => ?_)⟩
        · have hpt : pt a = true := decide_eq_true (by have := V.int.inj (of_decide_eq_true zz); omega)
          refine ⟨_, rfl, _, h8, by rw [List.length_map]; exact small1000 (Nat.le_trans (List.length_filter_le _ _) (by rw [List.length_take]; omega)), (x7.trans x8).mut hL1, ?_, ks8, m8.lst h8⟩
          rw [upd_same, List.take_add_one, ha, List.filter_append, List.map_append]
          show _ = some (HO.lst (_ ++ List.map _ (List.filter pt [a])))
          rw [List.filter_cons, hpt]
          rfl
        · have hpt : pt a = false := decide_eq_false fun e => zz (decide_eq_true (by rw [← e, Int.natCast_add]; rfl))
          refine ⟨x7.trans x8, ?_, ks8, m8⟩
          rw [h8, List.take_add_one, ha, List.filter_append]
          show _ = some (HO.lst (List.map _ (_ ++ List.filter pt [a])))
          rw [List.filter_cons, hpt]
          show _ = some (HO.lst (List.map _ (_ ++ [])))
          rw [List.append_nil]
      · rintro H7 ⟨x7, h7, ks, m7⟩
        rw [List.length_map, List.take_length] at h7
        refine k L1 H7 (Evl.fresh_back e06 hL1) (x7.back e06 hd0) ?_
        rw [h7]
        unfold nxt
        rw [if_neg z0, hsp]
end
end LL

/-! Leastlooks: hard_bit. -/
namespace LL
open PySem PySem.Spec PyProof.Rows L2
open Evl (Ex RetV RetL)
section
variable {P : Program} {w : World} {K : PySem.W.Frag} {mg : Str → Option Value} {base : Heap}
theorem tup_xd {d a : Addr} {H H' : Hp} {xs : List V} (hd : IsDN P w d H) (x : Xd d H H') (h : H a = some (.tup xs)) : H' a = some (.tup xs) := by
  obtain ⟨kvs, hd⟩ := hd
  exact x _ _ (fun e => by rw [e, hd] at h; cases h) h
abbrev cellB (z : Nat × Bool) : HO := .tup [.int (z.1 : Nat), .int (bi z.2)]
def sp_hard (K : PySem.W.Frag) (C : Addr) : Sp := fun vs H Q _ => ∃ (q t : Addr) (n l p : Nat) (f : List Bool → Bool) (ws : List (Nat × Bool)), vs = [.ref q, .int (l : Int), .ref t, .int (p : Int)] ∧ QAt C H q n f ∧ n ≤ 3 ∧ l ≤ 2 ∧ p < n ∧ Told K H t ws ∧ (∀ v ∈ ws, v.1 < n) ∧ LM.opn n l (LM.cnt n ws) ≠ [] ∧
  ∀ b H2, Ex H H2 → LM.opn n l (LM.more (LM.cnt n ws) p b) ≠ [] → (∀ b', LM.opn n l (LM.more (LM.cnt n ws) p b') ≠ [] → LM.L f n l (LM.more (LM.cnt n ws) p b') ≤ LM.L f n l (LM.more (LM.cnt n ws) p b)) → Q (.int (bi b)) H2
theorem ok_hard {C : Addr} (D : DfM K mg "hard_bit" s_hard_bit) (G : Gs K mg) (q0 : QC K C) (CM : CtM P w K mg base C) (C1 : Ct P w K mg base 55 "looks_from" (sp_lf P w K C 24)) (C2 : Ct P w K mg base 5 "need_open" (sp_need_open K))
    (C3 : Ct P w K mg base 2 "need_position" sp_need_position) (C4 : Ct P w K mg base 1 "more" (sp_more K)) (C5 : Ct P w K mg base 4 "open_by" (sp_open_by K)) : Ct P w K mg base 56 "hard_bit" (sp_hard K C) := by
  refine ct_of D sc_hard_bit (fun vs H Q E h => ?_) (fun _ _ _ _ _ _ us hl => match us, hl with | [_, _, _, _], _ => rfl) (fun f cdv A outer s H vs Q E hr h => ?_)
  · obtain ⟨_, _, _, _, _, _, _, rfl, _⟩ := h
    rfl
  · obtain ⟨q, t, n, l, p, g, ws, rfl, hq, hn, hl, hpn, hT, hb, ho, k⟩ := h
    have C2' := C2.up (k := 55) (by decide)
    have C3' := C3.up (k := 55) (by decide)
    have C4' := C4.up (k := 55) (by decide)
    have C5' := C5.up (k := 55) (by decide)
    refine ⟨_, pss_cons (ps_set (i := 4) sc_hard_bit.nd rfl (.inl rfl) (pe_ct C2' hr (by rfl) (pa_cons (pe_many CM q0 hr (by decide) (pv 0)) (pa_cons (pv 1) (pa_cons (pv 2) pa_nil)))))
      (pss_cons (ps_expr (pe_ct C3' hr (by rfl) (pa_cons (pv 3) (pa_cons (pe_many CM q0 hr (by decide) (pv 0)) pa_nil))))
      (pss_cons (ps_set (i := 5) sc_hard_bit.nd rfl (.inl rfl) pe_dnewN)
      (pss_cons (ps_set (i := 6) sc_hard_bit.nd rfl (.inl rfl) (pe_lst pa_nil))
      (pss_cons (ps_for PassesOwn.never rfl (pi_tup (pe_tup (pa_cons pe_int (pa_cons pe_int pa_nil)))) (pg_name (i := 7) sc_hard_bit.nd rfl (.inl rfl))
        (pss_cons (ps_set (i := 8) sc_hard_bit.nd rfl (.inl rfl) (pe_ct C4' hr (by rfl) (pa_cons (pv 4) (pa_cons (pv 3) (pa_cons (pv 7) pa_nil)))))
        (pss_one (ps_if (pt_cmpR op_gt (pe_callB call_len_seq (by rfl) G.len boot_len (pa_cons (pe_ct C5' hr (by rfl) (pa_cons (pe_many CM q0 hr (by decide) (pv 0)) (pa_cons (pv 1) (pa_cons (pv 8) pa_nil)))) pa_nil)) pe_int (nomark _))
          (pss_one (ps_expr (pe_bm PySem.F.plainAttrs_list PySem.F.slot_list_append PySem.F.type_list_append mt_append (pv 6) (pa_cons (pe_tup (pa_cons (pe_ct C1 hr (by rfl) (pa_cons (pv 0) (pa_cons (pv 1) (pa_cons (pv 8) (pa_cons (pv 5) pa_nil))))) (pa_cons (pv 7) pa_nil))) pa_nil)))) pss_nil))))
      (pss_cons (ps_set (i := 9) sc_hard_bit.nd rfl (.inr rfl) (pe_callB (cr_max rfl) (by rfl) G.max boot_max (pa_cons (pe_lc (own := [("count", 10), ("bit", 7)]) (g := gTup K 2 (gCons (gName 10) (gCons (gName 7) gNil))) (tt := tYes) (by rfl) sc_hard_bit.nd (pi_list (pv 6))
        (blkOk_by (own := [("count", 10), ("bit", 7)]) (N := ["question", "lies", "told", "position", "counts", "known", "found", "bit", "way", "most", "count"]) (sc := defScope s_hard_bit) (by decide +kernel))
        (fun _ _ _ _ _ => pg_tup rfl (pgs_cons (pg_name (i := 10) sc_hard_bit.nd rfl (Or.inl rfl)) (pgs_cons (pg_name (i := 7) sc_hard_bit.nd rfl (Or.inl rfl)) pgs_nil))) (fun _ _ _ _ _ => pts_nil) (fun _ _ _ _ _ => pv 10)) pa_nil)))
      (pss_one (ps_ret (pe_ix (r := rIxL K) ix_list (pe_lc (own := [("count", 10), ("bit", 7)]) (g := gTup K 2 (gCons (gName 10) (gCons (gName 7) gNil))) (by rfl) sc_hard_bit.nd (pi_list (pv 6))
        (blkOk_by (own := [("count", 10), ("bit", 7)]) (N := ["question", "lies", "told", "position", "counts", "known", "found", "bit", "way", "most", "count"]) (sc := defScope s_hard_bit) (by decide +kernel))
        (fun _ _ _ _ _ => pg_tup rfl (pgs_cons (pg_name (i := 10) sc_hard_bit.nd rfl (Or.inl rfl)) (pgs_cons (pg_name (i := 7) sc_hard_bit.nd rfl (Or.inl rfl)) pgs_nil))) (fun _ _ _ _ _ => pts_one (pt_cmpR op_eq (pv 10) (pv 9) (nomark _))) (fun _ _ _ _ _ => pv 7)) pe_int (fun _ _ => rfl))))))))), ?_⟩
    obtain ⟨dx, fs, ad, kv, q1, q2, q3, q4, q5⟩ := id hq
    refine ⟨_, rfl, q, dx, fs, rfl, q1, q, dx, fs, _, rfl, q1, q2, _, rfl, _, rfl, n, l, t, ws, rfl, hn, hl, hT, hb, ho, fun c H2 e2 hc => ?_⟩
    refine ⟨_, rfl, _, rfl, q, dx, fs, rfl, e2 _ _ q1, q, dx, fs, _, rfl, e2 _ _ q1, q2, (p : Int), (n : Int), rfl, by omega, by omega, ?_⟩
    intro d hd
    obtain ⟨B, hB⟩ : ∃ B, B = upd H2 d (DN P w d []) := ⟨_, rfl⟩
    show gName 5 (V.ref d) _ (upd H2 d (DN P w d [])) _
    rw [← hB]
    have eB : Ex H2 B := by rw [hB]; exact Ex.new hd
    have dB : B d = some (DN P w d []) := by rw [hB, upd_same]
    have hd0 : H d = none := Evl.fresh_back e2 hd
    have e0B := e2.trans eB
    have hcl : (LM.cnt n ws).length = n := LM.cnt_len hb
    generalize hcs : LM.cnt n ws = cs at hc ho hcl k
    have hcB := hc.ex eB
    refine ⟨by show 0 ≤ sizeLine; exact Nat.zero_le _, fun F hF => ?_⟩
    obtain ⟨b0, hb0, hL0⟩ := LM.L_hard (f := g) hcl hpn ho
    let op : Bool → Bool := fun b => decide (LM.opn n l (LM.more cs p b) ≠ [])
    let zs : List Bool → List (Nat × Bool) := fun bs => (bs.filter op).map fun b => (LM.L g n l (LM.more cs p b), b)
    have zsn : ∀ bs b, zs (bs ++ [b]) = zs bs ++ (if op b = true then [(LM.L g n l (LM.more cs p b), b)] else []) := fun bs b => by
      show ((bs ++ [b]).filter op).map _ = _
      rw [List.filter_append, List.map_append, List.filter_cons]
      cases op b <;> rfl
    refine ⟨by show 2 ≤ sizeLine; decide, fun tp htp => ?_⟩
    have nFt : F ≠ tp := fun e => by rw [← e, upd_same] at htp; cases htp
    have x1 : Xd d B (upd (upd B F (.lst [])) tp (.tup [.int 0, .int 1])) := (Xd.of (Ex.new hF)).trans (Xd.of (Ex.new htp))
    have t1 : (upd (upd B F (.lst [])) tp (.tup [.int 0, .int 1])) tp = some (.tup [V.int (bi false), V.int (bi true)]) := by rw [upd_same]; rfl
    have F1 : (upd (upd B F (.lst [])) tp (.tup [.int 0, .int 1])) F = some (.lst []) := by rw [upd_ne nFt, upd_same]
    have m1 : Memo P w K d cs g n l (upd (upd B F (.lst [])) tp (.tup [.int 0, .int 1])) [] :=
      (Memo.new (by rw [upd_ne (fun e => by rw [← e] at hF; rw [dB] at hF; cases hF)]; exact dB)).ex (Ex.new htp)
    have isB : IsDN P w d B := ⟨_, dB⟩
    refine ⟨tp, rfl, ⟨_, .of upd_same⟩, ?_⟩
    refine for_tup (K := K) (xs := [V.int (bi false), V.int (bi true)]) (fun i σ H' => ∃ x7 x8, σ = [some (.ref q), some (.int (l : Int)), some (.ref t), some (.int (p : Int)), some (.ref c), some (.ref d), some (.ref F), x7, x8, none, none] ∧ Xd d B H' ∧
        H' tp = some (.tup [V.int (bi false), V.int (bi true)]) ∧ ∃ ps : List Addr, H' F = some (.lst (ps.map V.ref)) ∧ ps.length ≤ i ∧ Paired (fun a z => H' a = some (cellB z)) ps (zs ([false, true].take i)) ∧ ∃ ks, Memo P w K d cs g n l H' ks)
      ⟨none, none, rfl, x1, t1, [], F1, Nat.le_refl _, .nil, _, m1⟩ (fun i σ H' _ z => by
        obtain ⟨_, _, _, _, z, _⟩ := z
        exact .of z) ?_ ?_
    · rintro i x σ H3 hx ⟨x7, x8, rfl, x3, t3, ps, F3, hpl, hps, ks, m3⟩
      obtain ⟨b, rfl, hbi, hi⟩ : ∃ b, x = V.int (bi b) ∧ [false, true][i]? = some b ∧ i ≤ 1 := by
        match i, hx with
        | 0, h => exact ⟨false, (Option.some.inj h).symm, rfl, by omega⟩
        | 1, h => exact ⟨true, (Option.some.inj h).symm, rfl, by omega⟩
      have et : [false, true].take (i + 1) = [false, true].take i ++ [b] := by rw [List.take_add_one, hbi]; rfl
      refine ⟨_, rfl, _, rfl, _, rfl, c, cs, p, b, rfl, cnt_xd isB x3 hcB, by omega, by omega, fun cw H4 e4 hcw => ?_⟩
      have q4' := q_xd isB (x3.trans (Xd.of e4)) (hq.ex e0B)
      obtain ⟨dx4, fs4, ad4, kv4, r1, r2, r3, r4, r5⟩ := id q4'
      have hwl : (LM.more cs p b).length = n := by rw [LM.more_len (by omega)]; exact hcl
      refine ⟨_, rfl, q, dx4, fs4, rfl, r1, q, dx4, fs4, _, rfl, r1, r2, _, rfl, _, rfl, n, l, cw, _, rfl, hn, hwl, hcw, fun p5 H5 hp5 e5 h5 => ?_⟩
      have e35 := e4.trans e5
      refine ⟨p5, _, rfl, .inl (.of h5), _, _, rfl, rfl, _, rfl, ite2 (fun z => ?_) (fun z => ?_)⟩
      · have hop : LM.opn n l (LM.more cs p b) ≠ [] := fun e => by
          have z1 := of_decide_eq_true z
          rw [e] at z1
          exact absurd z1 (by decide)
        have m5 := m3.ex e35
        refine ⟨_, rfl, .inl ⟨rfl, _, .of (e35 _ _ F3)⟩, ?_⟩
        refine ⟨_, rfl, _, rfl, _, rfl, _, rfl, q, cw, d, n, l, g, LM.more cs p b, cs, ks, rfl, q4'.ex e5, hn, hl, hwl, hcw.ex e5, hop, box_first (by omega), m5, meas_le hn hl, fun H6 ks6 x6 m6 => ?_⟩
        have F6 := lst_xd m5.isd x6 (e35 _ _ F3)
        have t6 := tup_xd m5.isd x6 (e35 _ _ t3)
        have ps6 := Paired.mapP hps fun a z hz => tup_xd m5.isd x6 (e35 _ _ hz)
        refine ⟨_, rfl, by show 2 ≤ sizeLine; decide, fun r hr6 => ?_⟩
        have nFr : F ≠ r := ne_of_none F6 hr6
        refine ⟨F, _, _, rfl, rfl, by rw [upd_ne nFr]; exact F6, by rw [List.length_map]; exact small1000 (by omega), ?_⟩
        have x36 : Xd d B H6 := (x3.trans (Xd.of e35)).trans x6
        refine ⟨_, _, rfl, (x36.trans (Xd.of (Ex.new hr6))).mut hF, ?_, ps ++ [r], ?_, by rw [List.length_append, List.length_singleton]; omega, ?_, ks6, (m6.ex (Ex.new hr6)).lst (by rw [upd_ne nFr]; exact F6)⟩
        · rw [upd_ne (fun e => by rw [e, F6] at t6; cases t6), upd_ne (ne_of_none t6 hr6)]
          exact t6
        · rw [upd_same, List.map_append]
          rfl
        · rw [et, zsn, if_pos (decide_eq_true hop)]
          refine Paired.snoc (Paired.mapP ps6 fun a z hz => ?_) ?_
          · rw [upd_ne (fun e => by rw [e, F6] at hz; cases hz), upd_ne (ne_of_none hz hr6)]
            exact hz
          · rw [upd_ne nFr.symm, upd_same]
      · have hop : ¬ LM.opn n l (LM.more cs p b) ≠ [] := fun e => z (decide_eq_true (by
          have z1 := List.length_pos_iff.mpr e
          unfold txs
          rw [List.length_map]
          omega))
        refine ⟨_, _, rfl, x3.trans (Xd.of e35), e35 _ _ t3, ps, e35 _ _ F3, by omega, ?_, ks, m3.ex e35⟩
        rw [et, zsn, if_neg (fun h => hop (of_decide_eq_true h)), List.append_nil]
        exact Paired.mapP hps fun a z hz => e35 _ _ hz
    · rintro σ H3 ⟨x7, x8, rfl, x3, t3, ps, F3, hpl, hps, ks, m3⟩
      have e03 : Ex H H3 := x3.back e0B hd0
      have hzs : zs ([false, true].take [V.int (bi false), V.int (bi true)].length) = zs [false, true] := rfl
      rw [hzs] at hps
      have hpl2 : ps.length = (zs [false, true]).length := Paired.length hps
      have hz2 : (zs [false, true]).length ≤ 2 := by
        show (([false, true].filter op).map _).length ≤ 2
        rw [List.length_map]
        exact List.length_filter_le _ _
      have hmz : ∀ b, LM.opn n l (LM.more cs p b) ≠ [] → (LM.L g n l (LM.more cs p b), b) ∈ zs [false, true] := fun b hb => List.mem_map.mpr ⟨b, List.mem_filter.mpr ⟨by cases b <;> simp, decide_eq_true hb⟩, rfl⟩
      have hzm : ∀ z ∈ zs [false, true], LM.opn n l (LM.more cs p z.2) ≠ [] ∧ z.1 = LM.L g n l (LM.more cs p z.2) := fun z hz => by
        obtain ⟨b, hb, rfl⟩ := List.mem_map.mp hz
        exact ⟨of_decide_eq_true (List.mem_filter.mp hb).2, rfl⟩
      generalize zs [false, true] = zz at hps hpl2 hz2 hmz hzm
      refine ⟨_, rfl, F, rfl, ⟨_, .of F3⟩, fun D1 hD1 => ?_⟩
      refine lc_map (walk_list (xs := ps.map V.ref)) hD1 ((zz.map fun z => ((z.1 : Nat) : Int)).map V.int) (by rw [List.length_map, List.length_map, List.length_map, hpl2]) (by rw [List.length_map]; omega) (fun H4 e4 => .of (e4 _ _ F3)) ?_ ?_
      · rintro i x H4 H' Q2 hi e4 ⟨rfl, hx⟩ kk
        rw [List.getElem?_map] at hx
        obtain ⟨a, ha, rfl⟩ := Option.map_eq_some_iff.mp hx
        obtain ⟨z, hz, hcell⟩ := Paired.at hps ha
        refine ⟨a, _, rfl, .of (e4 _ _ hcell), rfl, _, _, rfl, _, _, rfl, rfl, rfl, _, rfl, kk _ _ (Evl.Ex.refl _) ?_⟩
        rw [List.getElem?_map, List.getElem?_map, hz]
        rfl
      · intro H4 e4 d4
        have hne : zz ≠ [] := fun e => by have := hmz b0 hb0; rw [e] at this; cases this
        refine ⟨D1, _, rfl, .of d4, by rw [List.length_map]; exact List.length_pos_iff.mpr hne, fun mx hmx hle => ?_⟩
        have F4 := e4 _ _ F3
        refine ⟨_, rfl, F, rfl, ⟨_, .of F4⟩, fun D2 hD2 => ?_⟩
        refine lc_filter (walk_list (xs := ps.map V.ref)) hD2 zz (fun z => V.int (bi z.2)) (fun z => decide (((z.1 : Nat) : Int) = mx)) (by rw [List.length_map, hpl2]) (by rw [List.length_map]; omega) (fun H5 e5 => .of (e5 _ _ F4)) ?_ ?_
        · rintro i x H5 H' z Q2 Qn hi e5 ⟨rfl, hx⟩ hz kk kn
          rw [List.getElem?_map] at hx
          obtain ⟨a, ha, rfl⟩ := Option.map_eq_some_iff.mp hx
          obtain ⟨z', hz', hcell⟩ := Paired.at hps ha
          obtain rfl : z' = z := by rw [hz] at hz'; exact (Option.some.inj hz').symm
          refine ⟨a, _, rfl, .of (e5 _ _ (e4 _ _ hcell)), rfl, _, _, rfl, _, _, rfl, rfl, rfl, ?_⟩
          refine ⟨_, rfl, _, rfl, rfl, _, rfl, ite2 (fun y => ?_) (fun y => ?_)⟩
          · exact ⟨_, rfl, kk _ _ (Evl.Ex.refl _) (decide_eq_true (V.int.inj (of_decide_eq_true y))) rfl⟩
          · exact kn _ (Evl.Ex.refl _) (decide_eq_false fun e => y (decide_eq_true (by rw [e])))
        · intro H5 e5 d5
          obtain ⟨z1, hz1, ez1⟩ := List.mem_map.mp hmx
          have hin : z1 ∈ zz.filter fun z => decide (((z.1 : Nat) : Int) = mx) := List.mem_filter.mpr ⟨hz1, decide_eq_true ez1⟩
          cases hf : zz.filter (fun z => decide (((z.1 : Nat) : Int) = mx)) with
          | nil => rw [hf] at hin; cases hin
          | cons z r =>
            rw [hf] at d5
            have hzf : z ∈ zz.filter fun z => decide (((z.1 : Nat) : Int) = mx) := by rw [hf]; exact List.mem_cons_self
            obtain ⟨hz, ez⟩ := List.mem_filter.mp hzf
            have ez := of_decide_eq_true ez
            obtain ⟨ho2, eL⟩ := hzm z hz
            refine ⟨D2, _, 0, .int (bi z.2), rfl, rfl, .of d5, atI_nat (j := 0) rfl, k z.2 H5 ((e03.trans e4).trans e5) ho2 fun b' hb' => ?_⟩
            have := hle _ (List.mem_map.mpr ⟨_, hmz b' hb', rfl⟩)
            rw [← eL]
            rw [← ez] at this
            exact Int.ofNat_le.mp this
end
end LL

/-! Leastlooks: is_table, a question is made. -/
namespace LL
open PySem PySem.Spec PyProof.Rows L2
open Evl (Ex RetV RetL)
/-- tuple.index, flat items -/
def rIndexT (K : PySem.W.Frag) : V → List V → Hp → VK → Prop := fun x xs H Q => ∃ (a : Addr) (ys : List V) (y : V) (j : Nat) (z : V), x = V.ref a ∧ xs = [y] ∧ SqT K H a ys ∧ flatV y = true ∧ ys.all flatV = true ∧ ys[j]? = some z ∧ eqV z y = true ∧
  (∀ (m : Nat) (z' : V), m < j → ys[m]? = some z' → eqV z' y = false) ∧ Q (.int (j : Nat)) H
theorem mt_indexT {X : Cx} : MtR X "tuple.index" (rIndexT X.K) := by
  intro pins s σ H x xs v us Q I rx rxs h
  obtain ⟨p, ys, y, j, z, rfl, rfl, hq, fy, fys, hz, hzj, hno, q⟩ := h
  obtain rfl : v = Value.ref p := rx
  obtain ⟨uy, rfl, ry⟩ := vals1 rxs
  obtain ⟨its, rv, ⟨⟨cls, dd, dt, sl⟩, ho, hc, n, hd⟩, _⟩ := I.tuple hq
  simp only at hc hd
  subst hc hd
  have hvl := rv.length
  have hj0 : j < ys.length := (List.getElem?_eq_some_iff.mp hz).1
  have hj : j < its.toArray.size := by rw [List.size_toArray]; omega
  have at2 : ∀ (m : Nat) (hm : m < its.toArray.size), ∃ y', ys[m]? = some y' ∧ RelV y' its.toArray[m] := fun m hm => by
    have hm' : m < ys.length := by rw [List.size_toArray] at hm; omega
    obtain ⟨u, hu, ru⟩ := rv.get (i := m) (List.getElem?_eq_getElem hm')
    refine ⟨ys[m], List.getElem?_eq_getElem hm', ?_⟩
    have e := (List.getElem?_eq_some_iff.mp hu).2
    have e2 : its.toArray[m] = u := by rw [← e]; simp
    rw [e2]
    exact ru
  refine call_meets PySem.F.slot_tuple_index ⟨_, ho, rfl⟩ PySem.F.entry_tuple_index (PySem.F.args_tuple_index_2 _ _) (TI.tuple_indexAt p its.toArray n dd sl uy (eqU y) j hj ?_ ?_)
    ⟨ho, fun u' hu' => mem_eqAt ry fy rv fys u' (by simpa using hu'), ⟨.int (j : Nat), H, I.tok _, ⟨_, rfl⟩, q⟩⟩
  · obtain ⟨y', h1, h2⟩ := at2 j hj
    rw [eqU_of h2 (flat_at fys h1)]
    rw [hz] at h1
    rw [← Option.some.inj h1]
    exact hzj
  · intro m hm hmj
    obtain ⟨y', h1, h2⟩ := at2 m hm
    rw [eqU_of h2 (flat_at fys h1)]
    exact hno m y' hmj h1
/-- a global that is a tuple -/
theorem pe_gr {X : Cx} {x : Str} {a : Addr} {pos : Pos} (h : X.mg x = some (.ref a)) (hg : Gl X x := by rfl) (hd : (x == ("__debug__" : Str)) = false := by decide) : PE X (.Name x pos) (tC (.ref a)) := pe_glob hg h rfl hd
abbrev sizes7 : List V := [.int 1, .int 2, .int 4, .int 8, .int 16, .int 32, .int 64]
theorem sz_in {n : Nat} (h : n ≤ 3) : inV (.int ((2 ^ n : Nat) : Int)) sizes7 = true := by
  match n, h with
  | 0, _ => rfl
  | 1, _ => rfl
  | 2, _ => rfl
  | 3, _ => rfl
theorem sz_at {n : Nat} (h : n ≤ 3) : sizes7[n]? = some (.int ((2 ^ n : Nat) : Int)) ∧ ∀ (m : Nat) (z' : V), m < n → sizes7[m]? = some z' → eqV z' (.int ((2 ^ n : Nat) : Int)) = false := by
  match n, h with
  | 0, _ => exact ⟨rfl, fun m z' hm => absurd hm (Nat.not_lt_zero _)⟩
  | 1, _ =>
    refine ⟨rfl, fun m z' hm hz => ?_⟩
    match m, hm, hz with
    | 0, _, hz => obtain rfl := Option.some.inj hz; rfl
  | 2, _ =>
    refine ⟨rfl, fun m z' hm hz => ?_⟩
    match m, hm, hz with
    | 0, _, hz => obtain rfl := Option.some.inj hz; rfl
    | 1, _, hz => obtain rfl := Option.some.inj hz; rfl
  | 3, _ =>
    refine ⟨rfl, fun m z' hm hz => ?_⟩
    match m, hm, hz with
    | 0, _, hz => obtain rfl := Option.some.inj hz; rfl
    | 1, _, hz => obtain rfl := Option.some.inj hz; rfl
    | 2, _, hz => obtain rfl := Option.some.inj hz; rfl
/-! ### the dict of answers -/
abbrev prs (n : Nat) (tb : List Bool) : List (List Bool × Bool) := (LM.ins n).zip tb
def dkv (ps : List (List Bool × Bool)) : List (Key × V) := ps.foldl (fun acc p => putK acc (.inr (tx p.1)) (.int (bi p.2))) []
/-- a table as a function -/
def fT (n : Nat) (tb : List Bool) (bs : List Bool) : Bool := tb.getD ((LM.ins n).idxOf bs) false
theorem dkv_snoc {ps : List (List Bool × Bool)} {p : List Bool × Bool} : dkv (ps ++ [p]) = putK (dkv ps) (.inr (tx p.1)) (.int (bi p.2)) := by
  unfold dkv
  rw [List.foldl_append]
  rfl
theorem dkv_len (ps : List (List Bool × Bool)) : (dkv ps).length ≤ ps.length := by
  have key : ∀ (ps : List (List Bool × Bool)) (acc : List (Key × V)), (ps.foldl (fun acc p => putK acc (.inr (tx p.1)) (.int (bi p.2))) acc).length ≤ acc.length + ps.length := by
    intro ps
    induction ps with
    | nil => intro acc; exact Nat.le_refl _
    | cons p r ih =>
      intro acc
      have h1 := ih (putK acc (.inr (tx p.1)) (.int (bi p.2)))
      have h2 := length_putK acc (.inr (tx p.1)) (.int (bi p.2))
      rw [List.foldl_cons, List.length_cons]
      omega
  have := key ps []
  simpa [dkv] using this
theorem dkv_val {t : List Bool} {b : Bool} {ps : List (List Bool × Bool)} (hu : ∀ p ∈ ps, p.1 = t → p.2 = b) (hm : ∃ p ∈ ps, p.1 = t) : valV (dkv ps) (.inr (tx t)) = some (.int (bi b)) := by
  have key : ∀ (ps : List (List Bool × Bool)) (acc : List (Key × V)), (∀ p ∈ ps, p.1 = t → p.2 = b) → ((∃ p ∈ ps, p.1 = t) ∨ valV acc (.inr (tx t)) = some (.int (bi b))) →
      valV (ps.foldl (fun acc p => putK acc (.inr (tx p.1)) (.int (bi p.2))) acc) (.inr (tx t)) = some (.int (bi b)) := by
    intro ps
    induction ps with
    | nil =>
      intro acc _ h
      rcases h with ⟨p, hp, _⟩ | h
      · cases hp
      · exact h
    | cons p r ih =>
      intro acc hu h
      refine ih _ (fun q hq => hu q (List.mem_cons_of_mem _ hq)) ?_
      rw [valV_put]
      by_cases e : p.1 = t
      · right
        rw [e, if_pos rfl, hu p List.mem_cons_self e]
      · rcases h with ⟨q, hq, eq⟩ | h
        · rcases List.mem_cons.mp hq with e2 | hq
          · exact absurd (by rw [← e2]; exact eq) e
          · exact .inl ⟨q, hq, eq⟩
        · right
          rw [if_neg (fun z => e (tx_inj (Sum.inr.inj z)).symm)]
          exact h
  exact key ps [] hu (.inl hm)
theorem ins_nodup : ∀ n, (LM.ins n).Nodup
  | 0 => by decide
  | n + 1 => by
    have ih := ins_nodup n
    show ((LM.ins n).flatMap fun t => [t ++ [false], t ++ [true]]).Nodup
    have key : ∀ l : List (List Bool), l.Nodup → (l.flatMap fun t => [t ++ [false], t ++ [true]]).Nodup := by
      intro l
      induction l with
      | nil => intro _; exact List.nodup_nil
      | cons a r ihr =>
        intro nd
        obtain ⟨h1, h2⟩ := List.nodup_cons.mp nd
        rw [List.flatMap_cons]
        refine List.nodup_append.mpr ⟨by simp, ihr h2, fun x hx y hy e => ?_⟩
        obtain ⟨z, hz, hy⟩ := List.mem_flatMap.mp hy
        have hx' : x = a ++ [false] ∨ x = a ++ [true] := by simpa using hx
        have hy' : y = z ++ [false] ∨ y = z ++ [true] := by simpa using hy
        have : a = z := by
          rcases hx' with h | h <;> rcases hy' with h' | h' <;> rw [h, h'] at e <;> first | exact (List.append_inj' e rfl).1
        exact h1 (this ▸ hz)
    exact key _ ih
theorem prs_val {n : Nat} {tb : List Bool} (hl : tb.length = 2 ^ n) {bs : List Bool} (hb : bs.length = n) : valV (dkv (prs n tb)) (.inr (tx bs)) = some (.int (bi (fT n tb bs))) := by
  have hm : bs ∈ LM.ins n := (LM.mem_ins n bs).mpr hb
  have hi : (LM.ins n).idxOf bs < (LM.ins n).length := List.idxOf_lt_length_iff.mpr hm
  have hlen := ins_len n
  have hb2 : (LM.ins n).idxOf bs < tb.length := by omega
  have e1 : (LM.ins n)[(LM.ins n).idxOf bs] = bs := List.getElem_idxOf hi
  have e2 : fT n tb bs = tb[(LM.ins n).idxOf bs] := by
    unfold fT
    rw [List.getD_eq_getElem?_getD, List.getElem?_eq_getElem hb2]
    rfl
  refine dkv_val (fun p hp e => ?_) ⟨(bs, fT n tb bs), ?_, rfl⟩
  · obtain ⟨i, hi2, ei⟩ := List.mem_iff_getElem.mp hp
    have hi3 : i < (LM.ins n).length := by rw [List.length_zip] at hi2; omega
    rw [List.getElem_zip] at ei
    have e3 : (LM.ins n)[i] = bs := by rw [← e, ← ei]
    have e4 : i = (LM.ins n).idxOf bs := by
      rw [← e3]
      exact (List.Nodup.idxOf_getElem (ins_nodup n) i hi3).symm
    rw [← ei, e2]
    simp only [e4]
  · rw [List.mem_iff_getElem]
    refine ⟨(LM.ins n).idxOf bs, by rw [List.length_zip]; omega, ?_⟩
    rw [List.getElem_zip, e1, e2]
end LL

/-! Leastlooks: is_table, Question.__init__. -/
namespace LL
open PySem PySem.Spec PyProof.Rows L2
open Evl (Ex RetV RetL)
theorem dc_ex {J : It} {n : Nat} {G : Hp → Prop} {Y : Nat → Hp → V → Hp → Prop} {g : TG} {tk tv : TE} {vs : List Nat} {σ : L2.St} {H1 : Hp} {D : Addr} {Qd : Hp → Prop} (w : Walk J n G Y) (hD : H1 D = none) (kv : Nat → List (Key × V)) (h0 : kv 0 = []) (hz : ∀ i, i ≤ n → (kv i).length ≤ 100000) (hG : ∀ H, Ex H1 H → G H)
    (hs : ∀ i x H H' (Q : V → V → Hp → Prop), i < n → Ex H1 H → Y i H x H' → (∀ k y H5, Ex H H5 → kv (i + 1) = putK (kv i) k y → Q (kV k) y H5) → g x (wipe σ vs) H' fun σ2 H2 => wipe σ2 vs = wipe σ vs ∧ tk σ2 H2 fun y H4 => tv σ2 H4 fun z H5 => Q y z H5)
    (hd : ∀ H, Ex H1 H → H D = some (.dK (kv n)) → Qd H) :
    ∃ W : Nat → Nat → Hp → Prop, (∃ m, W 0 m (upd H1 D (.dK []))) ∧ ∀ i m H, W i m H →
      (J.stop i H ∧ Qd H) ∨ (J.go i H ∧ ∃ Nx : Hp → Prop, (∀ H', Nx H' → ∃ m', m' < m ∧ W (i + 1) m' H') ∧ ∀ x H', J.yld i H x H' → g x (wipe σ vs) H' fun σ2 H2 => wipe σ2 vs = wipe σ vs ∧ tYes σ2 H2 fun b H3 =>
        if b = true then tk σ2 H3 fun y H4 => tv σ2 H4 fun z H5 => ∃ kvs k, y = kV k ∧ H5 D = some (.dK kvs) ∧ kvs.length < sizeLine ∧ Nx (upd H5 D (.dK (putK kvs k z))) else Nx H3) := by
  refine ⟨fun i m H => m = n - i ∧ i ≤ n ∧ Ex H1 H ∧ H D = some (.dK (kv i)), ⟨n, rfl, Nat.zero_le _, Evl.Ex.new hD, by rw [upd_same, h0]⟩, ?_⟩
  rintro i m H ⟨rfl, hi, e, d⟩
  by_cases hlt : i < n
  · refine .inr ⟨w.goes i H hlt (hG H e), fun H' => Ex H1 H' ∧ H' D = some (.dK (kv (i + 1))), fun H' p' => ⟨n - (i + 1), by omega, rfl, hlt, p'⟩, fun x H' y => ?_⟩
    refine hs i x H H' _ hlt e (w.yields i H x H' hlt (hG H e) y) fun k z H5 e5 ek => ⟨kv i, k, rfl, e5 _ _ d, ?_, (e.trans e5).mut hD, ?_⟩
    · exact Nat.lt_of_le_of_lt (hz i hi) (by decide)
    · rw [upd_same, ek]
  · have ei : i = n := by omega
    subst ei
    exact .inl ⟨w.stops H (hG H e), hd H e d⟩
theorem pe_fldK {X : Cx} {K : PySem.W.Frag} {e : Expr} {ta : TE} {f : Str} {pos : Pos} (hK : X.K = K) (he : PE X e ta) (hb : attributeBase e f X.env (eval e X.env) = eval e X.env) : PE X (.Attribute e f pos) (tFld K ta f) := by
  subst hK
  exact pe_fld he hb
theorem putF_len (f : Str) (v : V) : ∀ fs : List (Str × V), (putF f v fs).length ≤ fs.length + 1
  | [] => Nat.le_refl _
  | (g, x) :: r => by
    have ih := putF_len f v r
    unfold putF
    split
    · rw [List.length_cons, List.length_cons]; omega
    · rw [List.length_cons, List.length_cons]; omega
section
variable {P : Program} {w : World} {K : PySem.W.Frag} {mg : Str → Option Value} {base : Heap}
def sp_is_table : Sp := fun vs H Q _ => ∃ (n : Nat) (tb : List Bool), vs = [.str (tx tb)] ∧ n ≤ 3 ∧ tb.length = 2 ^ n ∧ RetV (.bl true) H Q
theorem ok_is_table (D : DfM K mg "is_table" s_is_table) (G : Gs K mg) : Ct P w K mg base 1 "is_table" sp_is_table := by
  refine ct_of D sc_is_table (fun vs H Q E h => ?_) (fun _ _ _ _ _ _ us hl => match us, hl with | [_], _ => rfl) (fun f cdv A outer s H vs Q E hr h => ?_)
  · obtain ⟨_, _, rfl, _⟩ := h
    rfl
  · obtain ⟨n, t, rfl, hn, hl, q⟩ := h
    obtain ⟨aS, gS, hS, _⟩ := G.SIZES
    have h8 : t.length ≤ 8 := by rw [hl]; exact Nat.pow_le_pow_right (by decide) hn
    refine ⟨_, pss_one (ps_ret (pe_and (pe_callB call_isi (by rfl) G.isi boot_isinstance (pa_cons (pv 0) (pa_cons (pe_bltn (v := .ty "str") (by rfl) G.str boot_str rfl) pa_nil)))
      (pe_and (pe_cmpR op_in_seq (pe_callB call_len_str (by rfl) G.len boot_len (pa_cons (pv 0) pa_nil)) (pe_gr gS) (by rfl))
      (pe_one (pe_callB (cr_all rfl) (by rfl) G.all boot_all (pa_cons (pe_lc (own := [("sign", 1)]) (g := gName 1) (tt := tYes) (by rfl) sc_is_table.nd (pi_str (pv 0)) (blkOk_by (own := [("sign", 1)]) (N := ["value", "sign"]) (sc := defScope s_is_table) (by decide +kernel))
        (fun _ _ _ _ _ => pg_name (i := 1) sc_is_table.nd rfl (Or.inl rfl)) (fun _ _ _ _ _ => pts_nil) (fun _ _ _ _ _ => pe_cmpR op_in_sign (pv 1) (pe_gs G.BITS) (by rfl))) pa_nil)))))), ?_⟩
    refine ⟨_, rfl, _, _, _, _, true, rfl, .ty "str", .base (.str _), kit_ty (by decide +kernel), true, rfl, iteT ?_⟩
    refine ⟨_, rfl, tx t, rfl, line_tx (by omega), aS, _, rfl, .inr (hS H), rfl, rfl, true, ?_, iteT ?_⟩
    · show V.bl (inV (.int ((tx t).length : Int)) sizes7) = _
      rw [tx_len, hl, sz_in hn]
    · refine ⟨_, rfl, tx t, rfl, fun D0 hD => ?_⟩
      refine lc_map (walk_str (z := tx t)) hD ((t.map fun _ => true).map V.bl) (by rw [List.length_map, List.length_map]; exact (tx_len t).symm) (Nat.le_trans (Nat.le_of_eq (tx_len t)) (by omega)) (fun _ _ => trivial) (fun i x H2 H3 Q2 hi e2 y k => ?_) fun H2 e2 d => ?_
      · obtain ⟨rfl, c, hc, rfl⟩ := y
        refine ⟨rfl, _, rfl, c, "01", rfl, rfl, k _ _ (Evl.Ex.refl _) ?_⟩
        have hi2 : i < t.length := Nat.lt_of_lt_of_eq hi (tx_len t)
        rw [List.getElem?_map, List.getElem?_map, List.getElem?_eq_getElem hi2]
        have ec : c = cd t[i] := by
          have h1 : (tx t).cps.toList[i]? = some c := by rw [Array.getElem?_toList]; exact hc
          rw [tx_codes, List.getElem?_map, List.getElem?_eq_getElem hi2] at h1
          exact (Option.some.inj h1).symm
        rw [ec]
        cases t[i] <;> decide +kernel
      · refine ⟨D0, _, rfl, .of d, ?_⟩
        have ea : ((t.map fun _ => true).all id) = true := by simp
        rw [ea]
        exact q H2 e2
/-- Question's __init__ keeps a promise -/
def CtI (P : Program) (w : World) (K : PySem.W.Frag) (mg : Str → Option Value) (base : Heap) (C : Addr) (k : Nat) (sp : Sp) : Prop := ∃ g, mg "Question" = some (.ref C) ∧ Mk K C g ∧ FnR P w K mg base CX0 k g sp
def sp_q_init (C : Addr) : Sp := fun vs H Q _ => ∃ (x dx : Addr) (n : Nat) (tb : List Bool), vs = [.ref x, .str (tx tb)] ∧ n ≤ 3 ∧ tb.length = 2 ^ n ∧ H x = some (.ins C dx []) ∧ ∀ H2, Xd x H H2 → QAt C H2 x n (fT n tb) → Q .non H2
theorem ok_q_init {C : Addr} (D : ∃ g, mg "Question" = some (.ref C) ∧ Mk K C g ∧ Df K mg "__init__" "Question.__init__" s_q_init [] g) (G : Gs K mg) (q0 : QC K C) (C1 : Ct P w K mg base 3 "is_table" sp_is_table) (C2 : Ct P w K mg base 3 "inputs" sp_inputs) : CtI P w K mg base C 4 (sp_q_init C) := by
  obtain ⟨g, hC, hM, fd, F⟩ := D
  refine ⟨g, hC, hM, fn_by F sc_q_init (fun vs H Q E h => ?_) (fun _ _ _ _ _ _ us hl => match us, hl with | [_, _], _ => rfl) (fun cdv A outer s H vs Q E hr h => ?_)⟩
  · obtain ⟨_, _, _, _, rfl, _⟩ := h
    rfl
  · obtain ⟨x, dx, n, tb, rfl, hn, hl, hx, k⟩ := h
    obtain ⟨aS, gS, hS, oS, kS, cS, dS⟩ := G.SIZES
    have h8 : tb.length ≤ 8 := by rw [hl]; exact Nat.pow_le_pow_right (by decide) hn
    refine ⟨_, pss_cons (ps_if (pt_not (pt_val (pe_ct C1 hr (by rfl) (pa_cons (pv 1) pa_nil)))) (pss_one ps_never) pss_nil)
      (pss_cons (ps_fld (pv 0) (pv 1) (by rfl))
      (pss_cons (ps_fld (pv 0) (pe_bm PySem.F.plainAttrs_tuple PySem.F.slot_tuple_index PySem.F.type_tuple_index mt_indexT (pe_gr gS) (pa_cons (pe_callB call_len_str (by rfl) G.len boot_len (pa_cons (pv 1) pa_nil)) pa_nil)) (by rfl))
      (pss_cons (ps_fld (pv 0) (pe_dc (own := [("text", 2), ("sign", 3)]) (g := gTup K 2 (gCons (gName 2) (gCons (gName 3) gNil))) (tt := tYes) (by rfl) sc_q_init.nd (pi_zipS (by rfl) G.zip (pa_cons (pe_ct C2 hr (by rfl) (pa_cons (pe_fld (pv 0) rfl) pa_nil)) (pa_cons (pv 1) pa_nil)))
          (blkOk_by (own := [("text", 2), ("sign", 3)]) (N := ["self", "table", "text", "sign"]) (sc := defScope s_q_init) (by decide +kernel))
          (fun _ _ _ _ _ => pg_tup rfl (pgs_cons (pg_name (i := 2) sc_q_init.nd rfl (Or.inl rfl)) (pgs_cons (pg_name (i := 3) sc_q_init.nd rfl (Or.inl rfl)) pgs_nil))) (fun _ _ _ _ _ => pts_nil) (fun _ _ _ _ _ => pv 2)
          (fun _ _ _ _ _ => pe_callTy call_int_str (by rfl) G.int boot_int (pa_cons (pv 3) pa_nil))) (by rfl))
      (pss_one (ps_fld (pv 0) (pe_lc (own := [("text", 2)]) (g := gName 2) (by rfl) sc_q_init.nd (pi_list (pe_ct C2 hr (by rfl) (pa_cons (pe_fld (pv 0) rfl) pa_nil)))
          (blkOk_by (own := [("text", 2)]) (N := ["self", "table", "text", "sign"]) (sc := defScope s_q_init) (by decide +kernel)) (fun _ _ _ _ _ => pg_name (i := 2) sc_q_init.nd rfl (Or.inl rfl))
          (fun _ _ _ _ _ => pts_one (pt_cmpR op_eq (pe_dget (u1 hr) (pe_fldK (K := K) rfl (pv 0) rfl) (pv 2) (fun _ _ => rfl)) pe_int (nomark _))) (fun _ _ _ _ _ => pv 2)) (by rfl)))))), ?_⟩
    refine ⟨_, rfl, n, tb, rfl, hn, hl, fun H1 e1 => ⟨true, rfl, iteF ?_⟩⟩
    have hx1 := e1 _ _ hx
    obtain ⟨F1, hF1⟩ : ∃ F1, F1 = putF "kept_table" (V.str (tx tb)) [] := ⟨_, rfl⟩
    obtain ⟨F2, hF2⟩ : ∃ F2, F2 = putF "kept_many" (V.int (n : Nat)) F1 := ⟨_, rfl⟩
    have l1 : F1.length ≤ 1 := by rw [hF1]; exact putF_len _ _ _
    have l2 : F2.length ≤ 2 := by rw [hF2]; have := putF_len "kept_many" (V.int (n : Nat)) F1; omega
    have m2 : F2.lookup ("kept_many" : Str) = some (V.int (n : Nat)) := by rw [hF2, lookup_putF, if_pos rfl]
    refine ⟨_, rfl, _, rfl, x, C, dx, [], rfl, hx1, q0.cls, q0.nT, by decide, ?_⟩
    rw [← hF1]
    refine ⟨.inr (.inl ⟨rfl, oS, kS, cS, dS⟩), _, rfl, tx tb, rfl, line_tx (by omega), aS, sizes7, .int ((2 ^ n : Nat) : Int), n, .int ((2 ^ n : Nat) : Int), rfl, by rw [tx_len, hl], hS _, rfl, rfl, (sz_at hn).1, ?_, (sz_at hn).2, ?_⟩
    · show decide _ = true
      exact decide_eq_true rfl
    refine ⟨_, rfl, x, C, dx, F1, rfl, upd_same, q0.cls, q0.nM, by omega, ?_⟩
    rw [← hF2]
    obtain ⟨H3, hH3⟩ : ∃ H3, H3 = upd (upd H1 x (.ins C dx F1)) x (.ins C dx F2) := ⟨_, rfl⟩
    have x3 : Xd x H H3 := by rw [hH3]; exact ((Xd.of e1).trans .put).trans .put
    have h3 : H3 x = some (.ins C dx F2) := by rw [hH3, upd_same]
    rw [← hH3]
    refine ⟨_, rfl, x, C, dx, F2, _, rfl, h3, q0.cls, q0.nM, m2, n, rfl, hn, fun p H4 hp e4 h4 => ?_⟩
    refine ⟨_, rfl, .lst p, .txt (tx tb), txs (LM.ins n), signsV (tx tb), rfl, .of h4, rfl, fun D hD => ?_⟩
    have hil := ins_len n
    have hpl : (prs n tb).length = 2 ^ n := by rw [List.length_zip, hil, hl]; exact Nat.min_self _
    have nxp : ∀ {a}, H4 a = none → x ≠ a := fun ha => ne_of_none (e4 _ _ h3) ha
    refine dc_ex (walk_zipS (n := 2 ^ n) (by unfold txs; rw [List.length_map]; exact hil) (by rw [signs_len]; exact hl)) hD (fun i => dkv ((prs n tb).take i)) rfl (fun i _ => Nat.le_trans (dkv_len _) (by rw [List.length_take]; omega)) (fun H5 e5 => ⟨.of (e5 _ _ h4), rfl⟩) ?_ ?_
    · rintro i v H5 H' Q2 hi e5 ⟨T, x1, y1, rfl, hT, rfl, g1, g2⟩ kk
      have hi2 : i < tb.length := by omega
      have hi3 : i < (LM.ins n).length := by omega
      have g1 : (txs (LM.ins n))[i]? = some x1 := g1
      unfold txs at g1
      rw [List.getElem?_map, List.getElem?_eq_getElem hi3] at g1
      obtain rfl := Option.some.inj g1
      have g2 : (signsV (tx tb))[i]? = some y1 := g2
      rw [signs_at hi2] at g2
      obtain rfl := Option.some.inj g2
      have eT := Evl.Ex.new (o := .tup [.str (tx (LM.ins n)[i]), .str ⟨#[cd tb[i]]⟩]) hT
      refine ⟨T, _, rfl, .of upd_same, rfl, _, _, rfl, _, _, rfl, rfl, rfl, ?_⟩
      refine ⟨_, rfl, _, rfl, ⟨#[cd tb[i]]⟩, bi tb[i], rfl, int_sign _, by show 1 ≤ 640; decide, kk (.inr (tx (LM.ins n)[i])) _ _ eT ?_⟩
      have ep : (prs n tb)[i]? = some ((LM.ins n)[i], tb[i]) := by
        rw [List.getElem?_eq_getElem (by omega), List.getElem_zip]
      rw [List.take_add_one, ep]
      exact dkv_snoc
    · intro H5 e5 d5
      have d5 : H5 D = some (.dK (dkv (prs n tb))) := by
        rw [d5, List.take_of_length_le (by omega)]
      have h5 := e5 _ _ (e4 _ _ h3)
      obtain ⟨F3, hF3⟩ : ∃ F3, F3 = putF "answer_of" (V.ref D) F2 := ⟨_, rfl⟩
      have l3 : F3.length ≤ 3 := by rw [hF3]; have := putF_len "answer_of" (V.ref D) F2; omega
      have a3 : F3.lookup ("answer_of" : Str) = some (V.ref D) := by rw [hF3, lookup_putF, if_pos rfl]
      have m3 : F3.lookup ("kept_many" : Str) = some (V.int (n : Nat)) := by rw [hF3, lookup_putF, if_neg (by decide)]; exact m2
      refine ⟨_, rfl, x, C, dx, F2, rfl, h5, q0.cls, q0.nA, by omega, ?_⟩
      rw [← hF3]
      have nxD : x ≠ D := nxp hD
      obtain ⟨H6, hH6⟩ : ∃ H6, H6 = upd H5 x (.ins C dx F3) := ⟨_, rfl⟩
      have x6 : Xd x H H6 := by rw [hH6]; exact ((x3.trans (Xd.of e4)).trans (Xd.of e5)).trans .put
      have h6 : H6 x = some (.ins C dx F3) := by rw [hH6, upd_same]
      have d6 : H6 D = some (.dK (dkv (prs n tb))) := by rw [hH6, upd_ne nxD.symm]; exact d5
      rw [← hH6]
      refine ⟨_, rfl, x, C, dx, F3, _, rfl, h6, q0.cls, q0.nM, m3, n, rfl, hn, fun p7 H7 hp7 e7 h7 => ⟨p7, rfl, ⟨_, .of h7⟩, fun L hL => ?_⟩⟩
      have h7x := e7 _ _ h6
      have d7 := e7 _ _ d6
      refine lc_filter (walk_list (xs := txs (LM.ins n))) hL (LM.ins n) (fun t => V.str (tx t)) (fun t => fT n tb t) (by unfold txs; rw [List.length_map]) (by unfold txs; rw [List.length_map]; exact Nat.le_trans (ins_small hn) (by decide)) (fun H8 e8 => .of (e8 _ _ h7)) ?_ ?_
      · rintro i v H8 H' t Q2 Qn hi e8 ⟨rfl, hv⟩ ht kk kn
        unfold txs at hv
        rw [List.getElem?_map, ht] at hv
        obtain rfl := Option.some.inj hv
        have htl : t.length = n := (LM.mem_ins n t).mp (List.mem_of_getElem? ht)
        refine ⟨rfl, _, rfl, x, C, dx, F3, _, rfl, e8 _ _ h7x, q0.cls, q0.nA, a3, _, rfl, D, .int (bi (fT n tb t)), rfl, ?_, rfl, _, rfl, ite2 (fun z => ?_) (fun z => ?_)⟩
        · rw [← prs_val hl htl]
          exact DGet.k (k := .inr (tx t)) (e8 _ _ d7)
        · refine ⟨_, rfl, kk _ _ (Evl.Ex.refl _) ?_ rfl⟩
          have := V.int.inj (of_decide_eq_true z)
          cases hft : fT n tb t with
          | true => rfl
          | false => rw [hft] at this; cases this
        · refine kn _ (Evl.Ex.refl _) ?_
          cases hft : fT n tb t with
          | false => rfl
          | true => exact absurd (decide_eq_true (by rw [hft]; rfl)) z
      · intro H8 e8 d8
        have h8x := e8 _ _ h7x
        refine ⟨_, rfl, x, C, dx, F3, rfl, h8x, q0.cls, q0.nY, by omega, k _ (((x6.trans (Xd.of e7)).trans (Xd.of e8)).trans .put) ⟨dx, _, D, _, upd_same, ?_, ?_, ?_, fun bs hb => prs_val hl hb⟩⟩
        · rw [lookup_putF, if_neg (by decide)]
          exact m3
        · rw [lookup_putF, if_neg (by decide)]
          exact a3
        · rw [upd_ne nxD.symm]
          exact e8 _ _ d7
end
end LL

/-! Leastlooks, the law's helpers: a list against [], the bag, a draw. -/
namespace LL
open PySem PySem.Spec PyProof.Rows L2
open Evl (Ex RetV RetL)
/-! ### a list against an empty one -/
inductive Fl : V → PyData → Prop
  | int (i : Int) : Fl (.int i) (.int i)
  | tx (t : List Bool) : Fl (.str (tx t)) (.str (tx t))
theorem tx_ok (t : List Bool) : PyData.strOk (tx t) = true := by
  show ((t.map cd).toArray.all (· < 0x110000)) = true
  rw [List.all_toArray, List.all_map, List.all_eq_true]
  intro b _
  cases b <;> rfl
theorem fl_all {K : PySem.W.Frag} {H : Hp} : ∀ {xs : List V}, (∀ x ∈ xs, ∃ d, Fl x d) → ∃ ds, DpAll K H xs ds ∧ PyData.canLayAll0 ds = true ∧ PyData.depthAll ds = 0 ∧ ds.length = xs.length
  | [], _ => ⟨[], .nil, rfl, rfl, rfl⟩
  | x :: xs, h => by
    obtain ⟨ds, h1, h2, h3, h4⟩ := fl_all (K := K) (H := H) fun y hy => h y (List.mem_cons_of_mem _ hy)
    obtain ⟨d, hd⟩ := h x List.mem_cons_self
    refine ⟨d :: ds, .cons ?_ h1, ?_, ?_, by rw [List.length_cons, List.length_cons, h4]⟩
    · cases hd
      · exact .int _
      · exact .str _
    · show (PyData.canLay0 d && PyData.canLayAll0 ds) = true
      rw [h2, Bool.and_true]
      cases hd
      · rfl
      · exact tx_ok _
    · show max (PyData.depth d) (PyData.depthAll ds) = 0
      rw [h3]
      cases hd <;> rfl
def rEmp (K : PySem.W.Frag) (neg : Bool) : R2 := fun x y H Q => ∃ a b xs, x = .ref a ∧ y = .ref b ∧ SqL K H a xs ∧ SqL K H b [] ∧ (∀ x ∈ xs, ∃ d, Fl x d) ∧ Q (.bl (if neg then !xs.isEmpty else xs.isEmpty)) H
theorem emp_dp {K : PySem.W.Frag} {H : Hp} {a : Addr} {xs : List V} (h : SqL K H a xs) (f : ∀ x ∈ xs, ∃ d, Fl x d) : ∃ d, Dp K H (.ref a) d ∧ SeqAt.shaped d = true ∧ PyData.eqv d (.list []) = xs.isEmpty := by
  obtain ⟨ds, h1, h2, h3, h4⟩ := fl_all (K := K) (H := H) f
  refine ⟨.list ds, .lst h h1, ?_, ?_⟩
  · show (PyData.canLayAll0 ds && decide (PyData.depthAll ds + 1 ≤ 64)) = true
    rw [h2, h3]
    rfl
  · cases xs with
    | nil =>
      cases ds with
      | nil => rfl
      | cons => cases h4
    | cons =>
      cases ds with
      | nil => cases h4
      | cons => rfl
theorem op_eqE {X : Cx} (hu : X.A.units + 64 < cLine) : OpR X (compareOp .Eq) (rEmp X.K false) := by
  intro pins s σ H x y v u Q I rx ry h
  obtain ⟨a, b, xs, rfl, rfl, ha, hb, f, q⟩ := h
  obtain ⟨d, hd, sd, ed⟩ := emp_dp ha f
  refine op_eqD hu pins s σ H _ _ v u Q I rx ry ⟨d, .list [], hd, .lst hb .nil, sd, rfl, ?_⟩
  rw [ed]
  exact q
theorem op_neE {X : Cx} (hu : X.A.units + 64 < cLine) : OpR X (compareOp .NotEq) (rEmp X.K true) := by
  intro pins s σ H x y v u Q I rx ry h
  obtain ⟨a, b, xs, rfl, rfl, ha, hb, f, q⟩ := h
  obtain ⟨d, hd, sd, ed⟩ := emp_dp ha f
  refine op_neD hu pins s σ H _ _ v u Q I rx ry ⟨d, .list [], hd, .lst hb .nil, sd, rfl, ?_⟩
  rw [ed]
  exact q
/-! ### the bag -/
/-- the bag's list; as: lists that it isn't -/
def LAt (K : PySem.W.Frag) (H : Hp) (l : Addr) (ns : List Int) (as : List Addr) : Prop := (Rd H l (.lst (ns.map V.int)) ∧ l ∉ as) ∨ ∀ H', SqL K H' l (ns.map V.int)
theorem LAt.sq {K : PySem.W.Frag} {H : Hp} {l : Addr} {ns : List Int} {as : List Addr} (h : LAt K H l ns as) : SqL K H l (ns.map V.int) := by
  rcases h with h | h
  · exact .inl h.1
  · exact h H
theorem LAt.ex {K : PySem.W.Frag} {H H' : Hp} {l : Addr} {ns : List Int} {as : List Addr} (h : LAt K H l ns as) (e : Ex H H') : LAt K H' l ns as := h.imp (fun h => ⟨Evl.ex_rd e h.1, h.2⟩) id
theorem LAt.upd {K : PySem.W.Frag} {H : Hp} {l a : Addr} {ns : List Int} {as : List Addr} {o : HO} (h : LAt K H l ns as) (ha : a ∈ as) : LAt K (upd H a o) l ns as := by
  refine h.imp (fun h => ⟨?_, h.2⟩) id
  have ne : l ≠ a := fun e => h.2 (e ▸ ha)
  rcases h.1 with h1 | ⟨c, h1⟩
  · exact .inl (by rw [upd_ne ne]; exact h1)
  · exact .inr ⟨c, by rw [upd_ne ne]; exact h1⟩
def BagAt (K : PySem.W.Frag) (H : Hp) (b : Addr) (as : List Addr) : Prop := ∃ (l : Addr) (ns : List Int) (a c d : Int), H b = some (.lst [.ref l, .int a, .int c, .int d]) ∧ LAt K H l ns as
theorem BagAt.ex {K : PySem.W.Frag} {H H' : Hp} {b : Addr} {as : List Addr} (h : BagAt K H b as) (e : Ex H H') : BagAt K H' b as := by
  obtain ⟨l, ns, a, c, d, h1, h2⟩ := h
  exact ⟨l, ns, a, c, d, e _ _ h1, h2.ex e⟩
theorem BagAt.upd {K : PySem.W.Frag} {H : Hp} {b a : Addr} {as : List Addr} {o : HO} (h : BagAt K H b as) (ha : a ∈ as) (n : a ≠ b) : BagAt K (L2.upd H a o) b as := by
  obtain ⟨l, ns, a1, c, d, h1, h2⟩ := h
  exact ⟨l, ns, a1, c, d, by rw [upd_ne n.symm]; exact h1, h2.upd ha⟩
theorem BagAt.grow {K : PySem.W.Frag} {H : Hp} {b a : Addr} {as : List Addr} (h : BagAt K H b as) (ha : H a = none) : BagAt K H b (a :: as) := by
  obtain ⟨l, ns, a1, c, d, h1, h2⟩ := h
  refine ⟨l, ns, a1, c, d, h1, h2.imp (fun h => ⟨h.1, fun z => ?_⟩) id⟩
  rcases List.mem_cons.mp z with e | z
  · rcases h.1 with q | ⟨_, q⟩ <;> rw [e, ha] at q <;> cases q
  · exact h.2 z
theorem BagAt.less {K : PySem.W.Frag} {H : Hp} {b : Addr} {as bs : List Addr} (h : BagAt K H b as) (s : ∀ x ∈ bs, x ∈ as) : BagAt K H b bs := by
  obtain ⟨l, ns, a1, c, d, h1, h2⟩ := h
  exact ⟨l, ns, a1, c, d, h1, h2.imp (fun h => ⟨h.1, fun z => h.2 (s l z)⟩) id⟩
theorem BagAt.at {K : PySem.W.Frag} {H : Hp} {b : Addr} {as : List Addr} (h : BagAt K H b as) : H b ≠ none := by
  obtain ⟨_, _, _, _, _, h, _⟩ := h
  rw [h]
  exact fun e => nomatch e
theorem bag_ne {K : PySem.W.Frag} {H : Hp} {b l r : Addr} {xs : List V} {ns : List Int} {as : List Addr} {o : HO} (hb : H b = some (.lst (.ref r :: xs))) (h : LAt K H l ns as) : LAt K (upd H b o) l ns as := by
  have key : ∀ ns : List Int, ¬ (V.ref r :: xs = ns.map V.int) := fun ns e => by cases ns <;> cases e
  refine h.imp (fun h => ⟨?_, h.2⟩) id
  rcases h.1 with h | ⟨c, h⟩
  · exact .inl (by rw [upd_ne (fun e => by rw [e, hb] at h; exact key ns (HO.lst.inj (Option.some.inj h)))]; exact h)
  · exact .inr ⟨c, by rw [upd_ne (fun e => by rw [e, hb] at h; cases h)]; exact h⟩
theorem cutV_int (ns : List Int) (lo hi : Option Int) : ∃ ms : List Int, cutV (ns.map V.int) lo hi = ms.map V.int := by
  unfold cutV
  rw [← List.map_drop, ← List.map_take]
  exact ⟨_, rfl⟩
theorem u64 {k : Nat} {A : Around} (hr : Room k A) : A.units + 64 < cLine := by
  have := hr.units
  omega
section
variable {P : Program} {w : World} {K : PySem.W.Frag} {mg : Str → Option Value} {base : Heap}
def sp_bag (K : PySem.W.Frag) : Sp := fun vs H Q _ => ∃ (a : Addr) (ns : List Int), vs = [.ref a] ∧ SqL K H a (ns.map V.int) ∧ ns.length ≤ 63 ∧ ∀ b H2, H b = none → Ex H H2 → BagAt K H2 b [] → Q (.ref b) H2
theorem ok_bag (D : DfM K mg "_law_bag" s_w_bag) (G : Gs K mg) : Ct P w K mg base 1 "_law_bag" (sp_bag K) := by
  refine ct_of D sc_w_bag (fun vs H Q E h => ?_) (fun _ _ _ _ _ _ us hl => match us, hl with | [_], _ => rfl) (fun f cdv A outer s H vs Q E hr h => ?_)
  · obtain ⟨_, _, rfl, _⟩ := h
    rfl
  · obtain ⟨a, ns, rfl, ha, hn, k⟩ := h
    refine ⟨_, pss_one (ps_ret (pe_lst (pa_cons (pe_callTy call_list_of (by rfl) G.list boot_list (pa_cons (pv 0) pa_nil)) (pa_cons pe_int (pa_cons pe_int (pa_cons pe_int pa_nil)))))), ?_⟩
    refine ⟨_, rfl, a, _, rfl, .inl ha, fun l hl => ?_⟩
    refine ⟨by show 4 ≤ sizeLine; decide, fun b hb => k b _ (Evl.fresh_back (Ex.new hl) hb) ((Ex.new hl).trans (Ex.new hb)) ⟨l, ns, 0, 29, 0, upd_same, .inl ⟨.inl ?_, fun z => nomatch z⟩⟩⟩
    rw [upd_ne (fun e => by rw [← e, upd_same] at hb; cases hb), upd_same]
def sp_draw (K : PySem.W.Frag) : Sp := fun vs H Q _ => ∃ (b : Addr) (m : Nat) (as : List Addr), vs = [.ref b, .int (m : Int)] ∧ 0 < m ∧ m ≤ 1000 ∧ BagAt K H b as ∧ (∀ a ∈ as, H a ≠ none) ∧ ∀ (d : Nat) H2, d < m → Xd b H H2 → BagAt K H2 b as → Q (.int (d : Int)) H2
theorem ok_draw (D : DfM K mg "_law_draw" s_w_draw) (G : Gs K mg) : Ct P w K mg base 1 "_law_draw" (sp_draw K) := by
  refine ct_of D sc_w_draw (fun vs H Q E h => ?_) (fun _ _ _ _ _ _ us hl => match us, hl with | [_, _], _ => rfl) (fun f cdv A outer s H vs Q E hr h => ?_)
  · obtain ⟨_, _, _, rfl, _⟩ := h
    rfl
  · obtain ⟨b, m, as, rfl, hm, hm2, hB, has, k⟩ := h
    have tail : ∃ tl, PSs (cxOf CX0 P w K mg base ["_law_bag_here", "_law_many", "_law_cell", "_law_digit", "_law_mixed_here"] "_law_draw" (defScope s_w_draw) f cdv A outer s H E).nox ((defBody s_w_draw).drop 1) tl ∧
        ∀ x2 H2, Xd b H H2 → BagAt K H2 b as → tl { nx := fun _ H' => Q .non H', rt := Q } [some (.ref b), some (.int (m : Int)), x2, none, none] H2 := by
      refine ⟨_, pss_cons (ps_if (pt_cmpR op_gt (pe_ix ix_list (pv 0) pe_int (fun _ _ => rfl)) pe_int (nomark _))
          (pss_cons (ps_set (i := 3) sc_w_draw.nd rfl (.inl rfl) (pe_op op_mod (pe_callTy call_int1 (by rfl) G.int boot_int (pa_cons (pe_ix ix_list (pv 0) pe_int (fun _ _ => rfl)) pa_nil)) (pv 1)))
          (pss_cons (ps_asg (pe_op op_fdiv (pe_ix ix_list (pv 0) pe_int (fun _ _ => rfl)) (pv 1)) (pg_sub (pv 0) pe_int set_list))
          (pss_one (ps_ret (pv 3))))) pss_nil)
        (pss_cons (ps_asg (pe_op op_add (pe_ix ix_list (pv 0) pe_int (fun _ _ => rfl)) pe_int) (pg_sub (pv 0) pe_int set_list))
        (pss_cons (ps_set (i := 4) sc_w_draw.nd rfl (.inl rfl) (pe_op op_mod (pe_callTy call_int1 (by rfl) G.int boot_int (pa_cons (pe_op op_add (pe_ix ix_list (pv 0) pe_int (fun _ _ => rfl)) (pe_op op_mul (pe_ix ix_list (pv 0) pe_int (fun _ _ => rfl)) pe_int)) pa_nil)) pe_int))
        (pss_cons (ps_set (i := 4) sc_w_draw.nd rfl (.inl rfl) (pe_op op_mod (pe_callTy call_int1 (by rfl) G.int boot_int (pa_cons (pe_op op_add (pe_op op_add (pe_op op_pow (pv 4) pe_int) (pe_op op_mul (pe_ix ix_list (pv 0) pe_int (fun _ _ => rfl)) pe_int)) pe_int) pa_nil)) pe_int))
        (pss_one (ps_ret (pe_op op_mod (pe_op op_fdiv (pe_op op_mod (pe_callTy call_int1 (by rfl) G.int boot_int (pa_cons (pe_op op_add (pe_op op_pow (pv 4) pe_int) (pe_op op_mul pe_int (pv 4))) pa_nil)) pe_int) pe_int) (pv 1))))))), ?_⟩
      rintro x2 H2 x2d ⟨l, ns, a, c, d, h2, hl⟩
      have ix1 : ∀ {j : Nat} {v : V}, ([.ref l, .int a, .int c, .int d] : List V)[j]? = some v → atI ([.ref l, .int a, .int c, .int d] : List V) ((j : Nat) : Int) = some v := fun h => atI_nat h
      refine ⟨_, rfl, b, _, 1, .int a, rfl, rfl, .of h2, ix1 (j := 1) rfl, a, 0, rfl, rfl, _, rfl, ite2 (fun z => ?_) (fun z => ?_)⟩
      · refine ⟨_, rfl, b, _, 1, .int a, rfl, rfl, .of h2, ix1 (j := 1) rfl, .inl ⟨a, rfl, _, rfl, a, (m : Int), rfl, rfl, by omega, ?_⟩⟩
        refine ⟨_, rfl, b, _, 1, .int a, rfl, rfl, .of h2, ix1 (j := 1) rfl, _, rfl, a, (m : Int), rfl, rfl, ⟨by omega, by omega⟩, ?_⟩
        refine ⟨_, rfl, b, _, 1, 1, rfl, rfl, h2, rfl, ?_⟩
        have h0 : 0 ≤ a % (m : Int) := Int.emod_nonneg _ (by omega)
        have h1 : a % (m : Int) < m := Int.emod_lt_of_pos _ (by omega)
        refine ⟨_, rfl, ?_⟩
        have e : a % (m : Int) = (((a % (m : Int)).toNat : Nat) : Int) := by omega
        show Q (V.int (a % (m : Int))) _
        rw [e]
        exact k _ _ (by omega) (x2d.trans .put) ⟨l, ns, _, c, d, upd_same, bag_ne h2 hl⟩
      · refine ⟨_, rfl, b, _, 3, .int d, rfl, rfl, .of h2, ix1 (j := 3) rfl, d, 1, rfl, rfl, _, rfl, b, _, 3, 3, rfl, rfl, h2, rfl, ?_⟩
        have hl3 : LAt K (upd H2 b (.lst [.ref l, .int a, .int c, .int (d + 1)])) l ns as := bag_ne h2 hl
        have x3d : Xd b H (upd H2 b (.lst [.ref l, .int a, .int c, .int (d + 1)])) := x2d.trans .put
        have h3 : (upd H2 b (.lst [.ref l, .int a, .int c, .int (d + 1)])) b = some (.lst [.ref l, .int a, .int c, .int (d + 1)]) := upd_same
        have q3 : SqL K (upd H2 b (.lst [.ref l, .int a, .int c, .int (d + 1)])) b [.ref l, .int a, .int c, .int (d + 1)] := .of h3
        refine ⟨_, rfl, b, _, 2, .int c, rfl, rfl, q3, atI_nat (j := 2) rfl, _, rfl, b, _, 3, .int (d + 1), rfl, rfl, q3, atI_nat (j := 3) rfl, d + 1, 40692, rfl, rfl, .inr (by decide), c, _, rfl, rfl, .inl ⟨_, rfl, _, 2147483647, rfl, rfl, (show (0 : Int) < 2147483647 by decide), ?_⟩⟩
        have b0 := Int.emod_nonneg (c + (d + 1) * 40692) (show (2147483647 : Int) ≠ 0 by decide)
        have b1 := Int.emod_lt_of_pos (c + (d + 1) * 40692) (show (0 : Int) < 2147483647 by decide)
        obtain ⟨m1, em1⟩ : ∃ m1, (c + (d + 1) * 40692) % 2147483647 = m1 := ⟨_, rfl⟩
        rw [em1] at b0 b1
        refine ⟨_, rfl, m1, 3, congrArg V.int em1, rfl, ⟨by decide, by decide, by omega⟩, _, rfl, b, _, 3, .int (d + 1), rfl, rfl, q3, atI_nat (j := 3) rfl, d + 1, 16807, rfl, rfl, .inr (by decide), _, _, rfl, rfl, _, 7, rfl, rfl, .inl ⟨_, rfl, _, 2147483629, rfl, rfl, (show (0 : Int) < 2147483629 by decide), ?_⟩⟩
        obtain ⟨m2, hm2'⟩ : ∃ m2, (m1 ^ Int.toNat 3 + (d + 1) * 16807 + 7) % 2147483629 = m2 := ⟨_, rfl⟩
        have c0 : 0 ≤ m2 := by rw [← hm2']; exact Int.emod_nonneg _ (by decide)
        have c1 : m2 < 2147483629 := by rw [← hm2']; exact Int.emod_lt_of_pos _ (by decide)
        refine ⟨_, rfl, m2, 2, congrArg V.int hm2', rfl, ⟨by decide, by decide, by omega⟩, _, rfl, 3, m2, rfl, congrArg V.int hm2', .inl (by decide), _, _, rfl, rfl, .inl ⟨_, rfl, _, 2147483587, rfl, rfl, (show (0 : Int) < 2147483587 by decide), _, 8, rfl, rfl, ⟨(show (0 : Int) < 8 by decide), (show (8 : Int) < 1073741824 by decide)⟩, _, rfl, _, (m : Int), rfl, rfl, (show (0 : Int) < (m : Int) by omega), ?_⟩⟩
        obtain ⟨m3, em3⟩ : ∃ m3, (m2 ^ Int.toNat 2 + 3 * m2) % 2147483587 / 8 = m3 := ⟨_, rfl⟩
        have h0 : 0 ≤ m3 % (m : Int) := Int.emod_nonneg _ (by omega)
        have h1 : m3 % (m : Int) < m := Int.emod_lt_of_pos _ (by omega)
        have e : m3 % (m : Int) = (((m3 % (m : Int)).toNat : Nat) : Int) := by omega
        show Q (V.int ((m2 ^ Int.toNat 2 + 3 * m2) % 2147483587 / 8 % (m : Int))) _
        rw [em3, e]
        exact k _ _ (by omega) x3d ⟨l, ns, a, c, d + 1, h3, hl3⟩
    obtain ⟨tl, htl, htail⟩ := tail
    refine ⟨_, pss_cons (ps_if (PW.pt (pw_and (pt_cmpR op_eq (pe_ix ix_list (pv 0) pe_int (fun _ _ => rfl)) pe_int (nomark _)) (pw_and1 (pt_cmpR (op_neE (u64 hr)) (pe_ix ix_list (pv 0) pe_int (fun _ _ => rfl)) (pe_lst pa_nil) (nomark _)))))
        (pss_cons (ps_set (i := 2) sc_w_draw.nd rfl (.inl rfl) (pe_ix ix_list (pe_ix ix_list (pv 0) pe_int (fun _ _ => rfl)) pe_int (fun _ _ => rfl)))
        (pss_cons (ps_asg (pe_slice sl_list (pe_ix ix_list (pv 0) pe_int (fun _ _ => rfl)) (po_some pe_int) po_none) (pg_sub (pv 0) pe_int set_list))
        (pss_cons (ps_asg (pe_op op_mod (pe_callTy call_int1 (by rfl) G.int boot_int (pa_cons (pe_op op_add (pe_op op_add (pe_op op_mul (pe_ix ix_list (pv 0) pe_int (fun _ _ => rfl)) pe_int) (pe_op op_mul (pv 2) pe_int)) pe_int) pa_nil)) pe_int) (pg_sub (pv 0) pe_int set_list))
        (pss_one (ps_if (pt_cmpR op_ge (pe_callB call_abs (by rfl) G.abs boot_abs (pa_cons (pv 2) pa_nil)) (pe_op op_pow pe_int pe_int) (nomark _))
          (pss_one (ps_asg (pe_callB call_abs (by rfl) G.abs boot_abs (pa_cons (pv 2) pa_nil)) (pg_sub (pv 0) pe_int set_list))) pss_nil))))) pss_nil) htl, ?_⟩
    obtain ⟨l, ns, a, c, d, h2, hl⟩ := id hB
    refine ⟨_, rfl, b, _, 1, .int a, rfl, rfl, .of h2, atI_nat (j := 1) rfl, rfl, _, rfl, ite2 (fun z => ?_) (fun z => ?_)⟩
    · refine ⟨_, rfl, b, _, 0, .ref l, rfl, rfl, .of h2, atI_nat (j := 0) rfl, by show 0 ≤ sizeLine; exact Nat.zero_le _, fun e he => ?_⟩
      have eE : Ex H (upd H e (.lst [])) := Ex.new he
      have h2e := eE _ _ h2
      refine ⟨l, e, _, rfl, rfl, (hl.ex eE).sq, .of upd_same, fun x hx => ?_, _, rfl, ite2 (fun z2 => ?_) (fun z2 => ?_)⟩
      · obtain ⟨i, _, rfl⟩ := List.mem_map.mp hx
        exact ⟨_, .int i⟩
      · -- a cell
        have hle := (hl.ex eE).sq
        cases ns with
        | nil => exact absurd z2 (by simp)
        | cons i r =>
          refine ⟨_, rfl, b, _, 0, .ref l, rfl, rfl, .of h2e, atI_nat (j := 0) rfl, l, _, 0, .int i, rfl, rfl, hle, atI_nat (j := 0) rfl, ?_⟩
          refine ⟨_, rfl, b, _, 0, .ref l, rfl, rfl, .of h2e, atI_nat (j := 0) rfl, 1, rfl, l, _, rfl, hle, fun l2 hl2 => ?_⟩
          obtain ⟨ms, ems⟩ := cutV_int (i :: r) (some 1) none
          rw [ems]
          have e2 : Ex (upd H e (.lst [])) (upd (upd H e (.lst [])) l2 (.lst (ms.map V.int))) := Ex.new hl2
          have h3 := e2 _ _ h2e
          have x3 : Xd b H (upd (upd H e (.lst [])) l2 (.lst (ms.map V.int))) := Xd.of (eE.trans e2)
          have q3 : LAt K (upd (upd H e (.lst [])) l2 (.lst (ms.map V.int))) l2 ms as := .inl ⟨.inl upd_same, fun z => has _ z (Evl.fresh_back eE hl2)⟩
          generalize upd (upd H e (.lst [])) l2 (.lst (ms.map V.int)) = H3 at h3 x3 q3 ⊢
          refine ⟨_, rfl, b, _, 0, 0, rfl, rfl, h3, rfl, ?_⟩
          have h4 : (upd H3 b (.lst [.ref l2, .int a, .int c, .int d])) b = some (.lst [.ref l2, .int a, .int c, .int d]) := upd_same
          have q4 : LAt K (upd H3 b (.lst [.ref l2, .int a, .int c, .int d])) l2 ms as := bag_ne h3 q3
          have x4 : Xd b H (upd H3 b (.lst [.ref l2, .int a, .int c, .int d])) := x3.trans .put
          show tSeq _ _ _ _ (upd H3 b (.lst [.ref l2, .int a, .int c, .int d]))
          generalize upd H3 b (.lst [.ref l2, .int a, .int c, .int d]) = H4 at h4 x4 q4 ⊢
          refine ⟨_, rfl, b, _, 2, .int c, rfl, rfl, .of h4, atI_nat (j := 2) rfl, c, 69069, rfl, rfl, .inr (by decide), _, rfl, i, 48271, rfl, rfl, .inr (by decide), _, _, rfl, rfl, _, 5, rfl, rfl, .inl ⟨_, rfl, _, 2147483647, rfl, rfl, (show (0 : Int) < 2147483647 by decide), _, rfl, b, _, 2, 2, rfl, rfl, h4, rfl, ?_⟩⟩
          have h5 : (upd H4 b (.lst [.ref l2, .int a, .int ((c * 69069 + i * 48271 + 5) % 2147483647), .int d])) b = some (.lst [.ref l2, .int a, .int ((c * 69069 + i * 48271 + 5) % 2147483647), .int d]) := upd_same
          have q5 : LAt K (upd H4 b (.lst [.ref l2, .int a, .int ((c * 69069 + i * 48271 + 5) % 2147483647), .int d])) l2 ms as := bag_ne h4 q4
          have x5 : Xd b H (upd H4 b (.lst [.ref l2, .int a, .int ((c * 69069 + i * 48271 + 5) % 2147483647), .int d])) := x4.trans .put
          refine ⟨_, rfl, i, rfl, 10, 18, rfl, rfl, ⟨by decide, by decide, by decide⟩, _, _, rfl, rfl, _, rfl, ite2 (fun z3 => ?_) (fun z3 => ?_)⟩
          · refine ⟨_, rfl, i, rfl, _, rfl, b, _, 1, 1, rfl, rfl, h5, rfl, ?_⟩
            exact htail _ _ (x5.trans .put) ⟨l2, ms, _, _, d, upd_same, bag_ne h5 q5⟩
          · exact htail _ _ x5 ⟨l2, ms, a, _, d, h5, q5⟩
      · exact htail _ _ (Xd.of eE) ⟨l, ns, a, c, d, h2e, hl.ex eE⟩
    · exact htail _ _ (Xd.refl _) ⟨l, ns, a, c, d, h2, hl⟩
end
end LL

/-! Leastlooks, the law's helpers: strings, inputs, patterns, put, open spots, mixed. -/
namespace LL
open PySem PySem.Spec PyProof.Rows L2
open Evl (Ex RetV RetL)
def wS (sg : List Str) : Nat → List Str
  | 0 => [""]
  | n + 1 => (wS sg n).flatMap fun t => sg.map fun s => t ++ s
def pc : Option Bool → Nat
  | none => 45
  | some b => cd b
def px (q : LM.Pat) : Str := ⟨(q.map pc).toArray⟩
def pats : Nat → List LM.Pat
  | 0 => [[]]
  | n + 1 => (pats n).flatMap fun q => [q ++ [none], q ++ [some false], q ++ [some true]]
theorem px_codes (q : LM.Pat) : (px q).cps.toList = q.map pc := rfl
theorem px_len (q : LM.Pat) : (px q).length = q.length := by
  show ((q.map pc).toArray).size = _
  rw [List.size_toArray, List.length_map]
theorem px_app (a b : LM.Pat) : px (a ++ b) = px a ++ px b := by
  show (⟨((a ++ b).map pc).toArray⟩ : Str) = ⟨(a.map pc).toArray ++ (b.map pc).toArray⟩
  rw [List.map_append, List.append_toArray]
theorem pc_inj {a b : Option Bool} (h : pc a = pc b) : a = b := by
  match a, b, h with
  | none, none, _ => rfl
  | none, some x, h => cases x <;> exact absurd h (by decide)
  | some x, none, h => cases x <;> exact absurd h (by decide)
  | some x, some y, h => rw [cd_inj h]
theorem px_inj {a b : LM.Pat} (h : px a = px b) : a = b := by
  have e : a.map pc = b.map pc := congrArg (fun z : Str => z.cps.toList) h
  exact List.map_inj_right (fun _ _ h => pc_inj h) |>.mp e
theorem px_tx (bs : List Bool) : px (bs.map some) = tx bs := by
  show (⟨((bs.map some).map pc).toArray⟩ : Str) = ⟨(bs.map cd).toArray⟩
  rw [List.map_map]
  rfl
theorem px0 : px [] = ("" : Str) := by decide +kernel
theorem px_one : px [none] = ("-" : Str) ∧ px [some false] = ("0" : Str) ∧ px [some true] = ("1" : Str) := by decide +kernel
theorem tx_two : tx [false] = ("0" : Str) ∧ tx [true] = ("1" : Str) := by decide +kernel
theorem pats_len : ∀ {n : Nat} {q : LM.Pat}, q ∈ pats n ↔ q.length = n
  | 0, q => by
    show q ∈ [[]] ↔ _
    rw [List.mem_singleton, List.length_eq_zero_iff]
  | n + 1, q => by
    unfold pats
    rw [List.mem_flatMap]
    constructor
    · rintro ⟨u, hu, hq⟩
      have hl := pats_len.mp hu
      simp only [List.mem_cons, List.not_mem_nil, or_false] at hq
      rcases hq with rfl | rfl | rfl <;> simp [hl]
    · intro hl
      have hne : q ≠ [] := by rintro rfl; simp at hl
      refine ⟨q.dropLast, pats_len.mpr (by rw [List.length_dropLast]; omega), ?_⟩
      have e := List.dropLast_concat_getLast hne
      rw [← e]
      cases q.getLast hne with
      | none => simp
      | some b => cases b <;> simp
theorem wS_ins : ∀ n, wS ["0", "1"] n = (LM.ins n).map tx
  | 0 => by
    show [("" : Str)] = [tx []]
    rw [tx0]
  | n + 1 => by
    have key : ∀ l : List (List Bool), (l.map tx).flatMap (fun t => (["0", "1"] : List Str).map fun s => t ++ s) = (l.flatMap fun t => [t ++ [false], t ++ [true]]).map tx := by
      intro l
      induction l with
      | nil => rfl
      | cons a r ih =>
        rw [List.map_cons, List.flatMap_cons, List.flatMap_cons, List.map_append, ih]
        congr 1
        show [tx a ++ ("0" : Str), tx a ++ ("1" : Str)] = [tx (a ++ [false]), tx (a ++ [true])]
        rw [tx_app, tx_app, tx_two.1, tx_two.2]
    show (wS ["0", "1"] n).flatMap _ = _
    rw [wS_ins n]
    exact key _
theorem wS_pats : ∀ n, wS ["-", "0", "1"] n = (pats n).map px
  | 0 => by
    show [("" : Str)] = [px []]
    rw [px0]
  | n + 1 => by
    have key : ∀ l : List LM.Pat, (l.map px).flatMap (fun t => (["-", "0", "1"] : List Str).map fun s => t ++ s) = (l.flatMap fun t => [t ++ [none], t ++ [some false], t ++ [some true]]).map px := by
      intro l
      induction l with
      | nil => rfl
      | cons a r ih =>
        rw [List.map_cons, List.flatMap_cons, List.flatMap_cons, List.map_append, ih]
        congr 1
        show [px a ++ ("-" : Str), px a ++ ("0" : Str), px a ++ ("1" : Str)] = [px (a ++ [none]), px (a ++ [some false]), px (a ++ [some true])]
        rw [px_app, px_app, px_app, px_one.1, px_one.2.1, px_one.2.2]
    show (wS ["-", "0", "1"] n).flatMap _ = _
    rw [wS_pats n]
    exact key _
theorem flat_len {sg : List Str} {l : List Str} : (l.flatMap fun t => sg.map fun s => t ++ s).length = l.length * sg.length := by
  induction l with
  | nil => simp
  | cons a r ih =>
    rw [List.flatMap_cons, List.length_append, ih, List.length_map, List.length_cons, Nat.succ_mul, Nat.add_comm]
theorem wS_len {sg : List Str} : ∀ n, (wS sg n).length = sg.length ^ n
  | 0 => rfl
  | n + 1 => by
    show ((wS sg n).flatMap _).length = _
    rw [flat_len, wS_len n, Nat.pow_succ]
theorem len_app (a b : Str) : (a ++ b).length = a.length + b.length := by
  show (a.cps ++ b.cps).size = _
  rw [Array.size_append]
  rfl
theorem wS_small {sg : List Str} (h1 : ∀ s ∈ sg, s.length = 1) : ∀ n, ∀ t ∈ wS sg n, t.length = n
  | 0, t, ht => by
    have : t = "" := by simpa [wS] using ht
    rw [this]
    decide +kernel
  | n + 1, t, ht => by
    obtain ⟨u, hu, ht⟩ := List.mem_flatMap.mp ht
    obtain ⟨s, hs, rfl⟩ := List.mem_map.mp ht
    rw [len_app, wS_small h1 n u hu, h1 s hs]
section
variable {P : Program} {w : World} {K : PySem.W.Frag} {mg : Str → Option Value} {base : Heap}
def sp_w_strings (K : PySem.W.Frag) : Sp := fun vs H Q _ => ∃ (n : Nat) (s : Addr) (sg : List Str), vs = [.int (n : Int), .ref s] ∧ n ≤ 3 ∧ SqL K H s (sg.map V.str) ∧ sg.length ≤ 3 ∧ (∀ s ∈ sg, s.length = 1) ∧ RetL ((wS sg n).map V.str) H Q
theorem ok_w_strings (D : DfM K mg "_law_strings" s_w_strings) (G : Gs K mg) : Ct P w K mg base 1 "_law_strings" (sp_w_strings K) := by
  refine ct_of D sc_w_strings (fun vs H Q E h => ?_) (fun _ _ _ _ _ _ us hl => match us, hl with | [_, _], _ => rfl) (fun f cdv A outer s H vs Q E hr h => ?_)
  · obtain ⟨_, _, _, rfl, _⟩ := h
    rfl
  · obtain ⟨n, s, sg, rfl, hn, hs, hg, h1, k⟩ := h
    refine ⟨_, pss_cons (ps_set (i := 2) sc_w_strings.nd rfl (.inl rfl) (pe_lst (pa_cons pe_str pa_nil)))
      (pss_cons (ps_for PassesOwn.never rfl (pi_range1 (by rfl) G.range (pa_cons (pv 0) pa_nil)) (pg_name (i := 3) sc_w_strings.nd rfl (.inl rfl))
        (pss_cons (ps_set (i := 4) sc_w_strings.nd rfl (.inl rfl) (pe_lst pa_nil))
        (pss_cons (ps_for PassesOwn.never rfl (pi_list (pv 2)) (pg_name (i := 5) sc_w_strings.nd rfl (.inr rfl))
          (pss_one (ps_set (i := 4) sc_w_strings.nd rfl (.inl rfl) (pe_op op_cat (pv 4) (pe_lc (own := [("_law_sign", 6)]) (g := gName 6) (tt := tYes) (by rfl) sc_w_strings.nd (pi_list (pv 1))
            (blkOk_by (own := [("_law_sign", 6)]) (N := ["_law_many", "_law_signs", "_law_found", "_law_k", "_law_longer", "_law_text", "_law_sign"]) (sc := defScope s_w_strings) (by decide +kernel)) (fun _ _ _ _ _ => pg_name (i := 6) sc_w_strings.nd rfl (Or.inl rfl)) (fun _ _ _ _ _ => pts_nil)
            (fun _ _ _ _ _ => pe_op op_add_str (pv 5) (pv 6)))))))
        (pss_one (ps_set (i := 2) sc_w_strings.nd rfl (.inl rfl) (pv 4))))))
      (pss_one (ps_ret (pv 2)))), ?_⟩
    have hb : ∀ i, i ≤ 3 → (wS sg i).length ≤ 27 := fun i hi => by
      rw [wS_len]
      exact Nat.le_trans (Nat.pow_le_pow_left hg i) (Nat.le_trans (Nat.pow_le_pow_right (by decide) hi) (by decide))
    refine ⟨by show 1 ≤ sizeLine; decide, fun F hF => ?_⟩
    refine ⟨_, rfl, (n : Int), rfl, by omega, by omega, ?_⟩
    refine for_range (n := ((n : Int)).toNat) (fun i σ H2 => ∃ p x3 x4 x5, σ = [some (.int (n : Int)), some (.ref s), some (.ref p), x3, x4, x5, none] ∧ Ex H H2 ∧ H p = none ∧ H2 p = some (.lst ((wS sg i).map V.str))) ⟨F, none, none, none, rfl, Ex.new hF, hF, upd_same⟩ ?_ ?_
    · rintro i σ H2 hi ⟨p, x3, x4, x5, rfl, e2, hp, h2⟩
      have hi3 : i < 3 := by omega
      refine ⟨by show 0 ≤ sizeLine; exact Nat.zero_le _, fun L hL => ?_⟩
      have e3 : Ex H2 (upd H2 L (.lst [])) := Ex.new hL
      refine ⟨_, rfl, p, rfl, ⟨_, .of (e3 _ _ h2)⟩, ?_⟩
      refine for_list (xs := (wS sg i).map V.str) (fun j σ H4 => ∃ q y5, σ = [some (.int (n : Int)), some (.ref s), some (.ref p), some (.int ((0 : Int) + (i : Nat))), some (.ref q), y5, none] ∧ Ex H2 H4 ∧ H2 q = none ∧ H4 q = some (.lst ((((wS sg i).take j).flatMap fun t => sg.map fun s => t ++ s).map V.str)))
        ⟨L, x5, rfl, e3, hL, upd_same⟩ (fun j σ H4 _ z => ?_) ?_ ?_
      · obtain ⟨_, _, _, e4, _⟩ := z
        exact .of (e4 _ _ h2)
      · rintro j x σ H4 hx ⟨q, y5, rfl, e4, hq, h4⟩
        rw [List.getElem?_map] at hx
        obtain ⟨t, ht, rfl⟩ := Option.map_eq_some_iff.mp hx
        have hj : j < (wS sg i).length := (List.getElem?_eq_some_iff.mp ht).1
        have htl := wS_small h1 i t (List.mem_of_getElem? ht)
        have hbi := hb i (by omega)
        refine ⟨_, rfl, _, rfl, s, rfl, ⟨_, Evl.ex_l (e2.trans e4) hs⟩, fun D0 hD => ?_⟩
        refine lc_map (walk_list (xs := sg.map V.str)) hD ((sg.map fun s => t ++ s).map V.str) (by rw [List.length_map, List.length_map, List.length_map]) (by rw [List.length_map]; omega) (fun H5 e5 => Evl.ex_l ((e2.trans e4).trans e5) hs) ?_ ?_
        · rintro a x H5 H' Q2 ha e5 ⟨rfl, hx⟩ kk
          rw [List.getElem?_map] at hx
          obtain ⟨c, hc, rfl⟩ := Option.map_eq_some_iff.mp hx
          have hcl := h1 c (List.mem_of_getElem? hc)
          refine ⟨rfl, _, rfl, _, rfl, t, c, rfl, rfl, sz6 (by omega), kk _ _ (Evl.Ex.refl _) ?_⟩
          rw [List.getElem?_map, List.getElem?_map, hc]
          rfl
        · intro H5 e5 d5
          refine ⟨q, D0, _, _, rfl, rfl, e5 _ _ h4, d5, ?_, fun r hr => ?_⟩
          · rw [List.length_map, List.length_map, List.length_map, flat_len, List.length_take]
            refine sz6 ?_
            have : min j (wS sg i).length * sg.length ≤ 27 * 3 := Nat.mul_le_mul (by omega) hg
            omega
          · refine ⟨r, _, rfl, (e4.trans e5).trans (Ex.new hr), Evl.fresh_back (e4.trans e5) hr, ?_⟩
            rw [upd_same, List.take_add_one, ht, List.flatMap_append, List.map_append]
            simp
      · rintro σ H4 ⟨q, y5, rfl, e4, hq, h4⟩
        refine ⟨_, rfl, q, _, _, _, rfl, e2.trans e4, Evl.fresh_back e2 hq, ?_⟩
        rw [h4, List.length_map, List.take_length]
        rfl
    · rintro σ H2 ⟨p, x3, x4, x5, rfl, e2, hp, h2⟩
      have en : ((n : Int)).toNat = n := by omega
      rw [en] at h2
      exact ⟨_, rfl, k p H2 hp e2 h2⟩
def sp_w_inputs : Sp := fun vs H Q _ => ∃ n : Nat, vs = [.int (n : Int)] ∧ n ≤ 3 ∧ RetL (txs (LM.ins n)) H Q
theorem ok_w_inputs (D : DfM K mg "_law_inputs" s_w_inputs) (C1 : Ct P w K mg base 1 "_law_strings" (sp_w_strings K)) : Ct P w K mg base 2 "_law_inputs" sp_w_inputs := by
  refine ct_of D sc_w_inputs (fun vs H Q E h => ?_) (fun _ _ _ _ _ _ us hl => match us, hl with | [_], _ => rfl) (fun f cdv A outer s H vs Q E hr h => ?_)
  · obtain ⟨_, rfl, _⟩ := h
    rfl
  · obtain ⟨n, rfl, hn, k⟩ := h
    refine ⟨_, pss_one (ps_ret (pe_ct C1 hr (by rfl) (pa_cons (pv 0) (pa_cons (pe_lst (pa_cons pe_str (pa_cons pe_str pa_nil))) pa_nil)))), ?_⟩
    refine ⟨_, rfl, by show 2 ≤ sizeLine; decide, fun p hp => ?_⟩
    refine ⟨n, p, ["0", "1"], rfl, hn, .of upd_same, by decide, by decide +kernel, fun q H2 hq e2 h2 => ?_⟩
    have e1 : Ex H (upd H p (.lst [.str "0", .str "1"])) := Ex.new hp
    refine k q H2 (Evl.fresh_back e1 hq) (e1.trans e2) ?_
    rw [h2, wS_ins]
    unfold txs
    rw [List.map_map]
    rfl
def pxs (l : List LM.Pat) : List V := l.map fun q => V.str (px q)
def sp_w_patterns : Sp := fun vs H Q _ => ∃ n : Nat, vs = [.int (n : Int)] ∧ n ≤ 3 ∧ RetL (pxs (pats n)) H Q
theorem ok_w_patterns (D : DfM K mg "_law_patterns" s_w_patterns) (C1 : Ct P w K mg base 1 "_law_strings" (sp_w_strings K)) : Ct P w K mg base 2 "_law_patterns" sp_w_patterns := by
  refine ct_of D sc_w_patterns (fun vs H Q E h => ?_) (fun _ _ _ _ _ _ us hl => match us, hl with | [_], _ => rfl) (fun f cdv A outer s H vs Q E hr h => ?_)
  · obtain ⟨_, rfl, _⟩ := h
    rfl
  · obtain ⟨n, rfl, hn, k⟩ := h
    refine ⟨_, pss_one (ps_ret (pe_ct C1 hr (by rfl) (pa_cons (pv 0) (pa_cons (pe_lst (pa_cons pe_str (pa_cons pe_str (pa_cons pe_str pa_nil)))) pa_nil)))), ?_⟩
    refine ⟨_, rfl, by show 3 ≤ sizeLine; decide, fun p hp => ?_⟩
    refine ⟨n, p, ["-", "0", "1"], rfl, hn, .of upd_same, by decide, by decide +kernel, fun q H2 hq e2 h2 => ?_⟩
    have e1 : Ex H (upd H p (.lst [.str "-", .str "0", .str "1"])) := Ex.new hp
    refine k q H2 (Evl.fresh_back e1 hq) (e1.trans e2) ?_
    rw [h2, wS_pats]
    unfold pxs
    rw [List.map_map]
    rfl
end
end LL

/-! Leastlooks, the law's helpers: put, open spots, mixed. -/
namespace LL
open PySem PySem.Spec PyProof.Rows L2
open Evl (Ex RetV RetL)
theorem cut_lo (q : LM.Pat) (p : Nat) : cutS (px q) none (some (p : Int)) = px (q.take p) := by
  unfold cutS
  rw [px_codes, px_len, HT.sIx_nat, HT.sIx_none, List.drop_zero, Nat.sub_zero]
  show (⟨((q.map pc).take (min p q.length)).toArray⟩ : Str) = ⟨((q.take p).map pc).toArray⟩
  rw [List.map_take]
  congr 2
  by_cases h : p ≤ q.length
  · rw [Nat.min_eq_left h]
  · rw [Nat.min_eq_right (by omega), List.take_of_length_le (by rw [List.length_map]; exact Nat.le_refl _), List.take_of_length_le (by rw [List.length_map]; omega)]
theorem cut_hi (q : LM.Pat) (p : Nat) (h : p ≤ q.length) : cutS (px q) (some (p : Int)) none = px (q.drop p) := by
  unfold cutS
  rw [px_codes, px_len, HT.sIx_nat, HT.sIx_none, Nat.min_eq_left h]
  show (⟨(((q.map pc).drop p).take (q.length - p)).toArray⟩ : Str) = ⟨((q.drop p).map pc).toArray⟩
  rw [List.map_drop, List.take_of_length_le (by rw [List.length_drop, List.length_map]; exact Nat.le_refl _)]
theorem put_px {q : LM.Pat} {p : Nat} {b : Bool} (h : p < q.length) : cutS (px q) none (some (p : Int)) ++ tx [b] ++ cutS (px q) (some ((p : Int) + 1)) none = px (LM.put q p b) := by
  have e : (p : Int) + 1 = ((p + 1 : Nat) : Int) := by omega
  rw [e, cut_lo, cut_hi q (p + 1) h, ← px_tx [b], ← px_app, ← px_app]
  unfold LM.put
  rw [List.set_eq_take_append_cons_drop, if_pos h, List.append_assoc]
  rfl
theorem put_tx {t : List Bool} {p : Nat} {b : Bool} (h : p < t.length) : cutS (tx t) none (some (p : Int)) ++ tx [b] ++ cutS (tx t) (some ((p : Int) + 1)) none = tx (t.set p b) := by
  rw [← px_tx t, put_px (by rw [List.length_map]; exact h), ← px_tx]
  unfold LM.put
  rw [List.map_set]
theorem eraseIdx_map' {α β : Type} (f : α → β) : ∀ (l : List α) (i : Nat), (l.map f).eraseIdx i = (l.eraseIdx i).map f
  | [], _ => rfl
  | _ :: _, 0 => rfl
  | a :: r, i + 1 => congrArg (f a :: ·) (eraseIdx_map' f r i)
theorem lst_xb {b a : Addr} {H H' : Hp} {xs : List V} (x : Xd b H H') (n : a ≠ b) (h : H a = some (.lst xs)) : H' a = some (.lst xs) := x _ _ n h
section
variable {P : Program} {w : World} {K : PySem.W.Frag} {mg : Str → Option Value} {base : Heap}
def sp_w_put : Sp := fun vs H Q _ => ∃ (q : LM.Pat) (p : Nat) (b : Bool), vs = [.str (px q), .int (p : Int), .str (tx [b])] ∧ p < q.length ∧ q.length ≤ 100 ∧ Q (.str (px (LM.put q p b))) H
theorem ok_w_put (D : DfM K mg "_law_put" s_w_put) : Ct P w K mg base 1 "_law_put" sp_w_put := by
  refine ct_of D sc_w_put (fun vs H Q E h => ?_) (fun _ _ _ _ _ _ us hl => match us, hl with | [_, _, _], _ => rfl) (fun f cdv A outer s H vs Q E hr h => ?_)
  · obtain ⟨_, _, _, rfl, _⟩ := h
    rfl
  · obtain ⟨q, p, b, rfl, hp, hq, k⟩ := h
    refine ⟨_, pss_one (ps_ret (pe_op op_add_str (pe_op op_add_str (pe_slice sl_str (pv 0) po_none (po_some (pv 1))) (pv 2)) (pe_slice sl_str (pv 0) (po_some (pe_op op_add (pv 1) pe_int)) po_none))), ?_⟩
    have hz : (px q).length ≤ sizeLine := by rw [px_len]; exact sz6 (by omega)
    have l1 : (cutS (px q) none (some (p : Int))).length ≤ 100 := by rw [cut_lo, px_len, List.length_take]; omega
    have l2 : (cutS (px q) (some ((p : Int) + 1)) none).length ≤ 100 := by
      rw [show (p : Int) + 1 = ((p + 1 : Nat) : Int) by omega, cut_hi q (p + 1) hp, px_len, List.length_drop]
      omega
    have l3 : (tx [b]).length = 1 := tx_len _
    refine ⟨_, rfl, _, rfl, (p : Int), rfl, px q, rfl, hz, _, rfl, _, _, rfl, rfl, sz6 (by omega), ?_⟩
    refine ⟨_, rfl, _, rfl, (p : Int), 1, rfl, rfl, (p : Int) + 1, rfl, px q, rfl, hz, _, _, rfl, rfl, sz6 (by rw [len_app]; omega), ?_⟩
    show Q (V.str (cutS (px q) none (some (p : Int)) ++ tx [b] ++ cutS (px q) (some ((p : Int) + 1)) none)) H
    rw [put_px hp]
    exact k
def sp_w_spots : Sp := fun vs H Q _ => ∃ (q : LM.Pat), vs = [.str (px q)] ∧ q.length ≤ 100 ∧ RetL ((LM.spots q).map fun p => V.int (p : Nat)) H Q
theorem ok_w_spots (D : DfM K mg "_law_open_spots" s_w_open_spots) (G : Gs K mg) : Ct P w K mg base 1 "_law_open_spots" sp_w_spots := by
  refine ct_of D sc_w_open_spots (fun vs H Q E h => ?_) (fun _ _ _ _ _ _ us hl => match us, hl with | [_], _ => rfl) (fun f cdv A outer s H vs Q E hr h => ?_)
  · obtain ⟨_, rfl, _⟩ := h
    rfl
  · obtain ⟨q, rfl, hq, k⟩ := h
    refine ⟨_, pss_one (ps_ret (pe_lc (own := [("_law_k", 1)]) (g := gName 1) (by rfl) sc_w_open_spots.nd (pi_range1 (by rfl) G.range (pa_cons (pe_callB call_len_str (by rfl) G.len boot_len (pa_cons (pv 0) pa_nil)) pa_nil))
      (blkOk_by (own := [("_law_k", 1)]) (N := ["_law_pattern", "_law_k"]) (sc := defScope s_w_open_spots) (by decide +kernel)) (fun _ _ _ _ _ => pg_name (i := 1) sc_w_open_spots.nd rfl (Or.inl rfl))
      (fun _ _ _ _ _ => pts_one (pt_cmpR op_eq (pe_ix (r := rIxS) ix_str (pv 0) (pv 1) (fun _ _ => rfl)) pe_str (nomark _))) (fun _ _ _ _ _ => pv 1))), ?_⟩
    have hz : (px q).length ≤ sizeLine := by rw [px_len]; exact sz6 (by omega)
    refine ⟨_, rfl, px q, rfl, hz, ((px q).length : Int), rfl, by rw [px_len]; omega, by rw [px_len]; omega, fun D0 hD => ?_⟩
    refine lc_filter (walk_range (lo := 0) (n := ((px q).length : Int).toNat)) hD (List.range q.length) (fun p => V.int (p : Nat)) (fun p => q.getD p none == none) (by rw [List.length_range, px_len]; omega) (by rw [px_len]; omega) (fun _ _ => trivial) ?_ ?_
    · rintro i x H2 H' p Q2 Qn hi e2 ⟨rfl, rfl⟩ hp kk kn
      have hi2 : i < q.length := by rw [px_len] at hi; omega
      have ep : p = i := by
        rw [List.getElem?_range hi2] at hp
        exact (Option.some.inj hp).symm
      subst ep
      have ei : (0 : Int) + (p : Nat) = (p : Nat) := by omega
      show gName 1 (V.int ((0 : Int) + (p : Nat))) _ _ _
      rw [ei]
      have hg : q[p]? = some (q.getD p none) := by rw [List.getD_eq_getElem?_getD, List.getElem?_eq_getElem hi2]; rfl
      refine ⟨rfl, _, rfl, _, rfl, px q, (p : Int), pc (q.getD p none), rfl, rfl, hz, atI_nat (by rw [px_codes, List.getElem?_map, hg]; rfl), rfl, _, rfl, ite2 (fun z => ?_) (fun z => ?_)⟩
      · refine ⟨_, rfl, kk _ _ (Evl.Ex.refl _) ?_ rfl⟩
        have z1 : px [q.getD p none] = ("-" : Str) := V.str.inj (of_decide_eq_true z)
        rw [← px_one.1] at z1
        have := px_inj z1
        rw [beq_iff_eq]
        simpa using this
      · refine kn _ (Evl.Ex.refl _) ?_
        rw [beq_eq_false_iff_ne]
        intro e
        refine z (decide_eq_true ?_)
        rw [e]
        exact congrArg V.str px_one.1
    · intro H2 e2 d
      exact k D0 H2 hD e2 d
def nts (ms : List Nat) : List V := ms.map fun n => V.int (n : Nat)
def sp_w_mixed (K : PySem.W.Frag) : Sp := fun vs H Q _ => ∃ (b t : Addr) (ns : List Nat) (as : List Addr), vs = [.ref b, .ref t] ∧ BagAt K H b as ∧ (∀ a ∈ as, H a ≠ none) ∧ SqL K H t (nts ns) ∧ ns.length ≤ 100 ∧
  ∀ (r : Addr) (ms : List Nat) (H2 : Hp), H r = none → Xd b H H2 → BagAt K H2 b as → H2 r = some (.lst (nts ms)) → ms.length = ns.length → (∀ m ∈ ms, m ∈ ns) → Q (.ref r) H2
theorem ok_w_mixed (D : DfM K mg "_law_mixed" s_w_mixed) (G : Gs K mg) (C1 : Ct P w K mg base 1 "_law_draw" (sp_draw K)) : Ct P w K mg base 2 "_law_mixed" (sp_w_mixed K) := by
  refine ct_of D sc_w_mixed (fun vs H Q E h => ?_) (fun _ _ _ _ _ _ us hl => match us, hl with | [_, _], _ => rfl) (fun f cdv A outer s H vs Q E hr h => ?_)
  · obtain ⟨_, _, _, _, rfl, _⟩ := h
    rfl
  · obtain ⟨b, t, ns, as, rfl, hB, has, ht, hn, k⟩ := h
    refine ⟨_, pss_cons (ps_set (i := 2) sc_w_mixed.nd rfl (.inl rfl) (pe_callTy call_list_of (by rfl) G.list boot_list (pa_cons (pv 1) pa_nil)))
      (pss_cons (ps_set (i := 3) sc_w_mixed.nd rfl (.inl rfl) (pe_lst pa_nil))
      (pss_cons (ps_for PassesOwn.never rfl (pi_range1 (by rfl) G.range (pa_cons (pe_callB call_len_seq (by rfl) G.len boot_len (pa_cons (pv 1) pa_nil)) pa_nil)) (pg_name (i := 4) sc_w_mixed.nd rfl (.inl rfl))
        (pss_one (ps_expr (pe_bm PySem.F.plainAttrs_list PySem.F.slot_list_append PySem.F.type_list_append mt_append (pv 3) (pa_cons (pe_bm PySem.F.plainAttrs_list PySem.F.slot_list_pop PySem.F.type_list_pop mt_popAt (pv 2)
          (pa_cons (pe_ct C1 hr (by rfl) (pa_cons (pv 0) (pa_cons (pe_callB call_len_seq (by rfl) G.len boot_len (pa_cons (pv 2) pa_nil)) pa_nil))) pa_nil)) pa_nil)))))
      (pss_one (ps_ret (pv 3))))), ?_⟩
    refine ⟨_, rfl, t, _, rfl, .inl ht, fun L hL => ?_⟩
    have eL : Ex H (upd H L (.lst (nts ns))) := Ex.new hL
    refine ⟨by show 0 ≤ sizeLine; exact Nat.zero_le _, fun F hF => ?_⟩
    have nLF : L ≠ F := fun e => by rw [← e, upd_same] at hF; cases hF
    have eF : Ex (upd H L (.lst (nts ns))) (upd (upd H L (.lst (nts ns))) F (.lst [])) := Ex.new hF
    have hF0 := Evl.fresh_back eL hF
    have e2 := eL.trans eF
    have nb : b ≠ L ∧ b ≠ F := ⟨fun e => hB.at (e ▸ hL), fun e => hB.at (e ▸ hF0)⟩
    have hB2 : BagAt K (upd (upd H L (.lst (nts ns))) F (.lst [])) b (F :: L :: as) := (((hB.grow hL).ex eL).grow hF).ex eF
    have hL2 := eF _ _ (upd_same (H := H) (a := L) (o := .lst (nts ns)))
    have hln : (nts ns).length = ns.length := List.length_map ..
    refine ⟨_, rfl, t, _, rfl, .inl (Evl.ex_l e2 ht), ((nts ns).length : Int), rfl, by rw [hln]; omega, by rw [hln]; omega, ?_⟩
    refine for_range (n := (((nts ns).length : Int)).toNat) (fun i σ H' => ∃ (x4 : Option V) (ls fs : List Nat), σ = [some (.ref b), some (.ref t), some (.ref L), some (.ref F), x4] ∧ Xd b H H' ∧ H' L = some (.lst (nts ls)) ∧ H' F = some (.lst (nts fs)) ∧
        ls.length + i = ns.length ∧ fs.length = i ∧ (∀ m ∈ ls, m ∈ ns) ∧ (∀ m ∈ fs, m ∈ ns) ∧ BagAt K H' b (F :: L :: as)) ⟨none, ns, [], rfl, Xd.of e2, hL2, upd_same, rfl, rfl, fun _ h => h, (fun _ h => nomatch h), hB2⟩ ?_ ?_
    · rintro i σ H3 hi ⟨x4, ls, fs, rfl, x3, hL3, hF3, h1, h2, h3, h4, hB3⟩
      have hi2 : i < ns.length := by rw [hln] at hi; omega
      have hll : (nts ls).length = ls.length := List.length_map ..
      have hfl : (nts fs).length = fs.length := List.length_map ..
      refine ⟨_, rfl, .inl ⟨rfl, _, .of hF3⟩, _, rfl, .inl ⟨rfl, _, .of hL3⟩, _, rfl, _, rfl, L, _, rfl, .inl (.of hL3), b, ls.length, F :: L :: as, by rw [hll], by omega, by omega, hB3, ?_, fun d H4 hd x4' hB4 => ?_⟩
      · intro a ha
        rcases List.mem_cons.mp ha with e | ha
        · rw [e, hF3]; exact fun e => nomatch e
        · rcases List.mem_cons.mp ha with e | ha
          · rw [e, hL3]; exact fun e => nomatch e
          · have h5 := has a ha
            intro e
            cases q : H a with
            | none => exact h5 q
            | some o =>
              by_cases eab : a = b
              · rw [eab] at e
                exact hB3.at e
              · rw [x3 _ _ eab q] at e
                cases e
      · have hL4 := lst_xb x4' nb.1.symm hL3
        have hF4 := lst_xb x4' nb.2.symm hF3
        have hdl : ls[d]? = some ls[d] := List.getElem?_eq_getElem hd
        refine ⟨L, _, (d : Int), d, .int (ls[d] : Nat), rfl, rfl, hL4, by omega, by omega, ?_, by unfold nts; rw [List.getElem?_map, hdl]; rfl, ?_⟩
        · rw [seqIndex_of (by omega) (by rw [hll]; omega), Int.toNat_natCast]
        have hF5 : (upd H4 L (.lst ((nts ls).eraseIdx d))) F = some (.lst (nts fs)) := by rw [upd_ne nLF.symm]; exact hF4
        have hmem : ls[d] ∈ ns := h3 _ (List.getElem_mem hd)
        refine ⟨F, _, _, rfl, rfl, hF5, by rw [hfl]; exact small1000 (by omega), ?_⟩
        have eer : (nts ls).eraseIdx d = nts (ls.eraseIdx d) := by exact eraseIdx_map' _ _ _
        refine ⟨_, ls.eraseIdx d, fs ++ [ls[d]], rfl, ((x3.trans x4').mut hL).mut hF0, ?_, ?_, ?_, by rw [List.length_append, List.length_singleton, h2], fun m hm => h3 m (List.mem_of_mem_eraseIdx hm), fun m hm => ?_, ?_⟩
        · rw [upd_ne nLF, upd_same, eer]
        · rw [upd_same]
          unfold nts
          rw [List.map_append]
          rfl
        · rw [List.length_eraseIdx, if_pos hd]
          omega
        · rcases List.mem_append.mp hm with q | q
          · exact h4 m q
          · rw [List.mem_singleton.mp q]; exact hmem
        · exact (hB4.upd (List.mem_cons_of_mem _ List.mem_cons_self) nb.1.symm).upd List.mem_cons_self nb.2.symm
    · rintro σ H3 ⟨x4, ls, fs, rfl, x3, hL3, hF3, h1, h2, h3, h4, hB3⟩
      rw [hln] at h1 h2
      refine ⟨_, rfl, k F fs H3 hF0 x3 (hB3.less fun x hx => List.mem_cons_of_mem _ (List.mem_cons_of_mem _ hx)) hF3 (by omega) h4⟩
end
end LL

/-! Leastlooks, the law's helpers: a rule's table. -/
namespace LL
open PySem PySem.Spec PyProof.Rows L2
open Evl (Ex RetV RetL)
theorem rgV_nts (n : Nat) : rgV 0 (n : Int) = nts (List.range n) := by
  unfold rgV nts
  rw [Int.sub_zero, Int.toNat_natCast]
  refine List.map_congr_left fun i _ => ?_
  rw [Int.zero_add]
theorem ms_at {ms : List Nat} {n : Nat} (hl : ms.length = n) (h1 : 1 ≤ n) (h3 : n ≤ 3) (hm : ∀ m ∈ ms, m < n) : (∃ m, m < n ∧ atI (nts ms) (-1) = some (.int (m : Nat))) ∧ (∃ m, m < n ∧ atI (nts ms) ((n : Int) / 2) = some (.int (m : Nat))) ∧ (∃ m, m < n ∧ atI (nts ms) 0 = some (.int (m : Nat))) := by
  match ms, hl with
  | [], hl => exact absurd hl (by simp; omega)
  | [a], hl => subst hl; exact ⟨⟨a, hm a (by simp), rfl⟩, ⟨a, hm a (by simp), by rw [show (([a].length : Nat) : Int) / 2 = 0 from (show ((1 : Nat) : Int) / 2 = 0 by decide)]; rfl⟩, ⟨a, hm a (by simp), rfl⟩⟩
  | [a, b], hl => subst hl; exact ⟨⟨b, hm b (by simp), rfl⟩, ⟨b, hm b (by simp), by rw [show (([a, b].length : Nat) : Int) / 2 = 1 from (show ((2 : Nat) : Int) / 2 = 1 by decide)]; rfl⟩, ⟨a, hm a (by simp), rfl⟩⟩
  | [a, b, c], hl => subst hl; exact ⟨⟨c, hm c (by simp), rfl⟩, ⟨b, hm b (by simp), by rw [show (([a, b, c].length : Nat) : Int) / 2 = 1 from (show ((3 : Nat) : Int) / 2 = 1 by decide)]; rfl⟩, ⟨a, hm a (by simp), rfl⟩⟩
  | _ :: _ :: _ :: _ :: _, hl => exact absurd hl (by simp; omega)
theorem cut_nts (ms : List Nat) (lo hi : Option Int) : ∃ ks : List Nat, cutV (nts ms) lo hi = nts ks ∧ (∀ k ∈ ks, k ∈ ms) ∧ ks.length ≤ ms.length := by
  unfold cutV nts
  rw [← List.map_drop, ← List.map_take]
  exact ⟨_, rfl, fun k hk => List.mem_of_mem_drop (List.mem_of_mem_take hk), by rw [List.length_take, List.length_drop]; omega⟩
theorem at_tx {t : List Bool} {k : Nat} (h : k < t.length) : atI (tx t).cps.toList ((k : Nat) : Int) = some (cd (t.getD k false)) := by
  refine atI_nat ?_
  rw [tx_codes, List.getElem?_map, List.getD_eq_getElem?_getD, List.getElem?_eq_getElem h]
  rfl
theorem one_iff (b : Bool) : decide (V.str ⟨#[cd b]⟩ = V.str "1") = b := by cases b <;> decide +kernel
theorem bit_at (g : Bool) : atI ([V.str "0", V.str "1"] : List V) (if g = true then 1 else 0) = some (V.str (tx [g])) := by cases g <;> decide +kernel
section
variable {P : Program} {w : World} {K : PySem.W.Frag} {mg : Str → Option Value} {base : Heap}
def sp_w_rule (K : PySem.W.Frag) : Sp := fun vs H Q _ => ∃ (b : Addr) (n way : Nat) (as : List Addr), vs = [.ref b, .int (n : Int), .int (way : Int)] ∧ 1 ≤ n ∧ n ≤ 3 ∧ BagAt K H b as ∧ (∀ a ∈ as, H a ≠ none) ∧
  ∀ (tb : List Bool) (H2 : Hp), tb.length = 2 ^ n → Xd b H H2 → BagAt K H2 b as → Q (.str (tx tb)) H2
theorem has_xd {b : Addr} {K : PySem.W.Frag} {H H' : Hp} {as bs : List Addr} (x : Xd b H H') (hB : BagAt K H' b bs) (h : ∀ a ∈ as, H a ≠ none) : ∀ a ∈ as, H' a ≠ none := fun a ha e => by
  cases q : H a with
  | none => exact h a ha q
  | some o =>
    by_cases eab : a = b
    · rw [eab] at e; exact hB.at e
    · rw [x _ _ eab q] at e; cases e
theorem ok_w_rule (D : DfM K mg "_law_rule" s_w_rule) (G : Gs K mg) (C1 : Ct P w K mg base 2 "_law_mixed" (sp_w_mixed K)) (C2 : Ct P w K mg base 2 "_law_draw" (sp_draw K)) (C3 : Ct P w K mg base 2 "_law_inputs" sp_w_inputs) : Ct P w K mg base 3 "_law_rule" (sp_w_rule K) := by
  refine ct_of D sc_w_rule (fun vs H Q E h => ?_) (fun _ _ _ _ _ _ us hl => match us, hl with | [_, _, _], _ => rfl) (fun f cdv A outer s H vs Q E hr h => ?_)
  · obtain ⟨_, _, _, _, rfl, _⟩ := h
    rfl
  · obtain ⟨b, n, way, as, rfl, hn1, hn, hB, has, k⟩ := h
    refine ⟨_, pss_cons (ps_set (i := 3) sc_w_rule.nd rfl (.inl rfl) (pe_ct C1 hr (by rfl) (pa_cons (pv 0) (pa_cons (pe_listRg rfl (by rfl) G.list (prg_1 (by rfl) G.range (pv 1))) pa_nil))))
      (pss_cons (ps_set (i := 4) sc_w_rule.nd rfl (.inl rfl) (pe_ct C2 hr (by rfl) (pa_cons (pv 0) (pa_cons (pe_op op_add (pv 1) pe_int) pa_nil))))
      (pss_cons (ps_set (i := 5) sc_w_rule.nd rfl (.inl rfl) (pe_slice sl_list (pv 3) po_none (po_some (pe_op op_add pe_int (pe_ct C2 hr (by rfl) (pa_cons (pv 0) (pa_cons (pv 1) pa_nil)))))))
      (pss_cons (ps_set (i := 6) sc_w_rule.nd rfl (.inl rfl) pe_str)
      (pss_cons (ps_for PassesOwn.never rfl (pi_list (pe_ct C3 hr (by rfl) (pa_cons (pv 1) pa_nil))) (pg_name (i := 7) sc_w_rule.nd rfl (.inr rfl))
        (pss_cons (ps_setLc (i := 8) (own := [("_law_k", 10)]) (g := gName 10) (by rfl) sc_w_rule.nd rfl rfl (sw_true rfl rfl rfl (by decide +kernel)) (pi_list (pv 5))
          (blkOk_by (own := [("_law_k", 10)]) (N := ["_law_bag_here", "_law_many", "_law_way", "_law_some", "_law_cut", "_law_piece", "_law_table_here", "_law_text", "_law_ones", "_law_good", "_law_k"]) (sc := defScope s_w_rule) (by decide +kernel)) (fun _ _ _ _ _ => pg_name (i := 10) sc_w_rule.nd rfl (Or.inl rfl))
          (fun _ _ _ _ _ => pts_one (pt_cmpR op_eq (pe_ix (r := rIxS) ix_str (pv 7) (pv 10) (fun _ _ => rfl)) pe_str (nomark _))) (fun _ _ _ _ _ => pv 10))
        (pss_cons (ps_set (i := 9) sc_w_rule.nd rfl (.inl rfl) (pe_cmpR op_ge (pe_bm PySem.F.plainAttrs_str PySem.F.slot_str_count PySem.F.type_str_count mt_count (pv 7) (pa_cons pe_str pa_nil)) (pv 4) (nomark _)))
        (pss_cons (ps_if (pt_cmpR op_eq (pv 2) pe_int (nomark _)) (pss_one (ps_set (i := 9) sc_w_rule.nd rfl (.inl rfl) (pe_cmpR op_eq (pe_op op_mod (pe_callB call_len_seq (by rfl) G.len boot_len (pa_cons (pv 8) pa_nil)) pe_int) pe_int (nomark _)))) pss_nil)
        (pss_cons (ps_if (pt_cmpR op_eq (pv 2) pe_int (nomark _)) (pss_one (ps_set (i := 9) sc_w_rule.nd rfl (.inl rfl) (pe_or (pe_cmpR op_eq (pe_callB call_len_seq (by rfl) G.len boot_len (pa_cons (pv 8) pa_nil)) (pe_callB call_len_seq (by rfl) G.len boot_len (pa_cons (pv 5) pa_nil)) (nomark _))
          (pe_one (pe_cmpR op_eq (pe_ix ix_str (pv 7) (pe_ix ix_list (pv 3) (pe_un un_neg pe_int) (fun _ _ => rfl)) (fun _ _ => rfl)) pe_str (nomark _)))))) pss_nil)
        (pss_cons (ps_if (pt_cmpR op_eq (pv 2) pe_int (nomark _)) (pss_one (ps_set (i := 9) sc_w_rule.nd rfl (.inl rfl) (pe_cmpR op_eq (pe_ix ix_str (pv 7)
          (pe_ix ix_list (pe_lst (pa_cons (pe_ix ix_list (pv 3) (pe_un un_neg pe_int) (fun _ _ => rfl)) (pa_cons (pe_ix ix_list (pv 3) (pe_op op_fdiv (pe_callB call_len_seq (by rfl) G.len boot_len (pa_cons (pv 3) pa_nil)) pe_int) (fun _ _ => rfl)) pa_nil)))
            (pe_callTy call_int_str (by rfl) G.int boot_int (pa_cons (pe_ix ix_str (pv 7) (pe_ix ix_list (pv 3) pe_int (fun _ _ => rfl)) (fun _ _ => rfl)) pa_nil)) (fun _ _ => rfl)) (fun _ _ => rfl)) pe_str (nomark _)))) pss_nil)
        (pss_one (ps_set (i := 6) sc_w_rule.nd rfl (.inl rfl) (pe_op op_add_str (pv 6) (pe_ix ix_list (pe_lst (pa_cons pe_str (pa_cons pe_str pa_nil))) (pe_callTy call_int1 (by rfl) G.int boot_int (pa_cons (pv 9) pa_nil)) (fun _ _ => rfl)))))))))))
      (pss_one (ps_ret (pv 6))))))), ?_⟩
    refine ⟨_, rfl, _, rfl, (n : Int), rfl, ⟨by decide, by decide, by omega, by omega, by omega⟩, fun t ht => ?_⟩
    rw [rgV_nts]
    have e1 : Ex H (upd H t (.lst (nts (List.range n)))) := Ex.new ht
    refine ⟨b, t, List.range n, as, rfl, hB.ex e1, fun a ha e => has a ha (Evl.fresh_back e1 e), .of upd_same, by rw [List.length_range]; omega, fun r ms H2 hr2 x2 hB2 h2 hml hmm => ?_⟩
    rw [List.length_range] at hml
    have hmm : ∀ m ∈ ms, m < n := fun m hm => List.mem_range.mp (hmm m hm)
    have x02 : Xd b H H2 := (Xd.of e1).trans x2
    have nrb : r ≠ b := fun e => hB.at (e ▸ Evl.fresh_back e1 hr2)
    refine ⟨_, rfl, _, rfl, (n : Int), 2, rfl, rfl, b, n + 2, as, rfl, by omega, by omega, hB2, has_xd x02 hB2 has, fun d H3 hd x3 hB3 => ?_⟩
    have x03 := x02.trans x3
    have h3 := x3 _ _ nrb h2
    refine ⟨_, rfl, _, rfl, _, rfl, b, n, as, rfl, by omega, by omega, hB3, has_xd x03 hB3 has, fun d2 H4 hd2 x4 hB4 => ?_⟩
    have x04 := x03.trans x4
    have h4 := x4 _ _ nrb h3
    refine ⟨1, (d2 : Int), rfl, rfl, _, rfl, r, _, rfl, .of h4, fun p hp => ?_⟩
    obtain ⟨ks, eks, hks, hkl⟩ := cut_nts ms none (some (1 + (d2 : Int)))
    rw [eks]
    have e5 : Ex H4 (upd H4 p (.lst (nts ks))) := Ex.new hp
    refine ⟨_, rfl, n, rfl, hn, fun q H6 hq e6 h6 => ⟨q, rfl, ⟨_, .of h6⟩, ?_⟩⟩
    have e46 := e5.trans e6
    have r6 := e46 _ _ h4
    have p6 : H6 p = some (.lst (nts ks)) := e6 _ _ upd_same
    have hil := ins_len n
    have hi8 := ins_small hn
    obtain ⟨⟨m1, hm1, a1⟩, ⟨m2, hm2, a2⟩, ⟨m3, hm3, a3⟩⟩ := ms_at hml hn1 hn hmm
    refine for_list (xs := txs (LM.ins n)) (fun i σ H' => ∃ (tb : List Bool) (x7 x8 x9 : Option V), σ = [some (.ref b), some (.int (n : Int)), some (.int (way : Int)), some (.ref r), some (.int (d : Int)), some (.ref p), some (.str (tx tb)), x7, x8, x9, none] ∧ Ex H6 H' ∧ tb.length = i)
      ⟨[], none, none, none, by rw [tx0]; rfl, Ex.refl _, rfl⟩ (fun i σ H' _ z => ?_) ?_ ?_
    · obtain ⟨_, _, _, _, _, z, _⟩ := z
      exact .of (z _ _ h6)
    · rintro i x σ H7 hx ⟨tb, x7, x8, x9, rfl, e7, hti⟩
      unfold txs at hx
      rw [List.getElem?_map] at hx
      obtain ⟨t', ht', rfl⟩ := Option.map_eq_some_iff.mp hx
      have hi : i < (LM.ins n).length := (List.getElem?_eq_some_iff.mp ht').1
      have htl : t'.length = n := (LM.mem_ins n t').mp (List.mem_of_getElem? ht')
      have hz : (tx t').length ≤ sizeLine := line_tx (by omega)
      refine ⟨_, rfl, p, rfl, ⟨_, .of (e7 _ _ p6)⟩, fun D0 hD => ?_⟩
      refine lc_filter (walk_list (xs := nts ks)) hD ks (fun m => V.int (m : Nat)) (fun m => t'.getD m false) (by unfold nts; rw [List.length_map]) (by unfold nts; rw [List.length_map]; omega) (fun H8 e8 => .of (e8 _ _ (e7 _ _ p6))) ?_ ?_
      · rintro j x H8 H' m Q2 Qn hj e8 ⟨rfl, hx⟩ hm kk kn
        unfold nts at hx
        rw [List.getElem?_map, hm] at hx
        obtain rfl := Option.some.inj hx
        have hmn : m < n := hmm m (hks m (List.mem_of_getElem? hm))
        refine ⟨rfl, _, rfl, _, rfl, tx t', (m : Int), _, rfl, rfl, hz, at_tx (by omega), rfl, _, rfl, ?_⟩
        rw [one_iff]
        cases hg : t'.getD m false with
        | true => exact iteT ⟨_, rfl, kk _ _ (Ex.refl _) hg rfl⟩
        | false => exact iteF (kn _ (Ex.refl _) hg)
      · intro H8 e8 d8
        have e68 := e7.trans e8
        have r8 := e68 _ _ r6
        have p8 := e68 _ _ p6
        refine ⟨_, rfl, rfl, tx t', "1", rfl, rfl, _, rfl, _, _, rfl, rfl, ?_⟩
        refine ⟨_, rfl, rfl, _, rfl, ite2 (fun z1 => ?_) (fun z1 => ?_)⟩
        · have w1 : (way : Int) = 1 := V.int.inj (of_decide_eq_true z1)
          refine ⟨_, rfl, D0, _, rfl, .inl (.of d8), _, 2, rfl, rfl, (show (0 : Int) < 2 by decide), rfl, ?_⟩
          refine ⟨_, rfl, rfl, _, rfl, ite2 (fun z2 => absurd (w1.symm.trans (V.int.inj (of_decide_eq_true z2))) (by decide)) (fun z2 => ?_)⟩
          refine ⟨_, rfl, rfl, _, rfl, ite2 (fun z3 => absurd (w1.symm.trans (V.int.inj (of_decide_eq_true z3))) (by decide)) (fun z3 => ?_)⟩
          refine ⟨_, rfl, by show 2 ≤ sizeLine; decide, fun q2 hq2 => ?_⟩
          refine ⟨_, rfl, .inr ⟨_, rfl, q2, _, _, _, rfl, rfl, .of upd_same, bit_at _, tx tb, _, rfl, rfl, sz6 (by rw [tx_len, tx_len, List.length_singleton]; omega), tb ++ [_], _, _, _, by rw [tx_app]; rfl, e68.trans (Ex.new hq2), by rw [List.length_append, List.length_singleton, hti]⟩⟩
        · refine ⟨_, rfl, rfl, _, rfl, ite2 (fun z2 => ?_) (fun z2 => ?_)⟩
          · have w1 : (way : Int) = 2 := V.int.inj (of_decide_eq_true z2)
            refine ⟨_, rfl, D0, _, rfl, .inl (.of d8), _, rfl, p, _, rfl, .inl (.of p8), rfl, _, rfl, ite2 (fun zz => ?_) (fun zz => ?_)⟩
            · refine ⟨_, rfl, rfl, _, rfl, ite2 (fun z3 => absurd (w1.symm.trans (V.int.inj (of_decide_eq_true z3))) (by decide)) (fun z3 => ?_)⟩
              refine ⟨_, rfl, by show 2 ≤ sizeLine; decide, fun q2 hq2 => ?_⟩
              refine ⟨_, rfl, .inr ⟨_, rfl, q2, _, _, _, rfl, rfl, .of upd_same, bit_at _, tx tb, _, rfl, rfl, sz6 (by rw [tx_len, tx_len, List.length_singleton]; omega), tb ++ [_], _, _, _, by rw [tx_app]; rfl, e68.trans (Ex.new hq2), by rw [List.length_append, List.length_singleton, hti]⟩⟩
            · refine ⟨_, rfl, _, rfl, 1, rfl, r, _, -1, _, rfl, rfl, .of r8, a1, tx t', (m1 : Int), _, rfl, rfl, hz, at_tx (by omega), rfl, ?_⟩
              refine ⟨_, rfl, rfl, _, rfl, ite2 (fun z3 => absurd (w1.symm.trans (V.int.inj (of_decide_eq_true z3))) (by decide)) (fun z3 => ?_)⟩
              refine ⟨_, rfl, by show 2 ≤ sizeLine; decide, fun q2 hq2 => ?_⟩
              refine ⟨_, rfl, .inr ⟨_, rfl, q2, _, _, _, rfl, rfl, .of upd_same, bit_at _, tx tb, _, rfl, rfl, sz6 (by rw [tx_len, tx_len, List.length_singleton]; omega), tb ++ [_], _, _, _, by rw [tx_app]; rfl, e68.trans (Ex.new hq2), by rw [List.length_append, List.length_singleton, hti]⟩⟩
          · refine ⟨_, rfl, rfl, _, rfl, ite2 (fun z3 => ?_) (fun z3 => ?_)⟩
            · have hnl : (nts ms).length = n := by unfold nts; rw [List.length_map]; exact hml
              refine ⟨_, rfl, _, rfl, 1, rfl, r, _, -1, .int (m1 : Nat), rfl, rfl, .of r8, a1, ?_⟩
              refine ⟨_, rfl, _, rfl, r, _, rfl, .inl (.of r8), _, 2, rfl, rfl, ⟨(show (0 : Int) < 2 by decide), (show (2 : Int) < 1073741824 by decide)⟩, r, _, _, .int (m2 : Nat), rfl, rfl, .of r8, by rw [hnl]; exact a2, ?_⟩
              refine ⟨by show 2 ≤ sizeLine; decide, fun q1 hq1 => ?_⟩
              have e9 : Ex H8 (upd H8 q1 (.lst [.int (m1 : Nat), .int (m2 : Nat)])) := Ex.new hq1
              refine ⟨_, rfl, _, rfl, r, _, 0, .int (m3 : Nat), rfl, rfl, .of (e9 _ _ r8), a3, tx t', (m3 : Int), _, rfl, rfl, hz, at_tx (by omega), ⟨#[cd (t'.getD m3 false)]⟩, bi (t'.getD m3 false), rfl, int_sign _, by show 1 ≤ 640; decide, ?_⟩
              refine ⟨q1, [.int (m1 : Nat), .int (m2 : Nat)], bi (t'.getD m3 false), .int ((if t'.getD m3 false then m2 else m1 : Nat) : Int), rfl, rfl, .of upd_same, by cases t'.getD m3 false <;> rfl, tx t', ((if t'.getD m3 false then m2 else m1 : Nat) : Int), _, rfl, rfl, hz, at_tx (by cases t'.getD m3 false <;> (simp; omega)), rfl, ?_⟩
              refine ⟨_, rfl, by show 2 ≤ sizeLine; decide, fun q2 hq2 => ?_⟩
              refine ⟨_, rfl, .inr ⟨_, rfl, q2, _, _, _, rfl, rfl, .of upd_same, bit_at _, tx tb, _, rfl, rfl, sz6 (by rw [tx_len, tx_len, List.length_singleton]; omega), tb ++ [_], _, _, _, by rw [tx_app]; rfl, (e68.trans e9).trans (Ex.new hq2), by rw [List.length_append, List.length_singleton, hti]⟩⟩
            · skip
              refine ⟨_, rfl, by show 2 ≤ sizeLine; decide, fun q2 hq2 => ?_⟩
              refine ⟨_, rfl, .inr ⟨_, rfl, q2, _, _, _, rfl, rfl, .of upd_same, bit_at _, tx tb, _, rfl, rfl, sz6 (by rw [tx_len, tx_len, List.length_singleton]; omega), tb ++ [_], _, _, _, by rw [tx_app]; rfl, e68.trans (Ex.new hq2), by rw [List.length_append, List.length_singleton, hti]⟩⟩
    · rintro σ H7 ⟨tb, x7, x8, x9, rfl, e7, hti⟩
      unfold txs at hti
      rw [List.length_map, hil] at hti
      exact ⟨_, rfl, k tb H7 hti (x04.trans (Xd.of (e46.trans e7))) (hB4.ex (e46.trans e7))⟩
end
end LL

/-! Leastlooks, the law's helpers: a table. -/
namespace LL
open PySem PySem.Spec PyProof.Rows L2
open Evl (Ex RetV RetL)
theorem at_bits (c : Nat) (hc : c < 2) (g : Bool) : ∃ z : Str, atI ([V.str "01", V.str "10"] : List V) ((c : Nat) : Int) = some (V.str z) ∧ z.length = 2 ∧ ∃ e : Bool, atI z.cps.toList (if g = true then 1 else 0) = some (cd e) := by
  match c, hc with
  | 0, _ => exact ⟨"01", rfl, by decide +kernel, by cases g; exact ⟨false, by decide +kernel⟩; exact ⟨true, by decide +kernel⟩⟩
  | 1, _ => exact ⟨"10", rfl, by decide +kernel, by cases g; exact ⟨true, by decide +kernel⟩; exact ⟨false, by decide +kernel⟩⟩
theorem at_share (w : Nat) : ∃ m : Nat, 0 < m ∧ m ≤ 5 ∧ atI ([V.int 2, V.int 2, V.int 3, V.int 5] : List V) ((w : Int) % 4) = some (V.int (m : Nat)) := by
  have h : (w : Int) % 4 = ((w % 4 : Nat) : Int) := by omega
  rw [h]
  have h4 : w % 4 < 4 := Nat.mod_lt _ (by decide)
  generalize w % 4 = r at h4
  match r, h4 with
  | 0, _ => exact ⟨2, by decide, by decide, rfl⟩
  | 1, _ => exact ⟨2, by decide, by decide, rfl⟩
  | 2, _ => exact ⟨3, by decide, by decide, rfl⟩
  | 3, _ => exact ⟨5, by decide, by decide, rfl⟩
theorem bit_at2 (c : Nat) (hc : c < 2) : ∃ e : Bool, atI ([V.str "0", V.str "1"] : List V) ((c : Nat) : Int) = some (V.str (tx [e])) := by
  match c, hc with
  | 0, _ => exact ⟨false, by decide +kernel⟩
  | 1, _ => exact ⟨true, by decide +kernel⟩
theorem join_tx (bs : List Bool) : Txt.join ("" : Str) (bs.map fun b => tx [b]) = tx bs := by
  have e0 : ("" : Str) = SX.S [] := by decide +kernel
  have e1 : (bs.map fun b => tx [b]) = (bs.map fun b => [cd b]).map SX.S := by
    rw [List.map_map]
    rfl
  rw [e0, e1, SX.join_S]
  have key : ∀ bs : List Bool, TL.joinL [] (bs.map fun b => [cd b]) = bs.map cd := by
    intro bs
    induction bs with
    | nil => rfl
    | cons a r ih =>
      cases r with
      | nil => rfl
      | cons c r => exact congrArg (cd a :: ·) ih
  rw [key]
  rfl
section
variable {P : Program} {w : World} {K : PySem.W.Frag} {mg : Str → Option Value} {base : Heap}
def sp_w_table (K : PySem.W.Frag) : Sp := fun vs H Q _ => ∃ (b : Addr) (n : Nat) (as : List Addr), vs = [.ref b, .int (n : Int)] ∧ 1 ≤ n ∧ n ≤ 3 ∧ BagAt K H b as ∧ (∀ a ∈ as, H a ≠ none) ∧
  ∀ (tb : List Bool) (H2 : Hp), tb.length = 2 ^ n → Xd b H H2 → BagAt K H2 b as → Q (.str (tx tb)) H2
theorem ok_w_table (D : DfM K mg "_law_table" s_w_table) (G : Gs K mg) (C1 : Ct P w K mg base 3 "_law_rule" (sp_w_rule K)) (C2 : Ct P w K mg base 3 "_law_draw" (sp_draw K)) (C3 : Ct P w K mg base 3 "_law_inputs" sp_w_inputs) : Ct P w K mg base 4 "_law_table" (sp_w_table K) := by
  refine ct_of D sc_w_table (fun vs H Q E h => ?_) (fun _ _ _ _ _ _ us hl => match us, hl with | [_, _], _ => rfl) (fun f cdv A outer s H vs Q E hr h => ?_)
  · obtain ⟨_, _, _, rfl, _⟩ := h
    rfl
  · obtain ⟨b, n, as, rfl, hn1, hn, hB, has, k⟩ := h
    have h28 : 2 ^ n ≤ 8 := Nat.pow_le_pow_right (by decide) hn
    have h20 : 0 < 2 ^ n := Nat.pow_pos (by decide)
    have tail : ∃ tl, PSs (cxOf CX0 P w K mg base ["_law_bag_here", "_law_many", "_law_way", "_law_table_here", "_law_share", "_law_bits", "_law_k", "_law_at"] "_law_table" (defScope s_w_table) f cdv A outer s H E).nox ((defBody s_w_table).drop 2) tl ∧
        ∀ x2 x4 x5 x6 x7 (tb : List Bool) H2, tb.length = 2 ^ n → Xd b H H2 → BagAt K H2 b as → tl { nx := fun _ H' => Q .non H', rt := Q } [some (.ref b), some (.int (n : Int)), x2, some (.str (tx tb)), x4, x5, x6, x7] H2 := by
      refine ⟨_, pss_cons (ps_for PassesOwn.never rfl (pi_range1 (by rfl) G.range (pa_cons (pe_ct C2 hr (by rfl) (pa_cons (pv 0) (pa_cons pe_int pa_nil))) pa_nil)) (pg_name (i := 6) sc_w_table.nd rfl (.inl rfl))
          (pss_cons (ps_set (i := 7) sc_w_table.nd rfl (.inl rfl) (pe_ct C2 hr (by rfl) (pa_cons (pv 0) (pa_cons (pe_callB call_len_str (by rfl) G.len boot_len (pa_cons (pv 3) pa_nil)) pa_nil))))
          (pss_one (ps_if (pt_cmpR op_eq (pe_ct C2 hr (by rfl) (pa_cons (pv 0) (pa_cons pe_int pa_nil))) pe_int (nomark _))
            (pss_one (ps_set (i := 3) sc_w_table.nd rfl (.inl rfl) (pe_op op_add_str (pe_op op_add_str (pe_slice sl_str (pv 3) po_none (po_some (pv 7)))
              (pe_ix ix_list (pe_lst (pa_cons pe_str (pa_cons pe_str pa_nil))) (pe_ct C2 hr (by rfl) (pa_cons (pv 0) (pa_cons pe_int pa_nil))) (fun _ _ => rfl))) (pe_slice sl_str (pv 3) (po_some (pe_op op_add (pv 7) pe_int)) po_none)))) pss_nil))))
        (pss_one (ps_ret (pv 3))), ?_⟩
      rintro x2 x4 x5 x6 x7 tb H2 htb x02 hB2
      refine ⟨_, rfl, b, 3, as, rfl, by decide, by decide, hB2, has_xd x02 hB2 has, fun m H3 hm x3 hB3 => ?_⟩
      refine ⟨(m : Int), rfl, by omega, by omega, ?_⟩
      refine for_range (n := ((m : Int)).toNat) (fun i σ H' => ∃ (tb : List Bool) (x6 x7 : Option V), σ = [some (.ref b), some (.int (n : Int)), x2, some (.str (tx tb)), x4, x5, x6, x7] ∧ tb.length = 2 ^ n ∧ Xd b H H' ∧ BagAt K H' b as) ⟨tb, x6, x7, rfl, htb, x02.trans x3, hB3⟩ ?_ ?_
      · rintro i σ H4 hi ⟨tb, x6, x7, rfl, htb, x4', hB4⟩
        have hz : (tx tb).length ≤ sizeLine := line_tx (by omega)
        refine ⟨_, rfl, _, rfl, tx tb, rfl, hz, b, 2 ^ n, as, by rw [tx_len, htb], by omega, by omega, hB4, has_xd x4' hB4 has, fun p H5 hp x5' hB5 => ?_⟩
        have x05 := x4'.trans x5'
        refine ⟨_, rfl, b, 3, as, rfl, by decide, by decide, hB5, has_xd x05 hB5 has, fun c H6 hc x6' hB6 => ?_⟩
        have x06 := x05.trans x6'
        refine ⟨rfl, _, rfl, ite2 (fun z => ?_) (fun z => ?_)⟩
        · refine ⟨_, rfl, _, rfl, (p : Int), rfl, tx tb, rfl, hz, by show 2 ≤ sizeLine; decide, fun q hq => ?_⟩
          have e7 : Ex H6 (upd H6 q (.lst [.str "0", .str "1"])) := Ex.new hq
          have nqb : q ≠ b := fun e => hB6.at (e ▸ hq)
          refine ⟨_, rfl, b, 2, as, rfl, by decide, by decide, hB6.ex e7, has_xd (x06.trans (Xd.of e7)) (hB6.ex e7) has, fun c2 H8 hc2 x8 hB8 => ?_⟩
          have q8 : H8 q = some (.lst [.str "0", .str "1"]) := x8 _ _ nqb upd_same
          obtain ⟨e, he⟩ := bit_at2 c2 hc2
          have hpl : p < tb.length := by omega
          have c1 : cutS (tx tb) none (some (p : Int)) = tx (tb.take p) := by rw [← px_tx, cut_lo, ← List.map_take, px_tx]
          have c2' : cutS (tx tb) (some ((p : Int) + 1)) none = tx (tb.drop (p + 1)) := by
            rw [show (p : Int) + 1 = ((p + 1 : Nat) : Int) by omega, ← px_tx, cut_hi _ _ (by rw [List.length_map]; omega), ← List.map_drop, px_tx]
          have z1 : (cutS (tx tb) none (some (p : Int))).length ≤ 8 := by rw [c1, tx_len, List.length_take]; omega
          have z2 : (cutS (tx tb) (some ((p : Int) + 1)) none).length ≤ 8 := by rw [c2', tx_len, List.length_drop]; omega
          have z3 : (tx [e]).length = 1 := tx_len _
          refine ⟨q, _, (c2 : Int), _, rfl, rfl, .of q8, he, _, _, rfl, rfl, sz6 (by omega), ?_⟩
          refine ⟨_, rfl, _, rfl, (p : Int), 1, rfl, rfl, _, rfl, tx tb, rfl, hz, _, _, rfl, rfl, sz6 (by rw [len_app]; omega), ?_⟩
          refine ⟨tb.set p e, some (.int ((0 : Int) + (i : Nat))), some (.int (p : Int)), ?_, by rw [List.length_set]; exact htb, (x06.trans (Xd.of e7)).trans x8, hB8⟩
          rw [← put_tx hpl]
          rfl
        · exact ⟨tb, _, _, rfl, htb, x06, hB6⟩
      · rintro σ H4 ⟨tb, x6, x7, rfl, htb, x4', hB4⟩
        exact ⟨_, rfl, k tb H4 htb x4' hB4⟩
    obtain ⟨tl, htl, htail⟩ := tail
    refine ⟨_, pss_cons (ps_set (i := 2) sc_w_table.nd rfl (.inl rfl) (pe_ct C2 hr (by rfl) (pa_cons (pv 0) (pa_cons pe_int pa_nil))))
      (pss_cons (ps_if (PW.pt (pw_and (pt_cmpR op_gt (pv 1) pe_int (nomark _)) (pw_and1 (pt_cmpR op_lt (pv 2) pe_int (nomark _)))))
        (pss_one (ps_set (i := 3) sc_w_table.nd rfl (.inl rfl) (pe_ct C1 hr (by rfl) (pa_cons (pv 0) (pa_cons (pv 1) (pa_cons (pv 2) pa_nil))))))
        (pss_cons (ps_set (i := 4) sc_w_table.nd rfl (.inr rfl) (pe_ix ix_list (pe_lst (pa_cons pe_int (pa_cons pe_int (pa_cons pe_int (pa_cons pe_int pa_nil))))) (pe_op op_mod (pe_callTy call_int1 (by rfl) G.int boot_int (pa_cons (pv 2) pa_nil)) pe_int) (fun _ _ => rfl)))
        (pss_cons (ps_set (i := 5) sc_w_table.nd rfl (.inr rfl) (pe_ix ix_list (pe_lst (pa_cons pe_str (pa_cons pe_str pa_nil))) (pe_ct C2 hr (by rfl) (pa_cons (pv 0) (pa_cons pe_int pa_nil))) (fun _ _ => rfl)))
        (pss_one (ps_set (i := 3) sc_w_table.nd rfl (.inl rfl) (pe_join pe_str (pe_lc (own := [("_law_k", 6)]) (g := gName 6) (tt := tYes) (by rfl) sc_w_table.nd (pi_range1 (by rfl) G.range (pa_cons (pe_callB call_len_seq (by rfl) G.len boot_len (pa_cons (pe_ct C3 hr (by rfl) (pa_cons (pv 1) pa_nil)) pa_nil)) pa_nil))
          (blkOk_by (own := [("_law_k", 6)]) (N := ["_law_bag_here", "_law_many", "_law_way", "_law_table_here", "_law_share", "_law_bits", "_law_k", "_law_at"]) (sc := defScope s_w_table) (by decide +kernel)) (fun _ _ _ _ _ => pg_name (i := 6) sc_w_table.nd rfl (Or.inl rfl)) (fun _ _ _ _ _ => pts_nil)
          (fun _ _ _ _ _ => pe_ix (r := rIxS) ix_str (pv 5) (pe_callTy call_int1 (by rfl) G.int boot_int (pa_cons (pe_cmpR op_eq (pe_ctN C2 hr (by rfl) (pa_cons (pv 0) (pa_cons (pv 4) pa_nil))) pe_int (nomark _)) pa_nil)) (fun _ _ => rfl))))))))) htl), ?_⟩
    refine ⟨_, rfl, b, 8, as, rfl, by decide, by decide, hB, has, fun way H2 hway x2 hB2 => ?_⟩
    refine ⟨_, rfl, (n : Int), 0, rfl, rfl, _, rfl, ?_⟩
    rw [decide_eq_true (show (0 : Int) < (n : Int) by omega)]
    refine iteT ⟨_, rfl, (way : Int), 4, rfl, rfl, _, rfl, ite2 (fun z => ?_) (fun z => ?_)⟩
    · refine ⟨_, rfl, _, rfl, _, rfl, b, n, way, as, rfl, hn1, hn, hB2, has_xd x2 hB2 has, fun tb H3 htb x3 hB3 => ?_⟩
      exact htail _ _ _ _ _ tb H3 htb (x2.trans x3) hB3
    · refine ⟨by show 4 ≤ sizeLine; decide, fun p hp => ?_⟩
      have e3 : Ex H2 (upd H2 p (.lst [.int 2, .int 2, .int 3, .int 5])) := Ex.new hp
      obtain ⟨m, hm0, hm5, ham⟩ := at_share way
      refine ⟨_, rfl, .inl ⟨(way : Int), rfl, (way : Int), 4, rfl, rfl, (show (0 : Int) < 4 by decide), p, _, _, .int (m : Nat), rfl, rfl, .of upd_same, ham, ?_⟩⟩
      refine ⟨by show 2 ≤ sizeLine; decide, fun p2 hp2 => ?_⟩
      have e4 : Ex (upd H2 p (.lst [.int 2, .int 2, .int 3, .int 5])) (upd (upd H2 p (.lst [.int 2, .int 2, .int 3, .int 5])) p2 (.lst [.str "01", .str "10"])) := Ex.new hp2
      have e24 := e3.trans e4
      have np2b : p2 ≠ b := fun e => (hB2.ex e3).at (e ▸ hp2)
      refine ⟨_, rfl, b, 2, as, rfl, by decide, by decide, hB2.ex e24, has_xd (x2.trans (Xd.of e24)) (hB2.ex e24) has, fun c H5 hc x5 hB5 => ?_⟩
      have q5 : H5 p2 = some (.lst [.str "01", .str "10"]) := x5 _ _ np2b upd_same
      have x05 : Xd b H H5 := (x2.trans (Xd.of e24)).trans x5
      obtain ⟨zs, hz1, hz2, _⟩ := at_bits c hc true
      refine ⟨p2, _, (c : Int), _, rfl, rfl, .of q5, hz1, ?_⟩
      refine ⟨⟨_, rfl⟩, _, rfl, n, rfl, hn, fun p6 H6 hp6 e6 h6 => ⟨p6, _, rfl, .inl (.of h6), ?_⟩⟩
      have hlt : (txs (LM.ins n)).length = 2 ^ n := by unfold txs; rw [List.length_map]; exact ins_len n
      rw [hlt]
      refine ⟨((2 ^ n : Nat) : Int), rfl, by omega, by omega, fun D0 hD => ?_⟩
      have x06 := x05.trans (Xd.of e6)
      have hB6 := hB5.ex e6
      have nDb : D0 ≠ b := fun e => hB6.at (e ▸ hD)
      have hD0 : H D0 = none := by
        cases q : H D0 with
        | none => rfl
        | some o => rw [x06 _ _ nDb q] at hD; cases hD
      refine lc_range (n := (((2 ^ n : Nat) : Int)).toNat) (fun i H' => Xd b H H' ∧ BagAt K H' b (D0 :: as) ∧ ∃ bs : List Bool, bs.length = i ∧ H' D0 = some (.lst ((bs.map fun e => tx [e]).map V.str))) ⟨x06.mut hD0, ((hB6.grow hD).upd List.mem_cons_self nDb), [], rfl, upd_same⟩ ?_ ?_
      · rintro i H7 hi ⟨x7, hB7, bs, hbs, h7⟩
        refine ⟨rfl, ?_⟩
        refine tyes (iteT ?_)
        refine ⟨_, rfl, _, rfl, _, rfl, b, m, D0 :: as, rfl, hm0, by omega, hB7, ?_, fun d H8 hd x8 hB8 => ?_⟩
        · intro a ha
          rcases List.mem_cons.mp ha with e | ha
          · rw [e, h7]; exact fun e => nomatch e
          · exact has_xd x7 hB7 has a ha
        · obtain ⟨z', hz1', hz2', e, he⟩ := at_bits c hc (decide (V.int (d : Int) = V.int 0))
          have ezz : z' = zs := by rw [hz1] at hz1'; exact (V.str.inj (Option.some.inj hz1')).symm
          rw [ezz] at he
          have h8 := x8 _ _ nDb h7
          refine ⟨rfl, .inr ⟨_, rfl, zs, _, cd e, rfl, rfl, by rw [hz2]; decide, he, _, h8, by rw [List.length_map, List.length_map]; exact small1000 (by omega), (x7.trans x8).mut hD0, hB8.upd List.mem_cons_self nDb, bs ++ [e], by rw [List.length_append, List.length_singleton, hbs], ?_⟩⟩
          rw [upd_same, List.map_append, List.map_append]
          rfl
      · rintro H7 ⟨x7, hB7, bs, hbs, h7⟩
        have hbs : bs.length = 2 ^ n := by omega
        refine ⟨"", D0, bs.map fun e => tx [e], rfl, rfl, .inl (.of h7), ?_, ?_⟩
        · have hs : ∀ bs : List Bool, ((bs.map fun e => tx [e]).map (·.length)).sum = bs.length := by
            intro bs
            induction bs with
            | nil => rfl
            | cons a r ih =>
              show (tx [a]).length + ((r.map fun e => tx [e]).map (·.length)).sum = r.length + 1
              rw [ih, tx_len, List.length_singleton]
              omega
          rw [hs, List.length_map, show ("" : Str).length = 0 from (by decide +kernel)]
          omega
        · rw [join_tx]
          exact htail _ _ _ _ _ bs H7 hbs x7 (hB7.less fun x hx => List.mem_cons_of_mem _ hx)
end
end LL

/-! Leastlooks, the law's helpers: worths, what patterns settle, needs. -/
namespace LL
open PySem PySem.Spec PyProof.Rows L2
open Evl (Ex RetV RetL)
/-- a dict of answers -/
def WAt (H : Hp) (d : Addr) (n : Nat) (f : List Bool → Bool) : Prop := ∃ kvs : List (Key × V), H d = some (.dK kvs) ∧ ∀ bs : List Bool, bs.length = n → valV kvs (.inr (tx bs)) = some (.int (bi (f bs)))
theorem WAt.ex {H H' : Hp} {d : Addr} {n : Nat} {f : List Bool → Bool} (h : WAt H d n f) (e : Ex H H') : WAt H' d n f := by
  obtain ⟨kvs, h1, h2⟩ := h
  exact ⟨kvs, e _ _ h1, h2⟩
def oV : Option Bool → V
  | none => .non
  | some b => .int (bi b)
theorem oV_inj {a b : Option Bool} (h : oV a = oV b) : a = b := by
  match a, b, h with
  | none, none, _ => rfl
  | none, some _, h => cases h
  | some _, none, h => cases h
  | some x, some y, h => rw [bi_inj (V.int.inj h)]
theorem oV_scal (a b : Option Bool) : scal (oV a) (oV b) = true := by cases a <;> cases b <;> rfl
def SAt (H : Hp) (d : Addr) (n : Nat) (g : LM.Pat → V) : Prop := ∃ kvs : List (Key × V), H d = some (.dK kvs) ∧ ∀ q : LM.Pat, q.length = n → valV kvs (.inr (px q)) = some (g q)
theorem SAt.ex {H H' : Hp} {d : Addr} {n : Nat} {g : LM.Pat → V} (h : SAt H d n g) (e : Ex H H') : SAt H' d n g := by
  obtain ⟨kvs, h1, h2⟩ := h
  exact ⟨kvs, e _ _ h1, h2⟩
def chkP (n : Nat) : Bool := (List.range (pats n).length).all fun i => match (pats n).reverse[i]? with
  | none => true
  | some q => (LM.spots q).all fun p => [false, true].all fun b => ((pats n).reverse.take i).contains (LM.put q p b)
theorem chk_all {n : Nat} (h : n ≤ 3) : chkP n = true := by
  match n, h with
  | 0, _ => decide +kernel
  | 1, _ => decide +kernel
  | 2, _ => decide +kernel
  | 3, _ => decide +kernel
theorem rev_put {n i p : Nat} {q : LM.Pat} (b : Bool) (hn : n ≤ 3) (hi : (pats n).reverse[i]? = some q) (hp : p ∈ LM.spots q) : LM.put q p b ∈ (pats n).reverse.take i := by
  have h := chk_all hn
  unfold chkP at h
  rw [List.all_eq_true] at h
  have hlt : i < (pats n).length := by
    have := (List.getElem?_eq_some_iff.mp hi).1
    rwa [List.length_reverse] at this
  have h1 := h i (List.mem_range.mpr hlt)
  rw [hi] at h1
  have h2 := List.all_eq_true.mp (List.all_eq_true.mp h1 p hp) b (by cases b <;> simp)
  exact List.contains_iff_mem.mp h2
theorem pats_small {n : Nat} (h : n ≤ 3) : (pats n).length ≤ 27 := by
  match n, h with
  | 0, _ => decide +kernel
  | 1, _ => decide +kernel
  | 2, _ => decide +kernel
  | 3, _ => decide +kernel
theorem px_full {q : LM.Pat} (h : LM.spots q = []) : px q = tx (LM.bits q) := by
  rw [← px_tx]
  congr 1
  unfold LM.bits
  rw [List.map_map]
  have : ∀ o ∈ q, (some ∘ fun o : Option Bool => o.getD false) o = o := fun o ho => by
    cases o with
    | some b => rfl
    | none =>
      obtain ⟨p, hp⟩ := List.mem_iff_getElem?.mp ho
      have : p ∈ LM.spots q := LM.mem_spots.mpr ⟨(List.getElem?_eq_some_iff.mp hp).1, by rw [List.getD_eq_getElem?_getD, hp]; rfl⟩
      rw [h] at this
      cases this
  conv => lhs; rw [← List.map_id q]
  exact List.map_congr_left fun o ho => (this o ho).symm
theorem merge_dkv (ps : List (List Bool × Bool)) : mergeK [] (ps.map fun p => ((Sum.inr (tx p.1) : Key), V.int (bi p.2))) = dkv ps := by
  unfold mergeK dkv
  rw [List.foldl_map]
section
variable {P : Program} {w : World} {K : PySem.W.Frag} {mg : Str → Option Value} {base : Heap}
def sp_w_worths : Sp := fun vs H Q _ => ∃ (n : Nat) (tb : List Bool), vs = [.str (tx tb)] ∧ n ≤ 3 ∧ tb.length = 2 ^ n ∧ ∀ d H2, H d = none → Ex H H2 → WAt H2 d n (fT n tb) → Q (.ref d) H2
theorem ok_w_worths (D : DfM K mg "_law_worths" s_w_worths) (G : Gs K mg) (C1 : Ct P w K mg base 2 "_law_inputs" sp_w_inputs) : Ct P w K mg base 3 "_law_worths" sp_w_worths := by
  refine ct_of D sc_w_worths (fun vs H Q E h => ?_) (fun _ _ _ _ _ _ us hl => match us, hl with | [_], _ => rfl) (fun f cdv A outer s H vs Q E hr h => ?_)
  · obtain ⟨_, _, rfl, _⟩ := h
    rfl
  · obtain ⟨n, tb, rfl, hn, hl, k⟩ := h
    have h28 : 2 ^ n ≤ 8 := Nat.pow_le_pow_right (by decide) hn
    refine ⟨_, pss_cons (ps_set (i := 1) sc_w_worths.nd rfl (.inl rfl) (pe_bm PySem.F.plainAttrs_list PySem.F.slot_list_index PySem.F.type_list_index mt_index (pe_lst (pa_cons pe_int (pa_cons pe_int (pa_cons pe_int (pa_cons pe_int (pa_cons pe_int (pa_cons pe_int (pa_cons pe_int pa_nil))))))))
        (pa_cons (pe_callB call_len_str (by rfl) G.len boot_len (pa_cons (pv 0) pa_nil)) pa_nil)))
      (pss_cons (ps_set (i := 2) sc_w_worths.nd rfl (.inr rfl) (pe_ct C1 hr (by rfl) (pa_cons (pv 1) pa_nil)))
      (pss_one (ps_ret (pe_callTy (call_dictP rfl) (by rfl) G.dict boot_dict (pa_cons (pe_lc (own := [("_law_k", 3)]) (g := gName 3) (tt := tYes) (by rfl) sc_w_worths.nd (pi_range1 (by rfl) G.range (pa_cons (pe_callB call_len_str (by rfl) G.len boot_len (pa_cons (pv 0) pa_nil)) pa_nil))
        (blkOk_by (own := [("_law_k", 3)]) (N := ["_law_table_here", "_law_many", "_law_texts", "_law_k"]) (sc := defScope s_w_worths) (by decide +kernel)) (fun _ _ _ _ _ => pg_name (i := 3) sc_w_worths.nd rfl (Or.inl rfl)) (fun _ _ _ _ _ => pts_nil)
        (fun _ _ _ _ _ => pe_tup (pa_cons (pe_ix (r := rIxL K) ix_list (pv 2) (pv 3) (fun _ _ => rfl)) (pa_cons (pe_callTy call_int_str (by rfl) G.int boot_int (pa_cons (pe_ix (r := rIxS) ix_str (pv 0) (pv 3) (fun _ _ => rfl)) pa_nil)) pa_nil)))) pa_nil))))), ?_⟩
    have hz : (tx tb).length ≤ sizeLine := line_tx (by omega)
    refine ⟨by show 7 ≤ sizeLine; decide, fun p hp => ?_⟩
    have e1 : Ex H (upd H p (.lst sizes7)) := Ex.new hp
    refine ⟨.inl ⟨rfl, _, .of upd_same⟩, _, rfl, tx tb, rfl, hz, p, sizes7, .int ((2 ^ n : Nat) : Int), n, .int ((2 ^ n : Nat) : Int), rfl, by rw [tx_len, hl], .of upd_same, rfl, rfl, (sz_at hn).1, decide_eq_true rfl, (sz_at hn).2, ?_⟩
    refine ⟨_, rfl, n, rfl, hn, fun q H2 hq e2 h2 => ?_⟩
    have e02 := e1.trans e2
    refine ⟨_, rfl, tx tb, rfl, hz, ((tx tb).length : Int), rfl, by rw [tx_len]; omega, by rw [tx_len]; omega, fun D0 hD => ?_⟩
    have hil := ins_len n
    have hpl : (prs n tb).length = 2 ^ n := by rw [List.length_zip, hil, hl]; exact Nat.min_self _
    refine lc_range (n := ((tx tb).length : Int).toNat) (fun i H' => Ex H2 H' ∧ ∃ ps : List Addr, H' D0 = some (.lst (ps.map V.ref)) ∧ ps.length = i ∧ Paired (fun a (z : List Bool × Bool) => H' a = some (.tup [.str (tx z.1), .int (bi z.2)])) ps ((prs n tb).take i)) ⟨Ex.new hD, [], upd_same, rfl, .nil⟩ ?_ ?_
    · rintro i H3 hi ⟨e3, ps, h3, hl3, hp3⟩
      have hi2 : i < 2 ^ n := by rw [tx_len] at hi; omega
      have hib : i < tb.length := by omega
      have hii : i < (LM.ins n).length := by omega
      have ep : (prs n tb)[i]? = some ((LM.ins n)[i], tb[i]) := by
        rw [List.getElem?_eq_getElem (by omega), List.getElem_zip]
      have ei : (0 : Int) + (i : Nat) = (i : Nat) := by omega
      show gName 3 (V.int ((0 : Int) + (i : Nat))) _ _ _
      rw [ei]
      refine ⟨rfl, ?_⟩
      refine tyes (iteT ?_)
      refine ⟨_, rfl, _, rfl, q, _, (i : Int), .str (tx (LM.ins n)[i]), rfl, rfl, .of (e3 _ _ h2), atI_nat (by unfold txs; rw [List.getElem?_map, List.getElem?_eq_getElem hii]; rfl), ?_⟩
      refine ⟨_, rfl, _, rfl, tx tb, (i : Int), cd tb[i], rfl, rfl, hz, atI_nat (by rw [tx_codes, List.getElem?_map, List.getElem?_eq_getElem hib]; rfl), ⟨#[cd tb[i]]⟩, bi tb[i], rfl, int_sign _, by show 1 ≤ 640; decide, by show 2 ≤ sizeLine; decide, fun r hr3 => ?_⟩
      have nDr : D0 ≠ r := ne_of_none h3 hr3
      refine ⟨_, by rw [upd_ne nDr]; exact h3, by rw [List.length_map]; exact small1000 (by omega), (e3.trans (Ex.new hr3)).mut hD, ps ++ [r], by rw [upd_same, List.map_append]; rfl, by rw [List.length_append, List.length_singleton, hl3], ?_⟩
      rw [List.take_add_one, ep]
      refine Paired.snoc (Paired.mapP hp3 fun a z hz => ?_) ?_
      · rw [upd_ne (fun e => by rw [e, h3] at hz; cases hz), upd_ne (ne_of_none hz hr3)]
        exact hz
      · rw [upd_ne nDr.symm, upd_same]
    · rintro H3 ⟨e3, ps, h3, hl3, hp3⟩
      rw [List.take_of_length_le (by rw [tx_len]; omega)] at hp3
      have hpk : ∀ {ps : List Addr} {zs : List (List Bool × Bool)}, Paired (fun a (z : List Bool × Bool) => H3 a = some (.tup [.str (tx z.1), .int (bi z.2)])) ps zs → Paired (fun p (kv : Key × V) => SqT K H3 p [kV kv.1, kv.2]) ps (zs.map fun p => ((Sum.inr (tx p.1) : Key), V.int (bi p.2))) := by
        intro ps zs h
        induction h with
        | nil => exact .nil
        | cons a _ ih => exact .cons (.of a) ih
      refine ⟨D0, ps, _, rfl, .of h3, hpk hp3, fun d hd => ?_⟩
      rw [merge_dkv]
      have e03 := e02.trans e3
      exact k d _ (Evl.fresh_back e03 hd) (e03.trans (Ex.new hd)) ⟨_, upd_same, fun bs hb => prs_val hl hb⟩
end
end LL

/-! Leastlooks, the law's helpers: what patterns settle, needs. -/
namespace LL
open PySem PySem.Spec PyProof.Rows L2
open Evl (Ex RetV RetL)
theorem put_plen {q : LM.Pat} {p : Nat} {b : Bool} : (LM.put q p b).length = q.length := by unfold LM.put; rw [List.length_set]
/-- the dict so far: right at the patterns of l -/
def SoFar (H : Hp) (F : Addr) (l : List LM.Pat) (g : LM.Pat → V) (m : Nat) : Prop := ∃ kvs : List (Key × V), H F = some (.dK kvs) ∧ kvs.length ≤ m ∧ ∀ q ∈ l, valV kvs (.inr (px q)) = some (g q)
theorem SoFar.put {H : Hp} {F : Addr} {l : List LM.Pat} {g : LM.Pat → V} {m : Nat} {q : LM.Pat} {kvs : List (Key × V)} (hl : kvs.length ≤ m) (hv : ∀ q ∈ l, valV kvs (.inr (px q)) = some (g q)) :
    SoFar (upd H F (.dK (putK kvs (.inr (px q)) (g q)))) F (l ++ [q]) g (m + 1) := by
  refine ⟨_, upd_same, Nat.le_trans (length_putK _ _ _) (by omega), fun r hr => ?_⟩
  rw [valV_put]
  by_cases e : (Sum.inr (px r) : Key) = Sum.inr (px q)
  · rw [if_pos e, px_inj (Sum.inr.inj e)]
  · rw [if_neg e]
    rcases List.mem_append.mp hr with h | h
    · exact hv r h
    · exact absurd (by rw [List.mem_singleton.mp h]) e
theorem putK_same {m : List (Key × V)} {k : Key} {v : V} (h : (valV m k).isSome = true) : (putK m k v).length = m.length := by
  have h2 : (m.any fun kv => decide (kv.1 = k)) = true := by rw [valV_any]; exact h
  unfold putK
  rw [if_pos h2, List.length_map]
section
variable {P : Program} {w : World} {K : PySem.W.Frag} {mg : Str → Option Value} {base : Heap}
def sp_w_settling : Sp := fun vs H Q _ => ∃ (d : Addr) (n : Nat) (f : List Bool → Bool), vs = [.ref d, .int (n : Int)] ∧ n ≤ 3 ∧ WAt H d n f ∧ ∀ r H2, H r = none → Ex H H2 → SAt H2 r n (fun q => oV (LM.S f q)) → Q (.ref r) H2
theorem ok_w_settling (D : DfM K mg "_law_settling" s_w_settling) (G : Gs K mg) (C1 : Ct P w K mg base 2 "_law_patterns" sp_w_patterns) (C2 : Ct P w K mg base 2 "_law_open_spots" sp_w_spots) (C3 : Ct P w K mg base 2 "_law_put" sp_w_put) : Ct P w K mg base 3 "_law_settling" sp_w_settling := by
  refine ct_of D sc_w_settling (fun vs H Q E h => ?_) (fun _ _ _ _ _ _ us hl => match us, hl with | [_, _], _ => rfl) (fun f cdv A outer s H vs Q E hr h => ?_)
  · obtain ⟨_, _, _, rfl, _⟩ := h
    rfl
  · obtain ⟨d, n, g, rfl, hn, hW, k⟩ := h
    refine ⟨_, pss_cons (ps_set (i := 2) sc_w_settling.nd rfl (.inl rfl) pe_dnewK)
      (pss_cons (ps_for PassesOwn.never rfl (pi_list (pe_revL (pe_ct C1 hr (by rfl) (pa_cons (pv 1) pa_nil)))) (pg_name (i := 3) sc_w_settling.nd rfl (.inl rfl))
        (pss_cons (ps_set (i := 4) sc_w_settling.nd rfl (.inl rfl) (pe_ct C2 hr (by rfl) (pa_cons (pv 3) pa_nil)))
        (pss_one (ps_if (pt_cmpR (op_eqE (u64 hr)) (pv 4) (pe_lst pa_nil) (nomark _))
          (pss_one (ps_dput (u1 hr) (pv 2) (pv 3) (pe_dget (u1 hr) (pv 0) (pv 3) (fun _ _ => rfl)) (by rfl)))
          (pss_cons (ps_set (i := 5) sc_w_settling.nd rfl (.inl rfl) (pe_dget (u1 hr) (pv 2) (pe_ct C3 hr (by rfl) (pa_cons (pv 3) (pa_cons (pe_ix ix_list (pv 4) pe_int (fun _ _ => rfl)) (pa_cons pe_str pa_nil)))) (fun _ _ => rfl)))
          (pss_one (ps_dput (u1 hr) (pv 2) (pv 3) (pe_ifExp (pt_cmpR op_eq (pv 5) (pe_dget (u1 hr) (pv 2) (pe_ct C3 hr (by rfl) (pa_cons (pv 3) (pa_cons (pe_ix ix_list (pv 4) pe_int (fun _ _ => rfl)) (pa_cons pe_str pa_nil)))) (fun _ _ => rfl)) (nomark _)) (pv 5) pe_non) (by rfl))))))))
      (pss_one (ps_ret (pv 2)))), ?_⟩
    intro F hF
    have e1 : Ex H (upd H F (.dK [])) := Ex.new hF
    refine ⟨_, rfl, n, rfl, hn, fun p H2 hp e2 h2 => ⟨p, _, rfl, .of h2, fun p3 hp3 => ?_⟩⟩
    have e3 : Ex H2 (upd H2 p3 (.lst (pxs (pats n)).reverse)) := Ex.new hp3
    have hF2 := e3 _ _ (e2 _ _ (upd_same (H := H) (a := F) (o := .dK [])))
    have hrev : (pxs (pats n)).reverse = pxs (pats n).reverse := by unfold pxs; rw [List.map_reverse]
    have h3 : (upd H2 p3 (.lst (pxs (pats n)).reverse)) p3 = some (.lst (pxs (pats n).reverse)) := by rw [upd_same, hrev]
    have e13 := e1.trans (e2.trans e3)
    generalize upd H2 p3 (.lst (pxs (pats n)).reverse) = H3 at e3 hF2 h3 e13 ⊢
    have hsz := pats_small hn
    have hp3F : p3 ≠ F := fun e => by rw [e, hF2] at h3; cases h3
    refine ⟨p3, rfl, ⟨_, .of h3⟩, ?_⟩
    refine for_list (xs := pxs (pats n).reverse) (fun i σ H' => ∃ (x3 x4 x5 : Option V), σ = [some (.ref d), some (.int (n : Int)), some (.ref F), x3, x4, x5] ∧ Ex H H' ∧ H' p3 = some (.lst (pxs (pats n).reverse)) ∧ SoFar H' F ((pats n).reverse.take i) (fun q => oV (LM.S g q)) i)
      ⟨none, none, none, rfl, e13, h3, [], hF2, Nat.le_refl _, fun q hq => nomatch hq⟩ (fun i σ H' _ z => ?_) ?_ ?_
    · obtain ⟨_, _, _, _, _, z, _⟩ := z
      exact .of z
    · rintro i x σ H4 hx ⟨x3, x4, x5, rfl, e4, h4, kvs, hF4, hkl, hkv⟩
      unfold pxs at hx
      rw [List.getElem?_map] at hx
      obtain ⟨q, hq, rfl⟩ := Option.map_eq_some_iff.mp hx
      have hi : i < (pats n).length := by
        have := (List.getElem?_eq_some_iff.mp hq).1
        rwa [List.length_reverse] at this
      have hql : q.length = n := pats_len.mp (List.mem_reverse.mp (List.mem_of_getElem? hq))
      have et : (pats n).reverse.take (i + 1) = (pats n).reverse.take i ++ [q] := by rw [List.take_add_one, hq]; rfl
      have hksz : kvs.length < sizeLine := Nat.lt_of_le_of_lt (Nat.le_trans hkl (by omega : i ≤ 27)) (by decide)
      refine ⟨_, rfl, q, rfl, by omega, fun p5 H5 hp5 e5 h5 => ?_⟩
      have hF5 := e5 _ _ hF4
      have h5p := e5 _ _ h4
      refine ⟨_, rfl, by show 0 ≤ sizeLine; exact Nat.zero_le _, fun e he => ?_⟩
      have e6 : Ex H5 (upd H5 e (.lst [])) := Ex.new he
      have hF6 := e6 _ _ hF5
      have h6p := e6 _ _ h5p
      have h6s := e6 _ _ h5
      have e06 := e4.trans (e5.trans e6)
      have q6 : SqL K (upd H5 e (.lst [])) e [] := .of upd_same
      generalize upd H5 e (.lst []) = H6 at e6 hF6 h6p h6s e06 q6 ⊢
      refine ⟨p5, e, _, rfl, rfl, .of h6s, q6, fun x hx => ?_, _, rfl, ite2 (fun z => ?_) (fun z => ?_)⟩
      · obtain ⟨j, _, rfl⟩ := List.mem_map.mp hx
        exact ⟨_, .int _⟩
      · have hsp : LM.spots q = [] := by
          cases hs : LM.spots q with
          | nil => rfl
          | cons a r => rw [hs] at z; exact absurd z (by simp)
        obtain ⟨kw, hd, hw⟩ := hW.ex e06
        have hS : LM.S g q = some (g (LM.bits q)) := by rw [LM.S_eq, hsp]
        have hbl : (LM.bits q).length = n := by unfold LM.bits; rw [List.length_map]; exact hql
        refine ⟨_, rfl, _, rfl, d, .int (bi (g (LM.bits q))), rfl, ?_, _, rfl, _, rfl, F, _, rfl, DPut.k (k := .inr (px q)) hF6 hksz, ?_⟩
        · rw [← hw _ hbl]
          have := DGet.k (k := .inr (tx (LM.bits q))) hd
          rw [px_full hsp]
          exact this
        · refine ⟨_, _, _, rfl, ?_, ?_, ?_⟩
          · exact e06.mut hF
          · rw [upd_ne hp3F]; exact h6p
          · rw [et]
            have := SoFar.put (H := H6) (F := F) (q := q) (g := fun q => oV (LM.S g q)) hkl hkv
            rw [hS] at this
            exact this
      · obtain ⟨a, r, hsp⟩ : ∃ a r, LM.spots q = a :: r := by
          cases hs : LM.spots q with
          | nil => rw [hs] at z; exact absurd rfl z
          | cons a r => exact ⟨a, r, rfl⟩
        have hain : a ∈ LM.spots q := by rw [hsp]; exact List.mem_cons_self
        have haq : a < q.length := (LM.mem_spots.mp hain).1
        have hat : ∀ b, valV kvs (.inr (px (LM.put q a b))) = some (oV (LM.S g (LM.put q a b))) := fun b => hkv _ (rev_put b hn hq hain)
        have hs0 : ((LM.spots q).map fun p => V.int (p : Nat))[0]? = some (.int (a : Nat)) := by rw [hsp]; rfl
        have gk : ∀ b, DGet H6 F (.str (px (LM.put q a b))) (some (oV (LM.S g (LM.put q a b)))) := fun b => by
          rw [← hat b]
          exact DGet.k (k := .inr (px (LM.put q a b))) hF6
        refine ⟨_, rfl, _, rfl, _, rfl, p5, _, 0, .int (a : Nat), rfl, rfl, .of h6s, atI_nat (j := 0) hs0, q, a, false, by rw [tx_two.1], haq, by omega, F, _, rfl, gk false, ?_⟩
        refine ⟨_, rfl, _, rfl, _, rfl, _, rfl, p5, _, 0, .int (a : Nat), rfl, rfl, .of h6s, atI_nat (j := 0) hs0, q, a, true, by rw [tx_two.2], haq, by omega, F, _, rfl, gk true, oV_scal _ _, _, rfl, ite2 (fun zz => ?_) (fun zz => ?_)⟩
        · have hS : LM.S g q = LM.S g (LM.put q a false) := by
            rw [LM.S_eq, hsp]
            exact if_pos (oV_inj (of_decide_eq_true zz))
          refine ⟨_, rfl, _, rfl, _, rfl, F, _, rfl, DPut.k (k := .inr (px q)) hF6 hksz, _, _, _, rfl, e06.mut hF, by rw [upd_ne hp3F]; exact h6p, ?_⟩
          rw [et]
          have := SoFar.put (H := H6) (F := F) (q := q) (g := fun q => oV (LM.S g q)) hkl hkv
          rw [hS] at this
          exact this
        · have hS : LM.S g q = none := by
            rw [LM.S_eq, hsp]
            exact if_neg fun e => zz (decide_eq_true (by rw [e]))
          refine ⟨_, rfl, _, rfl, F, _, rfl, DPut.k (k := .inr (px q)) hF6 hksz, _, _, _, rfl, e06.mut hF, by rw [upd_ne hp3F]; exact h6p, ?_⟩
          rw [et]
          have := SoFar.put (H := H6) (F := F) (q := q) (g := fun q => oV (LM.S g q)) hkl hkv
          rw [hS] at this
          exact this
    · rintro σ H4 ⟨x3, x4, x5, rfl, e4, h4, kvs, hF4, hkl, hkv⟩
      have hlen : (pxs (pats n).reverse).length = (pats n).reverse.length := by unfold pxs; rw [List.length_map]
      rw [hlen, List.take_length] at hkv
      exact ⟨_, rfl, k F H4 hF e4 ⟨kvs, hF4, fun q hq => hkv q (List.mem_reverse.mpr (pats_len.mpr hq))⟩⟩
def sp_w_needs : Sp := fun vs H Q _ => ∃ (d : Addr) (n : Nat) (f : List Bool → Bool), vs = [.ref d, .int (n : Int)] ∧ n ≤ 3 ∧ SAt H d n (fun q => oV (LM.S f q)) ∧ ∀ r H2, H r = none → Ex H H2 → SAt H2 r n (fun q => .int (LM.N f q : Nat)) → Q (.ref r) H2
theorem ok_w_needs (D : DfM K mg "_law_needs" s_w_needs) (G : Gs K mg) (C1 : Ct P w K mg base 2 "_law_patterns" sp_w_patterns) (C2 : Ct P w K mg base 2 "_law_open_spots" sp_w_spots) (C3 : Ct P w K mg base 2 "_law_put" sp_w_put) : Ct P w K mg base 3 "_law_needs" sp_w_needs := by
  refine ct_of D sc_w_needs (fun vs H Q E h => ?_) (fun _ _ _ _ _ _ us hl => match us, hl with | [_, _], _ => rfl) (fun f cdv A outer s H vs Q E hr h => ?_)
  · obtain ⟨_, _, _, rfl, _⟩ := h
    rfl
  · obtain ⟨d, n, g, rfl, hn, hW, k⟩ := h
    refine ⟨_, pss_cons (ps_set (i := 2) sc_w_needs.nd rfl (.inl rfl) pe_dnewK)
      (pss_cons (ps_for PassesOwn.never rfl (pi_list (pe_revL (pe_ct C1 hr (by rfl) (pa_cons (pv 1) pa_nil)))) (pg_name (i := 3) sc_w_needs.nd rfl (.inl rfl))
        (pss_cons (ps_dput (u1 hr) (pv 2) (pv 3) pe_int (by rfl))
        (pss_one (ps_if (pt_cmp (pc_isN (pe_dget (u1 hr) (pv 0) (pv 3) (fun _ _ => rfl))))
          (pss_cons (ps_set (i := 4) sc_w_needs.nd rfl (.inl rfl) (pe_lst pa_nil))
          (pss_cons (ps_for PassesOwn.never rfl (pi_list (pe_ct C2 hr (by rfl) (pa_cons (pv 3) pa_nil))) (pg_name (i := 5) sc_w_needs.nd rfl (.inl rfl))
            (pss_one (ps_expr (pe_bm PySem.F.plainAttrs_list PySem.F.slot_list_append PySem.F.type_list_append mt_append (pv 4) (pa_cons (pe_op op_add pe_int (pe_callB (call_max2 rfl) (by rfl) G.max boot_max
              (pa_cons (pe_dget (u1 hr) (pv 2) (pe_ct C3 hr (by rfl) (pa_cons (pv 3) (pa_cons (pv 5) (pa_cons pe_str pa_nil)))) (fun _ _ => rfl)) (pa_cons (pe_dget (u1 hr) (pv 2) (pe_ct C3 hr (by rfl) (pa_cons (pv 3) (pa_cons (pv 5) (pa_cons pe_str pa_nil)))) (fun _ _ => rfl)) pa_nil)))) pa_nil)))))
          (pss_one (ps_dput (u1 hr) (pv 2) (pv 3) (pe_callB (cr_min rfl) (by rfl) G.min boot_min (pa_cons (pv 4) pa_nil)) (by rfl))))) pss_nil))))
      (pss_one (ps_ret (pv 2)))), ?_⟩
    intro F hF
    have e1 : Ex H (upd H F (.dK [])) := Ex.new hF
    refine ⟨_, rfl, n, rfl, hn, fun p H2 hp e2 h2 => ⟨p, _, rfl, .of h2, fun p3 hp3 => ?_⟩⟩
    have e3 : Ex H2 (upd H2 p3 (.lst (pxs (pats n)).reverse)) := Ex.new hp3
    have hF2 := e3 _ _ (e2 _ _ (upd_same (H := H) (a := F) (o := .dK [])))
    have hrev : (pxs (pats n)).reverse = pxs (pats n).reverse := by unfold pxs; rw [List.map_reverse]
    have h3 : (upd H2 p3 (.lst (pxs (pats n)).reverse)) p3 = some (.lst (pxs (pats n).reverse)) := by rw [upd_same, hrev]
    have e13 := e1.trans (e2.trans e3)
    generalize upd H2 p3 (.lst (pxs (pats n)).reverse) = H3 at e3 hF2 h3 e13 ⊢
    have hsz := pats_small hn
    have hp3F : p3 ≠ F := fun e => by rw [e, hF2] at h3; cases h3
    refine ⟨p3, rfl, ⟨_, .of h3⟩, ?_⟩
    refine for_list (xs := pxs (pats n).reverse) (fun i σ H' => ∃ (x3 x4 x5 : Option V), σ = [some (.ref d), some (.int (n : Int)), some (.ref F), x3, x4, x5] ∧ Ex H H' ∧ H' p3 = some (.lst (pxs (pats n).reverse)) ∧ SoFar H' F ((pats n).reverse.take i) (fun q => .int (LM.N g q : Nat)) i)
      ⟨none, none, none, rfl, e13, h3, [], hF2, Nat.le_refl _, fun q hq => nomatch hq⟩ (fun i σ H' _ z => ?_) ?_ ?_
    · obtain ⟨_, _, _, _, _, z, _⟩ := z
      exact .of z
    · rintro i x σ H4 hx ⟨x3, x4, x5, rfl, e4, h4, kvs, hF4, hkl, hkv⟩
      unfold pxs at hx
      rw [List.getElem?_map] at hx
      obtain ⟨q, hq, rfl⟩ := Option.map_eq_some_iff.mp hx
      have hi : i < (pats n).length := by
        have := (List.getElem?_eq_some_iff.mp hq).1
        rwa [List.length_reverse] at this
      have hql : q.length = n := pats_len.mp (List.mem_reverse.mp (List.mem_of_getElem? hq))
      have et : (pats n).reverse.take (i + 1) = (pats n).reverse.take i ++ [q] := by rw [List.take_add_one, hq]; rfl
      have hksz : ∀ m, m ≤ i + 1 → m < sizeLine := fun m hm => Nat.lt_of_le_of_lt (by omega : m ≤ 28) (by decide)
      refine ⟨_, rfl, _, rfl, F, _, rfl, DPut.k (k := .inr (px q)) hF4 (hksz _ (by omega)), ?_⟩
      obtain ⟨H5, hH5⟩ : ∃ H5, H5 = upd H4 F (.dK (putK kvs (.inr (px q)) (.int 0))) := ⟨_, rfl⟩
      have hF5 : H5 F = some (.dK (putK kvs (.inr (px q)) (.int 0))) := by rw [hH5, upd_same]
      have e05 : Ex H H5 := by rw [hH5]; exact e4.mut hF
      have h5p : H5 p3 = some (.lst (pxs (pats n).reverse)) := by rw [hH5, upd_ne hp3F]; exact h4
      rw [← hH5]
      have hN : LM.N g q = if (LM.S g q).isSome then 0 else LM.minL ((LM.spots q).map fun p => 1 + max (LM.N g (LM.put q p false)) (LM.N g (LM.put q p true))) := LM.N_eq
      have hk5 : (putK kvs (.inr (px q)) (.int 0)).length ≤ i + 1 := Nat.le_trans (length_putK _ _ _) (by omega)
      have hv5 : ∀ r : LM.Pat, r ≠ q → valV (putK kvs (.inr (px q)) (.int 0)) (.inr (px r)) = valV kvs (.inr (px r)) := fun r hr => by
        rw [valV_put, if_neg fun e => hr (px_inj (Sum.inr.inj e))]
      obtain ⟨kw, hd, hw⟩ := hW.ex e05
      refine ⟨_, rfl, _, rfl, d, oV (LM.S g q), rfl, ?_, _, rfl, ite2 (fun z => ?_) (fun z => ?_)⟩
      · rw [← hw q hql]
        exact DGet.k (k := .inr (px q)) hd
      · have hS : LM.S g q = none := oV_inj (of_decide_eq_true z)
        rw [hS] at hN
        have hN : LM.N g q = LM.minL ((LM.spots q).map fun p => 1 + max (LM.N g (LM.put q p false)) (LM.N g (LM.put q p true))) := hN
        have hsn := LM.spots_ne hS
        refine ⟨by show 0 ≤ sizeLine; exact Nat.zero_le _, fun R hR => ?_⟩
        have e6 : Ex H5 (upd H5 R (.lst [])) := Ex.new hR
        have nRF : R ≠ F := fun e => by rw [e, hF5] at hR; cases hR
        refine ⟨_, rfl, q, rfl, by omega, fun p7 H7 hp7 e7 h7 => ⟨p7, rfl, ⟨_, .of h7⟩, ?_⟩⟩
        have e57 := e6.trans e7
        have hF7 := e57 _ _ hF5
        have h7p := e57 _ _ h5p
        have hR7 : H7 R = some (.lst []) := e7 _ _ upd_same
        have np7 : R ≠ p7 := ne_of_none upd_same hp7
        let gp : Nat → Nat := fun p => 1 + max (LM.N g (LM.put q p false)) (LM.N g (LM.put q p true))
        refine for_list (xs := (LM.spots q).map fun p => V.int (p : Nat)) (fun j σ H' => ∃ (y5 : Option V), σ = [some (.ref d), some (.int (n : Int)), some (.ref F), some (.str (px q)), some (.ref R), y5] ∧ Ex H5 H' ∧ H' p7 = some (.lst ((LM.spots q).map fun p => V.int (p : Nat))) ∧ H' R = some (.lst ((((LM.spots q).take j).map fun p => ((gp p : Nat) : Int)).map V.int)))
          ⟨_, rfl, e57, h7, hR7⟩ (fun j σ H' _ z => ?_) ?_ ?_
        · obtain ⟨_, _, _, z, _⟩ := z
          exact .of z
        · rintro j x σ H8 hx ⟨y5, rfl, e8, h8, hR8⟩
          rw [List.getElem?_map] at hx
          obtain ⟨a, ha, rfl⟩ := Option.map_eq_some_iff.mp hx
          have hj : j < (LM.spots q).length := (List.getElem?_eq_some_iff.mp ha).1
          have hain : a ∈ LM.spots q := List.mem_of_getElem? ha
          have haq : a < q.length := (LM.mem_spots.mp hain).1
          have hF8 := e8 _ _ hF5
          have hpn : ∀ b, LM.put q a b ≠ q := fun b e => by
            have h1 := (LM.mem_spots.mp hain).2
            have h2 : (LM.put q a b).getD a none = some b := by unfold LM.put; simp [List.getD_eq_getElem?_getD, haq]
            rw [e, h1] at h2
            cases h2
          have gk : ∀ b, DGet H8 F (.str (px (LM.put q a b))) (some (.int (LM.N g (LM.put q a b) : Nat))) := fun b => by
            rw [← hkv _ (rev_put b hn hq hain), ← hv5 _ (hpn b)]
            exact DGet.k (k := .inr (px (LM.put q a b))) hF8
          have hsl : (LM.spots q).length ≤ q.length := by
            unfold LM.spots
            exact Nat.le_trans (List.length_filter_le _ _) (by rw [List.length_range]; exact Nat.le_refl _)
          refine ⟨_, rfl, .inl ⟨rfl, _, .of hR8⟩, _, rfl, _, rfl, _, rfl, q, a, false, by rw [tx_two.1], haq, by omega, F, _, rfl, gk false, ?_⟩
          refine ⟨_, rfl, _, rfl, _, rfl, q, a, true, by rw [tx_two.2], haq, by omega, F, _, rfl, gk true, _, _, rfl, 1, _, rfl, rfl, R, _, _, rfl, rfl, hR8, by rw [List.length_map, List.length_map, List.length_take]; exact small1000 (by omega), _, rfl, e8.mut hR, ?_, ?_⟩
          · rw [upd_ne np7.symm]; exact h8
          · rw [upd_same, List.take_add_one, ha, List.map_append, List.map_append]
            have eg : ((gp a : Nat) : Int) = 1 + (if ((LM.N g (LM.put q a true) : Nat) : Int) > ((LM.N g (LM.put q a false) : Nat) : Int) then ((LM.N g (LM.put q a true) : Nat) : Int) else ((LM.N g (LM.put q a false) : Nat) : Int)) := by
              show ((1 + max _ _ : Nat) : Int) = _
              split <;> omega
            show _ = some (HO.lst (_ ++ [V.int ((gp a : Nat) : Int)]))
            rw [eg]
        · rintro σ H8 ⟨y5, rfl, e8, h8, hR8⟩
          rw [List.length_map, List.take_length] at hR8
          have hF8 := e8 _ _ hF5
          refine ⟨_, rfl, R, (LM.spots q).map fun p => ((gp p : Nat) : Int), rfl, .of hR8, by rw [List.length_map]; exact List.length_pos_iff.mpr hsn, fun mn hmn hle => ?_⟩
          have em : mn = ((LM.N g q : Nat) : Int) := by
            rw [hN]
            obtain ⟨a, ha, ea⟩ := List.mem_map.mp hmn
            rw [← ea]
            refine congrArg Int.ofNat (LM.minL_unique (xs := (LM.spots q).map gp) (m := gp a) (List.mem_map.mpr ⟨a, ha, rfl⟩) fun y hy => ?_).symm
            obtain ⟨b, hb2, eb⟩ := List.mem_map.mp hy
            have := hle _ (List.mem_map.mpr ⟨b, hb2, rfl⟩)
            rw [← ea] at this
            rw [← eb]
            exact Int.ofNat_le.mp this
          rw [em]
          refine ⟨_, rfl, _, rfl, F, _, rfl, DPut.k (k := .inr (px q)) hF8 (hksz _ hk5), _, _, _, rfl, (e05.trans e8).mut hF, by rw [upd_ne hp3F]; exact e8 _ _ h5p, ?_⟩
          rw [et]
          refine ⟨_, upd_same, ?_, fun r hr => ?_⟩
          · rw [putK_same (by rw [valV_put, if_pos rfl]; rfl)]
            exact hk5
          · rw [valV_put]
            by_cases e : (Sum.inr (px r) : Key) = Sum.inr (px q)
            · rw [if_pos e, px_inj (Sum.inr.inj e)]
            · rw [if_neg e]
              have hrq : r ≠ q := fun e2 => e (by rw [e2])
              rw [hv5 r hrq]
              rcases List.mem_append.mp hr with h | h
              · exact hkv r h
              · exact absurd (List.mem_singleton.mp h) hrq
      · have hS : (LM.S g q).isSome = true := by
          cases hq2 : LM.S g q with
          | some b => rfl
          | none => exact absurd (decide_eq_true (by rw [hq2]; rfl)) z
        rw [hS, if_pos rfl] at hN
        refine ⟨_, _, _, rfl, e05, h5p, ?_⟩
        rw [et, hH5]
        have := SoFar.put (H := H4) (F := F) (q := q) (g := fun q => .int (LM.N g q : Nat)) hkl hkv
        rw [hN] at this
        exact this
    · rintro σ H4 ⟨x3, x4, x5, rfl, e4, h4, kvs, hF4, hkl, hkv⟩
      have hlen : (pxs (pats n).reverse).length = (pats n).reverse.length := by unfold pxs; rw [List.length_map]
      rw [hlen, List.take_length] at hkv
      exact ⟨_, rfl, k F H4 hF e4 ⟨kvs, hF4, fun q hq => hkv q (List.mem_reverse.mpr (pats_len.mpr hq))⟩⟩
end
end LL

/-! Leastlooks, the law's helpers: is whole, open, only. -/
namespace LL
open PySem PySem.Spec PyProof.Rows L2
open Evl (Ex RetV RetL)
/-- what was told, a list -/
def ToldL (H : Hp) (t : Addr) (ws : List (Nat × Bool)) : Prop := ∃ ps : List Addr, H t = some (.lst (ps.map V.ref)) ∧ Paired (fun p (v : Nat × Bool) => H p = some (.tup [.int (v.1 : Nat), .int (bi v.2)])) ps ws
theorem ToldL.told {K : PySem.W.Frag} {H : Hp} {t : Addr} {ws : List (Nat × Bool)} (h : ToldL H t ws) : Told K H t ws := .inl h
theorem ToldL.ex {H H' : Hp} {t : Addr} {ws : List (Nat × Bool)} (h : ToldL H t ws) (e : Ex H H') : ToldL H' t ws := by
  obtain ⟨ps, h1, h2⟩ := h
  exact ⟨ps, e _ _ h1, Paired.mapP h2 fun p v q => e _ _ q⟩
theorem str_bi (b : Bool) : (toString (bi b) : Str) = tx [b] := by cases b <;> decide +kernel
section
variable {P : Program} {w : World} {K : PySem.W.Frag} {mg : Str → Option Value} {base : Heap}
def sp_w_whole : Sp := fun vs H Q _ => ∃ i : Int, vs = [.int i] ∧ Q (.bl true) H
theorem ok_w_whole (D : DfM K mg "_law_is_whole" s_w_is_whole) (G : Gs K mg) : Ct P w K mg base 1 "_law_is_whole" sp_w_whole := by
  refine ct_of D sc_w_is_whole (fun vs H Q E h => ?_) (fun _ _ _ _ _ _ us hl => match us, hl with | [_], _ => rfl) (fun f cdv A outer s H vs Q E hr h => ?_)
  · obtain ⟨_, rfl, _⟩ := h
    rfl
  · obtain ⟨i, rfl, k⟩ := h
    refine ⟨_, pss_one (ps_ret (pe_and (pe_callB call_isi (by rfl) G.isi boot_isinstance (pa_cons (pv 0) (pa_cons (pe_bltn (v := .ty "int") (by rfl) G.int boot_int rfl) pa_nil)))
      (pe_one (pe_not (pe_callB call_isi (by rfl) G.isi boot_isinstance (pa_cons (pv 0) (pa_cons (pe_bltn (v := .ty "bool") (by rfl) G.bool boot_bool rfl) pa_nil))))))), ?_⟩
    refine ⟨_, rfl, _, _, _, _, true, rfl, .ty "int", .base (.int i), kit_ty (by decide +kernel), true, rfl, iteT ?_⟩
    exact ⟨_, rfl, _, _, _, _, false, rfl, .ty "bool", .base (.int i), kit_ty (by decide +kernel), false, rfl, k⟩
def sp_w_open : Sp := fun vs H Q _ => ∃ (n l : Nat) (t : Addr) (ws : List (Nat × Bool)), vs = [.int (n : Int), .int (l : Int), .ref t] ∧ n ≤ 3 ∧ ToldL H t ws ∧ ws.length ≤ 1000 ∧ (∀ v ∈ ws, v.1 < n) ∧ RetL (txs (LM.opn n l (LM.cnt n ws))) H Q
theorem ok_w_open (D : DfM K mg "_law_open" s_w_open) (G : Gs K mg) (C1 : Ct P w K mg base 2 "_law_inputs" sp_w_inputs) : Ct P w K mg base 3 "_law_open" sp_w_open := by
  refine ct_of D sc_w_open (fun vs H Q E h => ?_) (fun _ _ _ _ _ _ us hl => match us, hl with | [_, _, _], _ => rfl) (fun f cdv A outer s H vs Q E hr h => ?_)
  · obtain ⟨_, _, _, _, rfl, _⟩ := h
    rfl
  · obtain ⟨n, l, t, ws, rfl, hn, hT, hw, hb, k⟩ := h
    refine ⟨_, pss_cons (ps_set (i := 3) sc_w_open.nd rfl (.inl rfl) (pe_lst pa_nil))
      (pss_cons (ps_for PassesOwn.never rfl (pi_list (pe_ct C1 hr (by rfl) (pa_cons (pv 0) pa_nil))) (pg_name (i := 4) sc_w_open.nd rfl (.inr rfl))
        (pss_one (ps_if (pt_cmpR op_le (pe_callB call_len_seq (by rfl) G.len boot_len (pa_cons (pe_lc (own := [("_law_item", 5)]) (g := gName 5) (by rfl) sc_w_open.nd (pi_list (pv 2))
          (blkOk_by (own := [("_law_item", 5)]) (N := ["_law_many", "_law_lies", "_law_told", "_law_found", "_law_text", "_law_item"]) (sc := defScope s_w_open) (by decide +kernel)) (fun _ _ _ _ _ => pg_name (i := 5) sc_w_open.nd rfl (Or.inl rfl))
          (fun _ _ _ _ _ => pts_one (pt_cmpR op_ne (pe_ix (r := rIxS) ix_str (pv 4) (pe_ix (r := rIxT K) ix_tup (pv 5) pe_int (fun _ _ => rfl)) (fun _ _ => rfl)) (pe_callTy call_str_int (by rfl) G.str boot_str (pa_cons (pe_ix (r := rIxT K) ix_tup (pv 5) pe_int (fun _ _ => rfl)) pa_nil)) (nomark _)))
          (fun _ _ _ _ _ => pv 5)) pa_nil)) (pv 1) (nomark _))
          (pss_one (ps_expr (pe_bm PySem.F.plainAttrs_list PySem.F.slot_list_append PySem.F.type_list_append mt_append (pv 3) (pa_cons (pv 4) pa_nil)))) pss_nil)))
      (pss_one (ps_ret (pv 3)))), ?_⟩
    refine ⟨by show 0 ≤ sizeLine; exact Nat.zero_le _, fun F hF => ?_⟩
    have e1 : Ex H (upd H F (.lst [])) := Ex.new hF
    refine ⟨_, rfl, n, rfl, hn, fun p H2 hp e2 h2 => ⟨p, rfl, ⟨_, .of h2⟩, ?_⟩⟩
    have e12 := e1.trans e2
    have F2 : H2 F = some (.lst []) := e2 _ _ upd_same
    have npF : p ≠ F := (ne_of_none upd_same hp).symm
    have hi8 := ins_small hn
    let pr : List Bool → Bool := fun u => decide (LM.wrong u (LM.cnt n ws) ≤ l)
    refine for_list (xs := txs (LM.ins n)) (fun i σ H' => ∃ (x4 : Option V), σ = [some (.int (n : Int)), some (.int (l : Int)), some (.ref t), some (.ref F), x4, none] ∧ Ex H H' ∧ H' p = some (.lst (txs (LM.ins n))) ∧ H' F = some (.lst (txs (((LM.ins n).take i).filter pr))))
      ⟨none, rfl, e12, h2, F2⟩ (fun i σ H' _ z => ?_) ?_ ?_
    · obtain ⟨_, _, _, z, _⟩ := z
      exact .of z
    · rintro i x σ H3 hx ⟨x4, rfl, e3, h3, F3⟩
      unfold txs at hx
      rw [List.getElem?_map] at hx
      obtain ⟨u, hu, rfl⟩ := Option.map_eq_some_iff.mp hx
      have hi : i < (LM.ins n).length := (List.getElem?_eq_some_iff.mp hu).1
      have hul : u.length = n := (LM.mem_ins n u).mp (List.mem_of_getElem? hu)
      obtain ⟨ps, ht3, hp3⟩ := hT.ex e3
      have hpl : ps.length = ws.length := Paired.length hp3
      refine ⟨_, rfl, t, rfl, ⟨_, .of ht3⟩, fun D0 hD => ?_⟩
      let bad : Addr × (Nat × Bool) → Bool := fun z => u.getD z.2.1 false != z.2.2
      refine lc_filter (walk_list (xs := ps.map V.ref)) hD (ps.zip ws) (fun z => V.ref z.1) bad (by rw [List.length_zip, List.length_map, hpl, Nat.min_self]) (by rw [List.length_map]; omega) (fun H4 e4 => .of (e4 _ _ ht3)) ?_ ?_
      · rintro j x H4 H' z Q2 Qn hj e4 ⟨rfl, hx⟩ hz kk kn
        rw [List.getElem?_map] at hx
        obtain ⟨a, ha, rfl⟩ := Option.map_eq_some_iff.mp hx
        obtain ⟨v, hv, hcell⟩ := Paired.at hp3 ha
        have hzz : z = (a, v) := by
          have h1 : (ps.zip ws)[j]? = some (a, v) := by
            rw [List.getElem?_eq_some_iff] at ha hv ⊢
            obtain ⟨l1, e1⟩ := ha
            obtain ⟨l2, e2⟩ := hv
            exact ⟨by rw [List.length_zip]; omega, by rw [List.getElem_zip, e1, e2]⟩
          rw [hz] at h1
          exact Option.some.inj h1
        subst hzz
        have hvn := hb v (List.mem_of_getElem? hv)
        have hc4 := e4 _ _ hcell
        refine ⟨rfl, _, rfl, _, rfl, a, _, 0, .int (v.1 : Nat), rfl, rfl, .of hc4, atI_nat (j := 0) rfl, tx u, (v.1 : Int), _, rfl, rfl, line_tx (by omega), at_tx (by omega), ?_⟩
        refine ⟨_, rfl, a, _, 1, .int (bi v.2), rfl, rfl, .of hc4, atI_nat (j := 1) rfl, bi v.2, rfl, by cases v.2 <;> decide, rfl, _, rfl, ?_⟩
        rw [str_bi]
        have hbb : (!decide (V.str ⟨#[cd (u.getD v.1 false)]⟩ = V.str (tx [v.2]))) = bad (a, v) := by
          show _ = (u.getD v.1 false != v.2)
          cases u.getD v.1 false <;> cases v.2 <;> decide +kernel
        rw [hbb]
        cases hg : bad (a, v) with
        | true => exact iteT ⟨_, rfl, kk _ _ (Ex.refl _) hg rfl⟩
        | false => exact iteF (kn _ (Ex.refl _) hg)
      · intro H4 e4 d4
        have F4 := e4 _ _ F3
        have hcount : ((ps.zip ws).filter bad).length = LM.wrong u (LM.cnt n ws) := by
          rw [LM.wrong_cnt hul hb]
          have key : ∀ (ps : List Addr) (ws : List (Nat × Bool)), ps.length = ws.length → ((ps.zip ws).filter bad).length = LM.lied u ws := by
            intro ps
            induction ps with
            | nil =>
              intro ws h
              cases ws with
              | nil => rfl
              | cons => cases h
            | cons a r ih =>
              intro ws h
              cases ws with
              | nil => cases h
              | cons v s =>
                have := ih s (by simpa using h)
                unfold LM.lied at this ⊢
                rw [List.zip_cons_cons, List.filter_cons, List.filter_cons]
                show (if (u.getD v.1 false != v.2) = true then _ else _ : List _).length = (if (u.getD v.1 false != v.2) = true then _ else _ : List _).length
                by_cases hq : (u.getD v.1 false != v.2) = true
                · rw [if_pos hq, if_pos hq, List.length_cons, List.length_cons, this]
                · rw [if_neg hq, if_neg hq, this]
          exact key ps ws hpl
        have et : (LM.ins n).take (i + 1) = (LM.ins n).take i ++ [u] := by rw [List.take_add_one, hu]; rfl
        refine ⟨D0, _, rfl, .inl (.of d4), _, rfl, _, _, rfl, rfl, _, rfl, ite2 (fun z => ?_) (fun z => ?_)⟩
        · have hpr : pr u = true := decide_eq_true (by
            have := of_decide_eq_true z
            rw [List.length_map, hcount] at this
            omega)
          have hfl : (((LM.ins n).take i).filter pr).length ≤ 8 := Nat.le_trans (List.length_filter_le _ _) (by rw [List.length_take]; omega)
          refine ⟨_, rfl, .inl ⟨rfl, _, .of F4⟩, _, rfl, F, _, _, rfl, rfl, F4, by unfold txs; rw [List.length_map]; exact small1000 (by omega), _, rfl, (e3.trans e4).mut hF, ?_, ?_⟩
          · rw [upd_ne npF]; exact e4 _ _ h3
          · rw [upd_same, et, List.filter_append, List.filter_cons, hpr, if_pos rfl]
            unfold txs
            rw [List.map_append]
            rfl
        · have hpr : pr u = false := decide_eq_false fun h => z (decide_eq_true (by rw [List.length_map, hcount]; omega))
          refine ⟨_, rfl, e3.trans e4, e4 _ _ h3, ?_⟩
          rw [et, List.filter_append, List.filter_cons, hpr, if_neg Bool.false_ne_true]
          show H4 F = some (.lst (txs (_ ++ [])))
          rw [List.append_nil]
          exact F4
    · rintro σ H3 ⟨x4, rfl, e3, h3, F3⟩
      have hlen : (txs (LM.ins n)).length = (LM.ins n).length := by unfold txs; rw [List.length_map]
      rw [hlen, List.take_length] at F3
      exact ⟨_, rfl, k F H3 hF e3 F3⟩
def sp_w_only (K : PySem.W.Frag) : Sp := fun vs H Q _ => ∃ (d t : Addr) (n : Nat) (f : List Bool → Bool) (ts : List (List Bool)), vs = [.ref d, .ref t] ∧ WAt H d n f ∧ SqL K H t (txs ts) ∧ ts ≠ [] ∧ (∀ u ∈ ts, u.length = n) ∧ ts.length ≤ 100 ∧ RetV (onlyV f ts) H Q
theorem ok_w_only (D : DfM K mg "_law_only" s_w_only) (G : Gs K mg) : Ct P w K mg base 1 "_law_only" (sp_w_only K) := by
  refine ct_of D sc_w_only (fun vs H Q E h => ?_) (fun _ _ _ _ _ _ us hl => match us, hl with | [_, _], _ => rfl) (fun f cdv A outer s H vs Q E hr h => ?_)
  · obtain ⟨_, _, _, _, _, rfl, _⟩ := h
    rfl
  · obtain ⟨d, t, n, g, ts, rfl, hW, ht, hne, hl, hz, k⟩ := h
    refine ⟨_, pss_cons (ps_setLc (i := 2) (own := [("_law_text", 3)]) (g := gName 3) (tt := tYes) (by rfl) sc_w_only.nd rfl rfl (sw_true rfl rfl rfl (by decide +kernel)) (pi_list (pv 1))
        (blkOk_by (own := [("_law_text", 3)]) (N := ["_law_worths_here", "_law_texts", "_law_answers", "_law_text"]) (sc := defScope s_w_only) (by decide +kernel)) (fun _ _ _ _ _ => pg_name (i := 3) sc_w_only.nd rfl (Or.inl rfl)) (fun _ _ _ _ _ => pts_nil)
        (fun _ _ _ _ _ => pe_dget (u1 hr) (pv 0) (pv 3) (fun _ _ => rfl)))
      (pss_one (ps_ret (pe_ifExp (pt_cmpR op_eq (pe_bm PySem.F.plainAttrs_list PySem.F.slot_list_count PySem.F.type_list_count mt_lcount (pv 2) (pa_cons (pe_ix ix_list (pv 2) pe_int (fun _ _ => rfl)) pa_nil)) (pe_callB call_len_seq (by rfl) G.len boot_len (pa_cons (pv 2) pa_nil)) (nomark _))
        (pe_ix (r := rIxL K) ix_list (pv 2) pe_int (fun _ _ => rfl)) pe_non))), ?_⟩
    obtain ⟨kvs, hd, hv⟩ := id hW
    refine ⟨_, rfl, t, rfl, ⟨_, ht⟩, fun D0 hD => ?_⟩
    have hlen : (txs ts).length = ts.length := by unfold txs; rw [List.length_map]
    refine lc_map (walk_list (xs := txs ts)) hD ((ts.map fun u => bi (g u)).map V.int) (by rw [List.length_map, List.length_map, hlen]) (by omega) (fun H2 e2 => Evl.ex_l e2 ht) ?_ ?_
    · rintro i x H2 H3 Q2 hi e2 ⟨rfl, hx⟩ kk
      rw [hlen] at hi
      unfold txs at hx
      rw [List.getElem?_map, List.getElem?_eq_getElem hi] at hx
      obtain rfl := Option.some.inj hx
      refine ⟨rfl, _, rfl, _, rfl, d, .int (bi (g ts[i])), rfl, ?_, kk _ _ (Ex.refl _) ?_⟩
      · rw [← hv _ (hl _ (List.getElem_mem hi))]
        exact DGet.k (k := .inr (tx ts[i])) (e2 _ _ hd)
      · rw [List.getElem?_map, List.getElem?_map, List.getElem?_eq_getElem hi]
        rfl
    · intro H2 e2 d2
      obtain ⟨a, r, rfl⟩ : ∃ a r, ts = a :: r := by
        cases ts with
        | nil => exact absurd rfl hne
        | cons a r => exact ⟨a, r, rfl⟩
      refine ⟨_, rfl, .inl ⟨rfl, _, .of d2⟩, _, rfl, D0, _, 0, .int (bi (g a)), rfl, rfl, .of d2, atI_nat (j := 0) rfl, ?_⟩
      refine ⟨D0, (a :: r).map fun u => bi (g u), bi (g a), rfl, rfl, .of d2, _, rfl, D0, _, rfl, .inl (.of d2), rfl, _, rfl, ite2 (fun z => ?_) (fun z => ?_)⟩
      · have hcnt : List.count (bi (g a)) ((a :: r).map fun u => bi (g u)) = ((a :: r).map fun u => bi (g u)).length := by
          have := V.int.inj (of_decide_eq_true z)
          rw [List.length_map] at this
          omega
        have hall := List.count_eq_length.mp hcnt
        have hs : LM.same g (a :: r) = true := LM.same_iff.mpr fun u hu v hv => bi_inj ((hall _ (List.mem_map.mpr ⟨u, hu, rfl⟩)).symm.trans (hall _ (List.mem_map.mpr ⟨v, hv, rfl⟩)))
        refine ⟨_, rfl, D0, _, 0, .int (bi (g a)), rfl, rfl, .of d2, atI_nat (j := 0) rfl, ?_⟩
        have := k H2 e2
        unfold onlyV at this
        rw [if_pos hs] at this
        exact this
      · have hs : ¬ LM.same g (a :: r) = true := fun hs => z (decide_eq_true (by
          have hcnt : List.count (bi (g a)) ((a :: r).map fun u => bi (g u)) = ((a :: r).map fun u => bi (g u)).length := List.count_eq_length.mpr fun b hb => by
            obtain ⟨u, hu, rfl⟩ := List.mem_map.mp hb
            rw [LM.same_iff.mp hs a List.mem_cons_self u hu]
          rw [hcnt]; simp only [List.length_map]))
        have := k H2 e2
        unfold onlyV at this
        rw [if_neg hs] at this
        exact this
end
end LL

/-! Leastlooks, the law's games. -/
namespace LL
open PySem PySem.Spec PyProof.Rows L2
open Evl (Ex RetV RetL)
theorem q_xb {C b q : Addr} {H H' : Hp} {xs : List V} {n : Nat} {f : List Bool → Bool} (hb : H b = some (.lst xs)) (x : Xd b H H') (h : QAt C H q n f) : QAt C H' q n f := by
  obtain ⟨dx, fs, e, kvs, h1, h2, h3, h4, h5⟩ := h
  exact ⟨dx, fs, e, kvs, x _ _ (fun z => by rw [z, hb] at h1; cases h1) h1, h2, h3, x _ _ (fun z => by rw [z, hb] at h4; cases h4) h4, h5⟩
theorem w_xb {b d : Addr} {H H' : Hp} {xs : List V} {n : Nat} {f : List Bool → Bool} (hb : H b = some (.lst xs)) (x : Xd b H H') (h : WAt H d n f) : WAt H' d n f := by
  obtain ⟨kvs, h1, h2⟩ := h
  exact ⟨kvs, x _ _ (fun z => by rw [z, hb] at h1; cases h1) h1, h2⟩
theorem ToldL.xb {b t : Addr} {H H' : Hp} {xs : List V} {ws : List (Nat × Bool)} (hb : H b = some (.lst xs)) (x : Xd b H H') (n : t ≠ b) (h : ToldL H t ws) : ToldL H' t ws := by
  obtain ⟨ps, h1, h2⟩ := h
  exact ⟨ps, x _ _ n h1, Paired.mapP h2 fun p v q => x _ _ (fun z => by rw [z, hb] at q; cases q) q⟩
theorem BagAt.lst {K : PySem.W.Frag} {H : Hp} {b : Addr} {as : List Addr} (h : BagAt K H b as) : ∃ xs, H b = some (.lst xs) := by
  obtain ⟨_, _, _, _, _, h, _⟩ := h
  exact ⟨_, h⟩
/-- one more is told: V grows -/
theorem ToldL.push {H : Hp} {t r : Addr} {ps : List Addr} {ws : List (Nat × Bool)} {v : Nat × Bool} (h1 : H t = some (.lst (ps.map V.ref))) (h2 : Paired (fun p (v : Nat × Bool) => H p = some (.tup [.int (v.1 : Nat), .int (bi v.2)])) ps ws) (hr : H r = some (.tup [.int (v.1 : Nat), .int (bi v.2)])) :
    ToldL (upd H t (.lst (ps.map V.ref ++ [.ref r]))) t (ws ++ [v]) := by
  have k : ∀ {a : Addr} {xs : List V}, H a = some (.tup xs) → (upd H t (.lst (ps.map V.ref ++ [.ref r]))) a = some (.tup xs) := fun {a xs} h => by
    rw [upd_ne (fun e => by rw [e, h1] at h; cases h)]
    exact h
  refine ⟨ps ++ [r], by rw [upd_same, List.map_append]; rfl, Paired.snoc (Paired.mapP h2 fun p v q => k q) (k hr)⟩
/-- another list holds one more -/
theorem ToldL.copy {H : Hp} {m r : Addr} {ps : List Addr} {ws : List (Nat × Bool)} {v : Nat × Bool} (hm : H m = none) (h2 : Paired (fun p (v : Nat × Bool) => H p = some (.tup [.int (v.1 : Nat), .int (bi v.2)])) ps ws) (hr : H r = some (.tup [.int (v.1 : Nat), .int (bi v.2)])) :
    ToldL (upd H m (.lst (ps.map V.ref ++ [.ref r]))) m (ws ++ [v]) := by
  have e := Ex.new (o := .lst (ps.map V.ref ++ [.ref r])) hm
  exact ⟨ps ++ [r], by rw [upd_same, List.map_append]; rfl, Paired.snoc (Paired.mapP h2 fun p v q => e _ _ q) (e _ _ hr)⟩
theorem at_last {α : Type} {xs : List α} (h : xs ≠ []) : ∃ a ∈ xs, atI xs (-1) = some a := by
  have hl : 0 < xs.length := List.length_pos_iff.mpr h
  refine ⟨xs[xs.length - 1], List.getElem_mem _, ?_⟩
  unfold atI ixN
  rw [if_neg (by decide), if_pos (by omega)]
  have e : ((-1 : Int) + (xs.length : Int)).toNat = xs.length - 1 := by omega
  show xs[((-1 : Int) + (xs.length : Int)).toNat]? = _
  rw [e, List.getElem?_eq_getElem (by omega)]
theorem nxt_at {ns : List Nat} (h : ns ≠ []) {c : Nat} (hc : c < 2) : ∃ (v : Int) (a : Nat), atI ([V.int 0, V.int (-1)] : List V) ((c : Nat) : Int) = some (.int v) ∧ a ∈ ns ∧ atI (ns.map fun p => V.int (p : Nat)) v = some (.int (a : Nat)) := by
  have hm : (ns.map fun p => V.int (p : Nat)) ≠ [] := fun e => h (List.map_eq_nil_iff.mp e)
  match c, hc with
  | 0, _ =>
    cases ns with
    | nil => exact absurd rfl h
    | cons a r => exact ⟨0, a, rfl, List.mem_cons_self, atI_nat (j := 0) rfl⟩
  | 1, _ =>
    obtain ⟨v, hv, e⟩ := at_last hm
    obtain ⟨a, ha, rfl⟩ := List.mem_map.mp hv
    exact ⟨-1, a, rfl, ha, e⟩
theorem nxt_mem {f : List Bool → Bool} {n l : Nat} {cs : List (Nat × Nat)} {p : Nat} (h : p ∈ nxt f n l cs) : p ∈ LM.split n (LM.opn n l cs) ∧ 1 + max (LM.L f n l (LM.more cs p false)) (LM.L f n l (LM.more cs p true)) = LM.L f n l cs := by
  unfold nxt at h
  split at h
  · cases h
  · obtain ⟨h1, h2⟩ := List.mem_filter.mp h
    exact ⟨h1, of_decide_eq_true h2⟩
theorem nxt_ne {f : List Bool → Bool} {n l : Nat} {cs : List (Nat × Nat)} (hc : cs.length = n) (h : LM.same f (LM.opn n l cs) = false) : nxt f n l cs ≠ [] := by
  obtain ⟨p, hp, e⟩ := LM.L_at hc h
  have hpos := LM.L_pos hc h
  have : p ∈ nxt f n l cs := by
    unfold nxt
    rw [if_neg (by omega)]
    exact List.mem_filter.mpr ⟨hp, decide_eq_true e.symm⟩
  intro e2
  rw [e2] at this
  cases this
theorem bi_of {c : Nat} (hc : c < 2) : ∃ b : Bool, ((c : Nat) : Int) = bi b := by
  match c, hc with
  | 0, _ => exact ⟨false, rfl⟩
  | 1, _ => exact ⟨true, rfl⟩
theorem has_more {K : PySem.W.Frag} {b : Addr} {H H' : Hp} {as bs : List Addr} {t : Addr} (x : Xd b H H') (hB : BagAt K H' b bs) (h : ∀ a ∈ as, H a ≠ none) (ht : H' t ≠ none) : ∀ a ∈ t :: as, H' a ≠ none := fun a ha => by
  rcases List.mem_cons.mp ha with e | ha
  · rw [e]; exact ht
  · exact has_xd x hB h a ha
section
variable {P : Program} {w : World} {K : PySem.W.Frag} {mg : Str → Option Value} {base : Heap}
def sp_game (K : PySem.W.Frag) (C : Addr) : Sp := fun vs H Q _ => ∃ (b d q : Addr) (n l need : Nat) (f : List Bool → Bool) (as : List Addr), vs = [.ref b, .ref d, .int (n : Int), .ref q, .int (l : Int), .int (need : Int)] ∧ 1 ≤ n ∧ n ≤ 3 ∧ l ≤ 2 ∧ need = LM.L f n l (LM.zeros n) ∧ need ≤ 100 ∧ BagAt K H b as ∧ (∀ a ∈ as, H a ≠ none) ∧
  WAt H d n f ∧ QAt C H q n f ∧ ∀ H2, Xd b H H2 → BagAt K H2 b as → Q (.bl true) H2
theorem opn_zeros {n l : Nat} : LM.opn n l (LM.zeros n) ≠ [] := by
  intro e
  have : List.replicate n false ∈ LM.opn n l (LM.zeros n) := LM.mem_opn.mpr ⟨List.length_replicate, by rw [LM.wrong_zeros]; exact Nat.zero_le _⟩
  rw [e] at this
  cases this
theorem ok_game1 {C : Addr} (D : DfM K mg "_law_first_game" s_w_first_game) (G : Gs K mg) (CO : Ct P w K mg base 1 "_law_only" (sp_w_only K)) (CP : Ct P w K mg base 3 "_law_open" sp_w_open) (CTA : Ct P w K mg base 7 "told_answer" (sp_told_answer K C)) (CN : Ct P w K mg base 57 "next_looks" (sp_next K C))
    (CD : Ct P w K mg base 1 "_law_draw" (sp_draw K)) (CL : Ct P w K mg base 56 "lie_looks" (sp_lie K C)) : Ct P w K mg base 58 "_law_first_game" (sp_game K C) := by
  refine ct_of D sc_w_first_game (fun vs H Q E h => ?_) (fun _ _ _ _ _ _ us hl => match us, hl with | [_, _, _, _, _, _], _ => rfl) (fun f cdv A outer s H vs Q E hr h => ?_)
  · obtain ⟨_, _, _, _, _, _, _, _, rfl, _⟩ := h
    rfl
  · obtain ⟨b, d, q, n, l, need, g, as, rfl, hn1, hn, hl, hneed, hneed2, hB, has, hW, hQ, k⟩ := h
    have CO := CO.up (k := 57) (by decide)
    have CP := CP.up (k := 57) (by decide)
    have CTA := CTA.up (k := 57) (by decide)
    have CD := CD.up (k := 57) (by decide)
    have CL := CL.up (k := 57) (by decide)
    refine ⟨_, pss_cons (ps_set (i := 6) sc_w_first_game.nd rfl (.inl rfl) (pe_lst pa_nil))
      (pss_cons (ps_for PassesOwn.never rfl (pi_range1 (by rfl) G.range (pa_cons (pv 5) pa_nil)) (pg_name (i := 7) sc_w_first_game.nd rfl (.inl rfl))
        (pss_cons (ps_if (pt_cmp (pc_notN (pe_ct CO hr (by rfl) (pa_cons (pv 1) (pa_cons (pe_ct CP hr (by rfl) (pa_cons (pv 2) (pa_cons (pv 4) (pa_cons (pv 6) pa_nil)))) pa_nil)))))
          (pss_cons (ps_set (i := 8) sc_w_first_game.nd rfl (.inl rfl) (pe_ct CTA hr (by rfl) (pa_cons (pv 3) (pa_cons (pv 4) (pa_cons (pv 6) pa_nil)))))
          (pss_one (ps_ret (pe_cmpR op_eq (pv 8) (pe_ct CO hr (by rfl) (pa_cons (pv 1) (pa_cons (pe_ct CP hr (by rfl) (pa_cons (pv 2) (pa_cons (pv 4) (pa_cons (pv 6) pa_nil)))) pa_nil))) (nomark _))))) pss_nil)
        (pss_cons (ps_set (i := 9) sc_w_first_game.nd rfl (.inl rfl) (pe_ct CN hr (by rfl) (pa_cons (pv 3) (pa_cons (pv 4) (pa_cons (pv 6) pa_nil)))))
        (pss_cons (ps_set (i := 10) sc_w_first_game.nd rfl (.inl rfl) (pe_ix ix_list (pv 9) (pe_ix ix_list (pe_lst (pa_cons pe_int (pa_cons (pe_un un_neg pe_int) pa_nil))) (pe_ct CD hr (by rfl) (pa_cons (pv 0) (pa_cons pe_int pa_nil))) (fun _ _ => rfl)) (fun _ _ => rfl)))
        (pss_cons (ps_set (i := 11) sc_w_first_game.nd rfl (.inl rfl) (pe_ct CD hr (by rfl) (pa_cons (pv 0) (pa_cons pe_int pa_nil))))
        (pss_cons (ps_if (pt_cmpR (op_eqE (u64 hr)) (pe_ct CP hr (by rfl) (pa_cons (pv 2) (pa_cons (pv 4) (pa_cons (pe_op op_cat (pv 6) (pe_lst (pa_cons (pe_tup (pa_cons (pv 10) (pa_cons (pv 11) pa_nil))) pa_nil))) pa_nil)))) (pe_lst pa_nil) (nomark _))
          (pss_one (ps_set (i := 11) sc_w_first_game.nd rfl (.inl rfl) (pe_op op_sub pe_int (pv 11)))) pss_nil)
        (pss_cons (ps_expr (pe_bm PySem.F.plainAttrs_list PySem.F.slot_list_append PySem.F.type_list_append mt_append (pv 6) (pa_cons (pe_tup (pa_cons (pv 10) (pa_cons (pv 11) pa_nil))) pa_nil)))
        (pss_one (ps_if (pt_cmpR op_gt (pe_ct CL hr (by rfl) (pa_cons (pv 3) (pa_cons (pv 4) (pa_cons (pv 6) pa_nil)))) (pe_op op_sub (pv 5) (pe_callB call_len_seq (by rfl) G.len boot_len (pa_cons (pv 6) pa_nil))) (nomark _)) (pss_one (ps_ret pe_bl)) pss_nil)))))))))
      (pss_one (ps_ret (pe_cmp (pc_notN (pe_ct CO hr (by rfl) (pa_cons (pv 1) (pa_cons (pe_ct CP hr (by rfl) (pa_cons (pv 2) (pa_cons (pv 4) (pa_cons (pv 6) pa_nil)))) pa_nil)))))))), ?_⟩
    obtain ⟨bxs, hbl⟩ := hB.lst
    refine ⟨by show 0 ≤ sizeLine; exact Nat.zero_le _, fun U hU => ?_⟩
    have e1 : Ex H (upd H U (.lst [])) := Ex.new hU
    have nUb : U ≠ b := fun e => hB.at (e ▸ hU)
    refine ⟨_, rfl, (need : Int), rfl, by omega, by omega, ?_⟩
    refine for_range (n := ((need : Int)).toNat) (fun i σ H' => ∃ (ws : List (Nat × Bool)) (x7 x8 x9 x10 x11 : Option V), σ = [some (.ref b), some (.ref d), some (.int (n : Int)), some (.ref q), some (.int (l : Int)), some (.int (need : Int)), some (.ref U), x7, x8, x9, x10, x11] ∧
        Xd b H H' ∧ BagAt K H' b (U :: as) ∧ ToldL H' U ws ∧ ws.length = i ∧ (∀ v ∈ ws, v.1 < n) ∧ LM.opn n l (LM.cnt n ws) ≠ [] ∧ LM.L g n l (LM.cnt n ws) + i ≤ need)
      ⟨[], none, none, none, none, none, rfl, Xd.of e1, (hB.grow hU).ex e1, ⟨[], upd_same, .nil⟩, rfl, (fun v hv => nomatch hv), opn_zeros, by rw [hneed]; exact Nat.le_refl _⟩ ?_ ?_
    · rintro i σ H2 hi ⟨ws, x7, x8, x9, x10, x11, rfl, x2, hB2, hT2, hwl, hb, ho, hL⟩
      have hi2 : i < need := by omega
      have hcl : (LM.cnt n ws).length = n := LM.cnt_len hb
      have hq2 := q_xb hbl x2 hQ
      have hw2 := w_xb hbl x2 hW
      refine ⟨_, rfl, _, rfl, _, rfl, _, rfl, n, l, U, ws, rfl, hn, hT2, by omega, hb, fun p H3 hp e3 h3 => ?_⟩
      refine ⟨d, p, n, g, _, rfl, hw2.ex e3, .of h3, ho, LM.opn_len, by have := opn_small (l := l) (cs := LM.cnt n ws) hn; omega, fun H4 e4 => ?_⟩
      have e24 := e3.trans e4
      refine ⟨_, rfl, ite2 (fun z => ?_) (fun z => ?_)⟩
      · have hs : LM.same g (LM.opn n l (LM.cnt n ws)) = true := by
          cases hqq : LM.same g (LM.opn n l (LM.cnt n ws)) with
          | true => rfl
          | false =>
            unfold onlyV at z
            rw [if_neg (by rw [hqq]; exact Bool.false_ne_true)] at z
            exact absurd z (by decide)
        have hV : onlyV g (LM.opn n l (LM.cnt n ws)) = .int (bi (g ((LM.opn n l (LM.cnt n ws)).headD []))) := by unfold onlyV; rw [if_pos hs]
        refine ⟨_, rfl, _, rfl, _, rfl, q, U, n, l, g, ws, rfl, hq2.ex e24, hn, hl, (hT2.ex e24).told, hb, ho, fun H5 e5 => ?_⟩
        have e25 := e24.trans e5
        refine ⟨_, rfl, _, rfl, _, rfl, _, rfl, _, rfl, n, l, U, ws, rfl, hn, hT2.ex e25, by omega, hb, fun p6 H6 hp6 e6 h6 => ?_⟩
        refine ⟨d, p6, n, g, _, rfl, (hw2.ex e25).ex e6, .of h6, ho, LM.opn_len, by have := opn_small (l := l) (cs := LM.cnt n ws) hn; omega, fun H7 e7 => ?_⟩
        refine ⟨by rw [hV]; rfl, ?_⟩
        show Q (V.bl (decide (onlyV g (LM.opn n l (LM.cnt n ws)) = onlyV g (LM.opn n l (LM.cnt n ws))))) H7
        rw [decide_eq_true rfl]
        have e27 := e25.trans (e6.trans e7)
        exact k H7 (x2.trans (Xd.of e27)) ((hB2.ex e27).less fun x hx => List.mem_cons_of_mem _ hx)
      · have hs : LM.same g (LM.opn n l (LM.cnt n ws)) = false := by
          cases hqq : LM.same g (LM.opn n l (LM.cnt n ws)) with
          | false => rfl
          | true =>
            exfalso
            apply z
            unfold onlyV
            rw [if_pos hqq]
            rfl
        refine ⟨_, rfl, _, rfl, _, rfl, q, U, n, l, g, ws, rfl, hq2.ex e24, hn, hl, (hT2.ex e24).told, hb, ho, fun p5 H5 hp5 e5 h5 => ?_⟩
        have e25 := e24.trans e5
        have hne := nxt_ne hcl hs
        have hB5 := hB2.ex e25
        have hT5 := hT2.ex e25
        obtain ⟨b5s, hb5⟩ := hB5.lst
        have np5 : p5 ≠ b := fun e => (hB2.ex e24).at (e ▸ hp5)
        refine ⟨_, rfl, 1, rfl, by show 2 ≤ sizeLine; decide, fun y hy => ?_⟩
        have e6 : Ex H5 (upd H5 y (.lst [.int 0, .int (-1)])) := Ex.new hy
        have nyb : y ≠ b := fun e => hB5.at (e ▸ hy)
        have hB6 := hB5.ex e6
        have x06 : Xd b H (upd H5 y (.lst [.int 0, .int (-1)])) := (x2.trans (Xd.of e25)).trans (Xd.of e6)
        have hU6 : (upd H5 y (.lst [.int 0, .int (-1)])) U ≠ none := by
          obtain ⟨ps, hps, _⟩ := hT5.ex e6
          rw [hps]; exact fun e => nomatch e
        refine ⟨_, rfl, b, 2, U :: as, rfl, by decide, by decide, hB6, has_more x06 hB6 has hU6, fun c H7 hc x7' hB7 => ?_⟩
        have y7 : H7 y = some (.lst [.int 0, .int (-1)]) := x7' _ _ nyb upd_same
        have s7 := x7' _ _ np5 (e6 _ _ h5)
        have hT7 := ToldL.xb (e6 _ _ hb5) x7' nUb (hT5.ex e6)
        have x07 := x06.trans x7'
        obtain ⟨v, a, ha1, ha2, ha3⟩ := nxt_at hne hc
        refine ⟨y, _, (c : Int), .int v, rfl, rfl, .of y7, ha1, p5, _, v, .int (a : Nat), rfl, rfl, .of s7, ha3, ?_⟩
        obtain ⟨hsp, hmax⟩ := nxt_mem ha2
        have han : a < n := (LM.mem_split.mp hsp).1
        have hU7 : H7 U ≠ none := by
          obtain ⟨ps, hps, _⟩ := hT7
          rw [hps]; exact fun e => nomatch e
        obtain ⟨b7s, hb7⟩ := hB7.lst
        refine ⟨_, rfl, b, 2, U :: as, rfl, by decide, by decide, hB7, has_more x07 hB7 has hU7, fun c2 H8 hc2 x8' hB8 => ?_⟩
        have hT8 := ToldL.xb hb7 x8' nUb hT7
        have x08 := x07.trans x8'
        obtain ⟨bb, hbb⟩ := bi_of hc2
        have hq8 := q_xb hbl x08 hQ
        have hb' : ∀ v ∈ ws ++ [(a, bb)], v.1 < n := fun v hv => by
          rcases List.mem_append.mp hv with h | h
          · exact hb v h
          · rw [List.mem_singleton.mp h]; exact han
        have hcs : LM.cnt n (ws ++ [(a, bb)]) = LM.more (LM.cnt n ws) a bb := LM.cnt_snoc
        have ho' : LM.opn n l (LM.cnt n (ws ++ [(a, bb)])) ≠ [] := by rw [hcs]; exact LM.split_open hcl hsp
        have hL' : LM.L g n l (LM.cnt n (ws ++ [(a, bb)])) + (i + 1) ≤ need := by
          rw [hcs]
          cases bb <;> omega
        obtain ⟨ps, hU8, hps8⟩ := id hT8
        have hpsl : ps.length = ws.length := Paired.length hps8
        refine ⟨_, rfl, _, rfl, _, rfl, _, rfl, _, rfl, by show 2 ≤ sizeLine; decide, fun r hr8 => ⟨by show 1 ≤ sizeLine; decide, fun m hm8 => ?_⟩⟩
        have e9 : Ex H8 (upd H8 r (.tup [.int (a : Nat), .int (c2 : Int)])) := Ex.new hr8
        have e10 : Ex (upd H8 r (.tup [.int (a : Nat), .int (c2 : Int)])) (upd (upd H8 r (.tup [.int (a : Nat), .int (c2 : Int)])) m (.lst [.ref r])) := Ex.new hm8
        have e810 := e9.trans e10
        have r10 : (upd (upd H8 r (.tup [.int (a : Nat), .int (c2 : Int)])) m (.lst [.ref r])) r = some (.tup [.int (a : Nat), .int (bi bb)]) := by
          rw [← hbb]
          exact e10 _ _ upd_same
        refine ⟨U, m, ps.map V.ref, [.ref r], rfl, rfl, e810 _ _ hU8, upd_same, by rw [List.length_map]; exact sz6 (by rw [List.length_singleton]; omega), fun m2 hm2 => ?_⟩
        have hT11 := ToldL.copy (v := (a, bb)) hm2 (Paired.mapP hps8 fun p v q => e810 _ _ q) r10
        have e11 := e810.trans (Ex.new (o := .lst (ps.map V.ref ++ [.ref r])) hm2)
        refine ⟨n, l, m2, ws ++ [(a, bb)], rfl, hn, hT11, by rw [List.length_append, List.length_singleton]; omega, hb', fun p12 H12 hp12 e12 h12 => ?_⟩
        refine ⟨by show 0 ≤ sizeLine; exact Nat.zero_le _, fun e he => ?_⟩
        have e13 : Ex H12 (upd H12 e (.lst [])) := Ex.new he
        have e813 := (e11.trans e12).trans e13
        refine ⟨p12, e, _, rfl, rfl, .of (e13 _ _ h12), .of upd_same, fun x hx => ?_, _, rfl, ite2 (fun zz => ?_) (fun zz => ?_)⟩
        · obtain ⟨u, _, rfl⟩ := List.mem_map.mp hx
          exact ⟨_, .tx u⟩
        · exfalso
          apply ho'
          have : (txs (LM.opn n l (LM.cnt n (ws ++ [(a, bb)])))).isEmpty = true := zz
          unfold txs at this
          rw [List.isEmpty_iff] at this
          exact List.map_eq_nil_iff.mp this
        · have U13 := e813 _ _ hU8
          refine ⟨_, rfl, .inl ⟨rfl, _, .of U13⟩, _, rfl, _, rfl, by show 2 ≤ sizeLine; decide, fun r2 hr2 => ?_⟩
          have e14 : Ex (upd H12 e (.lst [])) (upd (upd H12 e (.lst [])) r2 (.tup [.int (a : Nat), .int (c2 : Int)])) := Ex.new hr2
          have e814 := e813.trans e14
          have hB14 := hB8.ex e814
          have r14 : (upd (upd H12 e (.lst [])) r2 (.tup [.int (a : Nat), .int (c2 : Int)])) r2 = some (.tup [.int (a : Nat), .int (bi bb)]) := by rw [← hbb, upd_same]
          have U14 := e814 _ _ hU8
          have hT15 := ToldL.push (v := (a, bb)) U14 (Paired.mapP hps8 fun p v q => e814 _ _ q) r14
          have x014 := x08.trans (Xd.of e814)
          have x015 := x014.mut (o := .lst (ps.map V.ref ++ [.ref r2])) hU
          have hB15 := hB14.upd (o := .lst (ps.map V.ref ++ [.ref r2])) List.mem_cons_self nUb
          refine ⟨U, _, _, rfl, rfl, U14, by rw [List.length_map]; exact small1000 (by omega), ?_⟩
          refine ⟨_, rfl, _, rfl, _, rfl, q, U, n, l, g, ws ++ [(a, bb)], rfl, q_xb hbl x015 hQ, hn, hl, hT15.told, hb', ho', fun H16 e16 => ?_⟩
          have hT16 := hT15.ex e16
          obtain ⟨ps16, U16, hps16⟩ := id hT16
          have hl16 : ps16.length = i + 1 := by rw [Paired.length hps16, List.length_append, List.length_singleton, hwl]
          refine ⟨_, rfl, _, rfl, U, _, rfl, .inl (.of U16), (need : Int), _, rfl, rfl, _, _, rfl, rfl, _, rfl, ite2 (fun z5 => ?_) (fun z5 => ?_)⟩
          · exfalso
            have := of_decide_eq_true z5
            rw [List.length_map, hl16] at this
            omega
          · exact ⟨ws ++ [(a, bb)], _, _, _, _, _, rfl, x015.trans (Xd.of e16), hB15.ex e16, hT16, by rw [List.length_append, List.length_singleton, hwl], hb', ho', hL'⟩
    · rintro σ H2 ⟨ws, x7, x8, x9, x10, x11, rfl, x2, hB2, hT2, hwl, hb, ho, hL⟩
      have hcl : (LM.cnt n ws).length = n := LM.cnt_len hb
      have hL0 : LM.L g n l (LM.cnt n ws) = 0 := by omega
      have hs := (LM.L_zero hcl).mp hL0
      have hw2 := w_xb hbl x2 hW
      refine ⟨_, rfl, _, rfl, _, rfl, _, rfl, n, l, U, ws, rfl, hn, hT2, by omega, hb, fun p H3 hp e3 h3 => ?_⟩
      refine ⟨d, p, n, g, _, rfl, hw2.ex e3, .of h3, ho, LM.opn_len, by have := opn_small (l := l) (cs := LM.cnt n ws) hn; omega, fun H4 e4 => ?_⟩
      have hV : onlyV g (LM.opn n l (LM.cnt n ws)) = .int (bi (g ((LM.opn n l (LM.cnt n ws)).headD []))) := by unfold onlyV; rw [if_pos hs]
      show Q (V.bl (!decide (onlyV g (LM.opn n l (LM.cnt n ws)) = .non))) H4
      rw [hV]
      have e24 := e3.trans e4
      exact k H4 (x2.trans (Xd.of e24)) ((hB2.ex e24).less fun x hx => List.mem_cons_of_mem _ hx)
end
end LL

/-! Leastlooks, the law's second game. -/
namespace LL
open PySem PySem.Spec PyProof.Rows L2
open Evl (Ex RetV RetL)
section
variable {P : Program} {w : World} {K : PySem.W.Frag} {mg : Str → Option Value} {base : Heap}
theorem ok_game2 {C : Addr} (D : DfM K mg "_law_second_game" s_w_second_game) (G : Gs K mg) (CO : Ct P w K mg base 1 "_law_only" (sp_w_only K)) (CP : Ct P w K mg base 3 "_law_open" sp_w_open) (CH : Ct P w K mg base 56 "hard_bit" (sp_hard K C))
    (CD : Ct P w K mg base 1 "_law_draw" (sp_draw K)) (CL : Ct P w K mg base 56 "lie_looks" (sp_lie K C)) : Ct P w K mg base 58 "_law_second_game" (sp_game K C) := by
  refine ct_of D sc_w_second_game (fun vs H Q E h => ?_) (fun _ _ _ _ _ _ us hl => match us, hl with | [_, _, _, _, _, _], _ => rfl) (fun f cdv A outer s H vs Q E hr h => ?_)
  · obtain ⟨_, _, _, _, _, _, _, _, rfl, _⟩ := h
    rfl
  · obtain ⟨b, d, q, n, l, need, g, as, rfl, hn1, hn, hl, hneed, hneed2, hB, has, hW, hQ, k⟩ := h
    have CO := CO.up (k := 57) (by decide)
    have CP := CP.up (k := 57) (by decide)
    have CH := CH.up (k := 57) (by decide)
    have CD := CD.up (k := 57) (by decide)
    have CL := CL.up (k := 57) (by decide)
    refine ⟨_, pss_cons (ps_set (i := 6) sc_w_second_game.nd rfl (.inl rfl) (pe_lst pa_nil))
      (pss_cons (ps_for PassesOwn.never rfl (pi_range1 (by rfl) G.range (pa_cons pe_int pa_nil)) (pg_name (i := 7) sc_w_second_game.nd rfl (.inl rfl))
        (pss_cons (ps_if (pt_cmp (pc_notN (pe_ct CO hr (by rfl) (pa_cons (pv 1) (pa_cons (pe_ct CP hr (by rfl) (pa_cons (pv 2) (pa_cons (pv 4) (pa_cons (pv 6) pa_nil)))) pa_nil)))))
          (pss_one (ps_ret (pe_cmpR op_ge (pe_callB call_len_seq (by rfl) G.len boot_len (pa_cons (pv 6) pa_nil)) (pv 5) (nomark _)))) pss_nil)
        (pss_cons (ps_set (i := 8) sc_w_second_game.nd rfl (.inl rfl) (pe_ct CD hr (by rfl) (pa_cons (pv 0) (pa_cons (pv 2) pa_nil))))
        (pss_cons (ps_set (i := 9) sc_w_second_game.nd rfl (.inl rfl) (pe_ct CH hr (by rfl) (pa_cons (pv 3) (pa_cons (pv 4) (pa_cons (pv 6) (pa_cons (pv 8) pa_nil))))))
        (pss_cons (ps_expr (pe_bm PySem.F.plainAttrs_list PySem.F.slot_list_append PySem.F.type_list_append mt_append (pv 6) (pa_cons (pe_tup (pa_cons (pv 8) (pa_cons (pv 9) pa_nil))) pa_nil)))
        (pss_cons (ps_if (pt_cmpR (op_eqE (u64 hr)) (pe_ct CP hr (by rfl) (pa_cons (pv 2) (pa_cons (pv 4) (pa_cons (pv 6) pa_nil)))) (pe_lst pa_nil) (nomark _)) (pss_one (ps_ret pe_bl)) pss_nil)
        (pss_one (ps_if (pt_cmpR op_lt (pe_ct CL hr (by rfl) (pa_cons (pv 3) (pa_cons (pv 4) (pa_cons (pv 6) pa_nil)))) (pe_op op_sub (pv 5) (pe_callB call_len_seq (by rfl) G.len boot_len (pa_cons (pv 6) pa_nil))) (nomark _)) (pss_one (ps_ret pe_bl)) pss_nil))))))))
      (pss_one (ps_ret pe_bl))), ?_⟩
    obtain ⟨bxs, hbl⟩ := hB.lst
    refine ⟨by show 0 ≤ sizeLine; exact Nat.zero_le _, fun U hU => ?_⟩
    have e1 : Ex H (upd H U (.lst [])) := Ex.new hU
    have nUb : U ≠ b := fun e => hB.at (e ▸ hU)
    refine ⟨12, rfl, by decide, by decide, ?_⟩
    refine for_range (n := ((12 : Int)).toNat) (fun i σ H' => ∃ (ws : List (Nat × Bool)) (x7 x8 x9 : Option V), σ = [some (.ref b), some (.ref d), some (.int (n : Int)), some (.ref q), some (.int (l : Int)), some (.int (need : Int)), some (.ref U), x7, x8, x9] ∧
        Xd b H H' ∧ BagAt K H' b (U :: as) ∧ ToldL H' U ws ∧ ws.length = i ∧ (∀ v ∈ ws, v.1 < n) ∧ LM.opn n l (LM.cnt n ws) ≠ [] ∧ need ≤ LM.L g n l (LM.cnt n ws) + i)
      ⟨[], none, none, none, rfl, Xd.of e1, (hB.grow hU).ex e1, ⟨[], upd_same, .nil⟩, rfl, (fun v hv => nomatch hv), opn_zeros, by rw [hneed]; exact Nat.le_refl _⟩ ?_ ?_
    · rintro i σ H2 hi ⟨ws, x7, x8, x9, rfl, x2, hB2, hT2, hwl, hb, ho, hL⟩
      have hi2 : i < 12 := hi
      have hcl : (LM.cnt n ws).length = n := LM.cnt_len hb
      have hq2 := q_xb hbl x2 hQ
      have hw2 := w_xb hbl x2 hW
      refine ⟨_, rfl, _, rfl, _, rfl, _, rfl, n, l, U, ws, rfl, hn, hT2, by omega, hb, fun p H3 hp e3 h3 => ?_⟩
      refine ⟨d, p, n, g, _, rfl, hw2.ex e3, .of h3, ho, LM.opn_len, by have := opn_small (l := l) (cs := LM.cnt n ws) hn; omega, fun H4 e4 => ?_⟩
      have e24 := e3.trans e4
      have hB4 := hB2.ex e24
      have hT4 := hT2.ex e24
      have x04 := x2.trans (Xd.of e24)
      obtain ⟨ps4, U4, hps4⟩ := id hT4
      refine ⟨_, rfl, ite2 (fun z => ?_) (fun z => ?_)⟩
      · have hs : LM.same g (LM.opn n l (LM.cnt n ws)) = true := by
          cases hqq : LM.same g (LM.opn n l (LM.cnt n ws)) with
          | true => rfl
          | false =>
            unfold onlyV at z
            rw [if_neg (by rw [hqq]; exact Bool.false_ne_true)] at z
            exact absurd z (by decide)
        have hL0 := LM.L_same (f := g) hcl hs
        have hpl : ps4.length = i := by rw [Paired.length hps4, hwl]
        refine ⟨_, rfl, U, _, rfl, .inl (.of U4), _, rfl, _, (need : Int), rfl, rfl, ?_⟩
        show Q (V.bl (decide ((need : Int) ≤ ((ps4.map V.ref).length : Nat)))) H4
        rw [decide_eq_true (by rw [List.length_map, hpl]; omega)]
        exact k H4 x04 (hB4.less fun x hx => List.mem_cons_of_mem _ hx)
      · have hU4 : H4 U ≠ none := by rw [U4]; exact fun e => nomatch e
        obtain ⟨b4s, hb4⟩ := hB4.lst
        refine ⟨_, rfl, _, rfl, b, n, U :: as, rfl, by omega, by omega, hB4, has_more x04 hB4 has hU4, fun a H5 ha x5' hB5 => ?_⟩
        have x05 := x04.trans x5'
        have hT5 := ToldL.xb hb4 x5' nUb hT4
        refine ⟨_, rfl, _, rfl, _, rfl, _, rfl, q, U, n, l, a, g, ws, rfl, q_xb hbl x05 hQ, hn, hl, ha, hT5.told, hb, ho, fun bb H6 e6 hop hmx => ?_⟩
        have hcs : LM.cnt n (ws ++ [(a, bb)]) = LM.more (LM.cnt n ws) a bb := LM.cnt_snoc
        have hb' : ∀ v ∈ ws ++ [(a, bb)], v.1 < n := fun v hv => by
          rcases List.mem_append.mp hv with h | h
          · exact hb v h
          · rw [List.mem_singleton.mp h]; exact ha
        have ho' : LM.opn n l (LM.cnt n (ws ++ [(a, bb)])) ≠ [] := by rw [hcs]; exact hop
        have hL' : need ≤ LM.L g n l (LM.cnt n (ws ++ [(a, bb)])) + (i + 1) := by
          rw [hcs]
          obtain ⟨b0, h0, hL0⟩ := LM.L_hard (f := g) hcl ha ho
          have := hmx b0 h0
          omega
        have hT6 := hT5.ex e6
        have hB6 := hB5.ex e6
        have x06 := x05.trans (Xd.of e6)
        obtain ⟨ps, U6, hps6⟩ := id hT6
        have hpsl : ps.length = ws.length := Paired.length hps6
        refine ⟨_, rfl, .inl ⟨rfl, _, .of U6⟩, _, rfl, _, rfl, by show 2 ≤ sizeLine; decide, fun r hr6 => ?_⟩
        have e7 : Ex H6 (upd H6 r (.tup [.int (a : Nat), .int (bi bb)])) := Ex.new hr6
        have U7 := e7 _ _ U6
        have hT8 := ToldL.push (v := (a, bb)) U7 (Paired.mapP hps6 fun p v q => e7 _ _ q) upd_same
        have x08 := (x06.trans (Xd.of e7)).mut (o := .lst (ps.map V.ref ++ [.ref r])) hU
        have hB8 := (hB6.ex e7).upd (o := .lst (ps.map V.ref ++ [.ref r])) List.mem_cons_self nUb
        refine ⟨U, _, _, rfl, rfl, U7, by rw [List.length_map]; exact small1000 (by omega), ?_⟩
        refine ⟨_, rfl, _, rfl, _, rfl, n, l, U, ws ++ [(a, bb)], rfl, hn, hT8, by rw [List.length_append, List.length_singleton]; omega, hb', fun p9 H9 hp9 e9 h9 => ?_⟩
        refine ⟨by show 0 ≤ sizeLine; exact Nat.zero_le _, fun e he => ?_⟩
        have e10 : Ex H9 (upd H9 e (.lst [])) := Ex.new he
        have e810 := e9.trans e10
        refine ⟨p9, e, _, rfl, rfl, .of (e10 _ _ h9), .of upd_same, fun x hx => ?_, _, rfl, ite2 (fun zz => ?_) (fun zz => ?_)⟩
        · obtain ⟨u, _, rfl⟩ := List.mem_map.mp hx
          exact ⟨_, .tx u⟩
        · exfalso
          apply ho'
          have : (txs (LM.opn n l (LM.cnt n (ws ++ [(a, bb)])))).isEmpty = true := zz
          unfold txs at this
          rw [List.isEmpty_iff] at this
          exact List.map_eq_nil_iff.mp this
        · have x010 := x08.trans (Xd.of e810)
          refine ⟨_, rfl, _, rfl, _, rfl, q, U, n, l, g, ws ++ [(a, bb)], rfl, q_xb hbl x010 hQ, hn, hl, (hT8.ex e810).told, hb', ho', fun H16 e16 => ?_⟩
          have hT16 := (hT8.ex e810).ex e16
          obtain ⟨ps16, U16, hps16⟩ := id hT16
          have hl16 : ps16.length = i + 1 := by rw [Paired.length hps16, List.length_append, List.length_singleton, hwl]
          refine ⟨_, rfl, _, rfl, U, _, rfl, .inl (.of U16), (need : Int), _, rfl, rfl, _, _, rfl, rfl, _, rfl, ite2 (fun z5 => ?_) (fun z5 => ?_)⟩
          · exfalso
            have := of_decide_eq_true z5
            rw [List.length_map, hl16] at this
            omega
          · exact ⟨ws ++ [(a, bb)], _, _, _, rfl, x010.trans (Xd.of e16), (hB8.ex e810).ex e16, hT16, by rw [List.length_append, List.length_singleton, hwl], hb', ho', hL'⟩
    · rintro σ H2 ⟨ws, x7, x8, x9, rfl, x2, hB2, hT2, hwl, hb, ho, hL⟩
      exact k H2 x2 (hB2.less fun x hx => List.mem_cons_of_mem _ hx)
end
end LL

/-! Leastlooks, the law. -/
namespace LL
open PySem PySem.Spec PyProof.Rows L2
open Evl (Ex RetV RetL)
theorem blank_px : px (LM.blank 1) = ("-" : Str) ∧ px (LM.blank 2) = (⟨(List.replicate 2 ("-" : Str).cps).foldl (· ++ ·) #[]⟩ : Str) ∧ px (LM.blank 3) = (⟨(List.replicate 3 ("-" : Str).cps).foldl (· ++ ·) #[]⟩ : Str) := by decide +kernel
theorem op_dash {X : Cx} : OpR X (binaryOp .Mult) (fun x y H Q => ∃ n : Nat, x = .str "-" ∧ y = .int (n : Int) ∧ 1 ≤ n ∧ n ≤ 3 ∧ Q (.str (px (LM.blank n))) H) := by
  intro pins s σ H x y v u Q I rx ry h
  obtain ⟨n, rfl, rfl, h1, h3, q⟩ := h
  obtain ⟨t, rfl⟩ := rx
  obtain ⟨t', rfl⟩ := ry
  match n, h1, h3 with
  | 1, _, _ =>
    refine PySem.P.mul_str (by decide) (fun _ h => absurd h (by decide +kernel)) (fun _ h => absurd h (by decide +kernel)) ?_
    rw [if_neg (by decide), if_pos (by decide +kernel)]
    rw [blank_px.1] at q
    exact ⟨.str _, H, I, ⟨_, rfl⟩, q⟩
  | 2, _, _ =>
    refine PySem.P.mul_str (by decide) (fun _ _ => by decide +kernel) (fun _ _ => by decide +kernel) ?_
    rw [if_neg (by decide), if_neg (by decide +kernel)]
    rw [blank_px.2.1] at q
    exact ⟨by decide +kernel, .str _, H, I.tok _, ⟨_, rfl⟩, q⟩
  | 3, _, _ =>
    refine PySem.P.mul_str (by decide) (fun _ _ => by decide +kernel) (fun _ _ => by decide +kernel) ?_
    rw [if_neg (by decide), if_neg (by decide +kernel)]
    rw [blank_px.2.2] at q
    exact ⟨by decide +kernel, .str _, H, I.tok _, ⟨_, rfl⟩, q⟩
theorem L_meas {f : List Bool → Bool} {n l : Nat} : ∀ (k : Nat) (cs : List (Nat × Nat)), cs.length = n → LM.meas n l cs ≤ k → LM.L f n l cs ≤ k := by
  intro k
  induction k with
  | zero =>
    intro cs hc hk
    have e := LM.meas_zero (Nat.le_zero.mp hk)
    rw [LM.L_same hc (by rw [e]; rfl)]
    exact Nat.le_refl _
  | succ k ih =>
    intro cs hc hk
    cases hs : LM.same f (LM.opn n l cs) with
    | true => rw [LM.L_same hc hs]; exact Nat.zero_le _
    | false =>
      obtain ⟨p, hp, e⟩ := LM.L_at hc hs
      have hpn := (LM.mem_split.mp hp).1
      have h : ∀ b, LM.L f n l (LM.more cs p b) ≤ k := fun b => ih _ (by rw [LM.more_len (by omega)]; exact hc) (by have := LM.meas_lt (b := b) hc hp; omega)
      have h0 := h false
      have h1 := h true
      omega
theorem at_lies {n : Nat} (h1 : 1 ≤ n) (h3 : n ≤ 3) : ∃ m : Nat, 0 < m ∧ m ≤ 3 ∧ atI ([V.int 3, V.int 3, V.int 3, V.int 2] : List V) ((n : Nat) : Int) = some (V.int (m : Nat)) := by
  match n, h1, h3 with
  | 1, _, _ => exact ⟨3, by decide, by decide, rfl⟩
  | 2, _, _ => exact ⟨3, by decide, by decide, rfl⟩
  | 3, _, _ => exact ⟨2, by decide, by decide, rfl⟩
section
variable {P : Program} {w : World} {K : PySem.W.Frag} {mg : Str → Option Value} {base : Heap}
theorem CtI.up {C : Addr} {j k : Nat} {sp : Sp} (c : CtI P w K mg base C j sp) (h : j ≤ k) : CtI P w K mg base C k sp := by
  obtain ⟨g, a, m, F⟩ := c
  exact ⟨g, a, m, F.mono h⟩
def sp_law (K : PySem.W.Frag) : Sp := fun vs H Q _ => ∃ (a : Addr) (ns : List Int), vs = [.ref a] ∧ SqL K H a (ns.map V.int) ∧ ns.length ≤ 63 ∧ ∀ H2, Q (.bl true) H2
theorem ok_law {C e0 f : Addr} {fd : FuncData} (F : FunD K "law" "law" (defArgs s_law) (defBody s_law) (defScope s_law) [] [] f fd) (G : Gs K mg) (hNo : NoTup K e0) (CB : Ct P w K mg base 1 "_law_bag" (sp_bag K)) (CD : Ct P w K mg base 1 "_law_draw" (sp_draw K)) (CT : Ct P w K mg base 4 "_law_table" (sp_w_table K)) (CWo : Ct P w K mg base 3 "_law_worths" sp_w_worths) (CI : CtI P w K mg base C 4 (sp_q_init C))
    (CL : Ct P w K mg base 56 "lie_looks" (fun vs H Q E => sp_lie K C (vs ++ [.ref e0]) H Q E)) (CSe : Ct P w K mg base 3 "_law_settling" sp_w_settling) (CNe : Ct P w K mg base 3 "_law_needs" sp_w_needs) (CW : Ct P w K mg base 1 "_law_is_whole" sp_w_whole)
    (CG1 : Ct P w K mg base 58 "_law_first_game" (sp_game K C)) (CG2 : Ct P w K mg base 58 "_law_second_game" (sp_game K C)) : FnOk P w K mg base CX0 60 f fd ["_law_script"] (sp_law K) := by
  refine FunD.ok F sc_law (fun vs H Q E h => ?_) (fun cdv A outer s H vs Q E hr h => ?_)
  · obtain ⟨_, _, rfl, _⟩ := h
    rfl
  · suffices hx : ∃ t, PSs (cxOf CX0 P w K mg base ["_law_script", "_law_bag_here", "_law_many", "_law_table_here", "_law_worths_here", "_law_question", "_law_lies", "_law_need", "_law_most", "_law_turn"] "law" (defScope s_law) f cdv A outer s H E).nox (defBody s_law) t ∧ t { nx := fun _ H' => Q .non H', rt := Q } (start ["_law_script", "_law_bag_here", "_law_many", "_law_table_here", "_law_worths_here", "_law_question", "_law_lies", "_law_need", "_law_most", "_law_turn"] vs) H by
      obtain ⟨t, h1, h2⟩ := hx
      exact ⟨t, h1.nox, h2⟩
    obtain ⟨a, ns, rfl, hs, hns, k⟩ := h
    have CB := CB.up (k := 59) (by decide)
    have CD := CD.up (k := 59) (by decide)
    have CT := CT.up (k := 59) (by decide)
    have CWo := CWo.up (k := 59) (by decide)
    have CL := CL.up (k := 59) (by decide)
    have CSe := CSe.up (k := 59) (by decide)
    have CNe := CNe.up (k := 59) (by decide)
    have CW := CW.up (k := 59) (by decide)
    have CG1 := CG1.up (k := 59) (by decide)
    have CG2 := CG2.up (k := 59) (by decide)
    obtain ⟨gi, hC, hM, FI⟩ := CI.up (k := 58) (by decide)
    have nil0 : ∀ {H : Hp}, ∀ a ∈ ([] : List Addr), H a ≠ none := fun a ha => nomatch ha
    have tail : ∃ tl, PSs (cxOf CX0 P w K mg base ["_law_script", "_law_bag_here", "_law_many", "_law_table_here", "_law_worths_here", "_law_question", "_law_lies", "_law_need", "_law_most", "_law_turn"] "law" (defScope s_law) f cdv A outer s H E).nox ((defBody s_law).drop 10) tl ∧
        ∀ (b d x : Addr) (n l need : Nat) (g : List Bool → Bool) (x3 x8 : Option V) H2, 1 ≤ n → n ≤ 3 → l ≤ 2 → need = LM.L g n l (LM.zeros n) → need ≤ 100 → BagAt K H2 b [] → WAt H2 d n g → QAt C H2 x n g →
          tl { nx := fun _ H' => Q .non H', rt := Q } [some (.ref a), some (.ref b), some (.int (n : Int)), x3, some (.ref d), some (.ref x), some (.int (l : Int)), some (.int (need : Int)), x8, none] H2 := by
      refine ⟨_, pss_cons (ps_for PassesOwn.never rfl (pi_range1 (by rfl) G.range (pa_cons pe_int pa_nil)) (pg_name (i := 9) sc_law.nd rfl (.inl rfl))
        (pss_cons (ps_if (pt_not (pt_val (pe_ct CG1 hr (by rfl) (pa_cons (pv 1) (pa_cons (pv 4) (pa_cons (pv 2) (pa_cons (pv 5) (pa_cons (pv 6) (pa_cons (pv 7) pa_nil))))))))) (pss_one (ps_ret pe_bl)) pss_nil)
        (pss_one (ps_if (pt_not (pt_val (pe_ct CG2 hr (by rfl) (pa_cons (pv 1) (pa_cons (pv 4) (pa_cons (pv 2) (pa_cons (pv 5) (pa_cons (pv 6) (pa_cons (pv 7) pa_nil))))))))) (pss_one (ps_ret pe_bl)) pss_nil))))
      (pss_one (ps_ret pe_bl)), ?_⟩
      intro b d x n l need g x3 x8 H2 hn1 hn3 hl2 hneed hneed2 hB hW hQ
      obtain ⟨bs, hb⟩ := hB.lst
      refine ⟨2, rfl, by decide, by decide, ?_⟩
      refine for_range (n := ((2 : Int)).toNat) (fun i σ H' => ∃ x9 : Option V, σ = [some (.ref a), some (.ref b), some (.int (n : Int)), x3, some (.ref d), some (.ref x), some (.int (l : Int)), some (.int (need : Int)), x8, x9] ∧ Xd b H2 H' ∧ BagAt K H' b []) ⟨none, rfl, Xd.refl _, hB⟩ ?_ ?_
      · rintro i σ H3 hi ⟨x9, rfl, x2, hB3⟩
        refine ⟨_, rfl, _, rfl, _, rfl, _, rfl, _, rfl, _, rfl, b, d, x, n, l, need, g, [], rfl, hn1, hn3, hl2, hneed, hneed2, hB3, nil0, w_xb hb x2 hW, q_xb hb x2 hQ, fun H4 x4 hB4 => ⟨true, rfl, iteF ?_⟩⟩
        have x24 := x2.trans x4
        refine ⟨_, rfl, _, rfl, _, rfl, _, rfl, _, rfl, _, rfl, b, d, x, n, l, need, g, [], rfl, hn1, hn3, hl2, hneed, hneed2, hB4, nil0, w_xb hb x24 hW, q_xb hb x24 hQ, fun H5 x5 hB5 => ⟨true, rfl, iteF ?_⟩⟩
        exact ⟨_, rfl, x24.trans x5, hB5⟩
      · rintro σ H3 ⟨x9, rfl, x2, hB3⟩
        exact k H3
    obtain ⟨tl, htl, htail⟩ := tail
    refine ⟨_, pss_cons (ps_set (i := 1) sc_law.nd rfl (.inl rfl) (pe_ct CB hr (by rfl) (pa_cons (pv 0) pa_nil)))
      (pss_cons (ps_set (i := 2) sc_law.nd rfl (.inl rfl) (pe_op op_add pe_int (pe_ct CD hr (by rfl) (pa_cons (pv 1) (pa_cons pe_int pa_nil)))))
      (pss_cons (ps_set (i := 3) sc_law.nd rfl (.inl rfl) (pe_ct CT hr (by rfl) (pa_cons (pv 1) (pa_cons (pv 2) pa_nil))))
      (pss_cons (ps_set (i := 4) sc_law.nd rfl (.inl rfl) (pe_ct CWo hr (by rfl) (pa_cons (pv 3) pa_nil)))
      (pss_cons (ps_set (i := 5) sc_law.nd rfl (.inl rfl) (StX.pe_makeR hM FI hr (by rfl) hC pass0 (pa_cons (pv 3) pa_nil)))
      (pss_cons (ps_set (i := 6) sc_law.nd rfl (.inl rfl) (pe_ct CD hr (by rfl) (pa_cons (pv 1) (pa_cons (pe_ix ix_list (pe_lst (pa_cons pe_int (pa_cons pe_int (pa_cons pe_int (pa_cons pe_int pa_nil))))) (pv 2) (fun _ _ => rfl)) pa_nil))))
      (pss_cons (ps_set (i := 7) sc_law.nd rfl (.inl rfl) (pe_ct CL hr (by rfl) (pa_cons (pv 5) (pa_cons (pv 6) pa_nil))))
      (pss_cons (ps_set (i := 8) sc_law.nd rfl (.inl rfl) (pe_dget (u1 hr) (pe_ct CNe hr (by rfl) (pa_cons (pe_ct CSe hr (by rfl) (pa_cons (pv 4) (pa_cons (pv 2) pa_nil))) (pa_cons (pv 2) pa_nil))) (pe_op op_dash pe_str (pv 2)) (fun _ _ => rfl)))
      (pss_cons (ps_if (PW.pt (pw_or (pt_not (pt_val (pe_ct CW hr (by rfl) (pa_cons (pv 7) pa_nil)))) (pw_or (pt_cmpR op_gt (pv 7) (pe_op op_mul (pe_op op_add (pe_op op_mul pe_int (pv 6)) pe_int) (pv 8)) (nomark _))
        (pw_or1 (pt_cmpR op_ne (pe_ct CL hr (by rfl) (pa_cons (pv 5) (pa_cons pe_int pa_nil))) (pv 8) (nomark _)))))) (pss_one (ps_ret pe_bl)) pss_nil)
      (pss_cons (ps_if (PW.pt (pw_and (pt_cmpR op_gt (pv 6) pe_int (nomark _)) (pw_and1 (pt_cmpR op_gt (pe_ct CL hr (by rfl) (pa_cons (pv 5) (pa_cons (pe_op op_sub (pv 6) pe_int) pa_nil))) (pv 7) (nomark _))))) (pss_one (ps_ret pe_bl)) pss_nil)
      htl))))))))), ?_⟩
    refine ⟨_, rfl, a, ns, rfl, hs, hns, fun b H1 hb e1 hB1 => ?_⟩
    refine ⟨_, rfl, b, 3, [], rfl, by decide, by decide, hB1, nil0, fun m H2 hm x2 hB2 => ⟨1, (m : Int), rfl, rfl, ?_⟩⟩
    obtain ⟨n, hnm⟩ : ∃ n, n = 1 + m := ⟨_, rfl⟩
    have hn1 : 1 ≤ n := by omega
    have hn3 : n ≤ 3 := by omega
    have hnI : (1 : Int) + (m : Int) = (n : Int) := by omega
    show gName 2 (V.int ((1 : Int) + (m : Int))) _ _ _
    rw [hnI]
    refine ⟨_, rfl, _, rfl, b, n, [], rfl, hn1, hn3, hB2, nil0, fun tb H3 htb x3 hB3 => ?_⟩
    refine ⟨_, rfl, n, tb, rfl, hn3, htb, fun d H4 hd e4 hW4 => ?_⟩
    have hB4 := hB3.ex e4
    generalize hg : fT n tb = g at hW4
    refine ⟨_, rfl, fun x dx hx hdx ne => ?_⟩
    refine ⟨x, dx, n, tb, rfl, hn3, htb, upd_same, fun H5 x5 hQ5 => ⟨rfl, ?_⟩⟩
    rw [hg] at hQ5
    have e5 : Ex H4 H5 := fun c o hc => by
      have n1 : c ≠ x := fun e => by rw [e, hx] at hc; cases hc
      have n2 : c ≠ dx := fun e => by rw [e, hdx] at hc; cases hc
      exact x5 c o n1 (by rw [upd_ne n1, upd_ne n2]; exact hc)
    have hB5 := hB4.ex e5
    have hW5 := hW4.ex e5
    obtain ⟨mx, hm0, hm3, hat⟩ := at_lies hn1 hn3
    refine ⟨_, rfl, by show 4 ≤ sizeLine; decide, fun p hp => ?_⟩
    have e6 : Ex H5 (upd H5 p (.lst [.int 3, .int 3, .int 3, .int 2])) := Ex.new hp
    have hB6 := hB5.ex e6
    obtain ⟨bs6, hb6⟩ := hB6.lst
    refine ⟨_, rfl, p, _, (n : Int), .int (mx : Nat), rfl, rfl, .of upd_same, hat, b, mx, [], rfl, hm0, by omega, hB6, nil0, fun l H7 hl x7 hB7 => ?_⟩
    have hQ7 := q_xb hb6 x7 (hQ5.ex e6)
    have hW7 := w_xb hb6 x7 (hW5.ex e6)
    have hl2 : l ≤ 2 := by omega
    have told0 : ∀ {H : Hp}, Told K H e0 [] := .inr ⟨rfl, hNo⟩
    have hcl : (LM.zeros n).length = n := LM.zeros_len n
    refine ⟨_, rfl, _, rfl, x, e0, n, l, g, [], rfl, hQ7, hn3, hl2, told0, (fun v hv => nomatch hv), opn_zeros, fun H8 e8 => ?_⟩
    show gName 7 (V.int (LM.L g n l (LM.zeros n) : Nat)) _ _ _
    generalize hneed : LM.L g n l (LM.zeros n) = need
    have hneed2 : need ≤ 24 := by rw [← hneed]; exact L_meas 24 _ hcl (meas_le hn3 hl2)
    refine ⟨_, rfl, _, rfl, d, n, g, rfl, hn3, hW7.ex e8, fun r H9 hr9 e9 hS9 => ?_⟩
    refine ⟨_, rfl, r, n, g, rfl, hn3, hS9, fun r2 H10 hr10 e10 hN10 => ?_⟩
    obtain ⟨kvs, hk1, hk2⟩ := hN10
    have e810 := e8.trans (e9.trans e10)
    refine ⟨_, rfl, n, rfl, rfl, hn1, hn3, r2, .int (LM.N g (LM.blank n) : Nat), rfl, ?_, ?_⟩
    · rw [← hk2 (LM.blank n) List.length_replicate]
      exact DGet.k (k := .inr (px (LM.blank n))) hk1
    have hup : need ≤ (2 * l + 1) * LM.N g (LM.blank n) := by rw [← hneed]; exact LM.law_upper
    have hQ10 := hQ7.ex e810
    refine ⟨_, rfl, (need : Int), rfl, true, rfl, iteF ?_⟩
    refine ⟨_, rfl, _, rfl, 2, (l : Int), rfl, rfl, .inl (by decide), _, 1, rfl, rfl, _, rfl, _, _, rfl, rfl, .inl (by omega), (need : Int), _, rfl, rfl, _, rfl, ite2 (fun z => ?_) (fun z => ?_)⟩
    · exfalso
      have z1 := of_decide_eq_true z
      have : (((2 * l + 1) * LM.N g (LM.blank n) : Nat) : Int) = (2 * (l : Int) + 1) * ((LM.N g (LM.blank n) : Nat) : Int) := by
        rw [Int.natCast_mul, Int.natCast_add, Int.natCast_mul]
        rfl
      have h2 : ((need : Nat) : Int) ≤ (((2 * l + 1) * LM.N g (LM.blank n) : Nat) : Int) := Int.ofNat_le.mpr hup
      rw [this] at h2
      omega
    refine ⟨_, rfl, x, e0, n, 0, g, [], rfl, hQ10, hn3, by decide, told0, (fun v hv => nomatch hv), opn_zeros, fun H11 e11 => ?_⟩
    refine ⟨_, rfl, rfl, _, rfl, ite2 (fun z => ?_) (fun z => ?_)⟩
    · exfalso
      have h0 : LM.L g n 0 (LM.cnt n []) = LM.N g (LM.blank n) := LM.law_nolies
      rw [h0, decide_eq_true rfl] at z
      exact absurd z (by decide)
    have hQ11 := hQ10.ex e11
    have hW11 := (hW7.ex e810).ex e11
    have hB11 := (hB7.ex e810).ex e11
    refine ⟨_, rfl, (l : Int), 0, rfl, rfl, _, rfl, ite2 (fun z2 => ?_) (fun z2 => ?_)⟩
    · have hl0 : 0 < l := by have := of_decide_eq_true z2; omega
      have elI : (l : Int) - 1 = ((l - 1 : Nat) : Int) := by omega
      refine ⟨_, rfl, _, rfl, (l : Int), 1, rfl, rfl, x, e0, n, l - 1, g, [], by show [V.ref x, V.int ((l : Int) - 1), V.ref e0] = _; rw [elI], hQ11, hn3, by omega, told0, (fun v hv => nomatch hv), opn_zeros, fun H12 e12 => ?_⟩
      refine ⟨_, rfl, _, (need : Int), rfl, rfl, _, rfl, ite2 (fun z3 => ?_) (fun z3 => ?_)⟩
      · exfalso
        have h1 := of_decide_eq_true z3
        have h2 : LM.L g n (l - 1) (LM.cnt n []) ≤ LM.L g n l (LM.zeros n) := LM.L_lies (cs := LM.zeros n) hcl (by omega)
        rw [hneed] at h2
        omega
      · exact htail b d x n l need g _ _ H12 hn1 hn3 hl2 hneed.symm (by omega) (hB11.ex e12) (hW11.ex e12) (hQ11.ex e12)
    · exact htail b d x n l need g _ _ H11 hn1 hn3 hl2 hneed.symm (by omega) hB11 hW11 hQ11
end
end LL

/-! The head: what the top leaves, looked at by names. -/
namespace LL
open PySem PySem.Spec PyProof.Rows L2
def loose1 : List PySem.Str := ["_wall", "LooksError", "BadInput", "BadTable", "BadCount", "BadPosition", "TooMany", "BadTold", "UnlikeSizes", "NoneLeft", "MOST", "BITS", "is_integer", "has_signs", "is_input", "need_count", "need_input", "strings", "inputs", "need_position", "MOST_WIDE", "MOST_LIES", "is_told", "counts_of", "wrong_looks", "open_by", "need_open", "open_inputs", "only_answer", "told_answer"]
def loose2 : List PySem.Str := ["more", "split_positions", "looks_from", "behind", "lie_looks", "next_looks", "hard_bit", "SIZES", "is_table", "Question", "_law_bag", "_law_draw", "_law_mixed", "_law_strings", "_law_inputs", "_law_patterns", "_law_put", "_law_open_spots", "_law_rule", "_law_table", "_law_worths", "_law_settling", "_law_needs", "_law_is_whole", "_law_open", "_law_only", "_law_first_game", "_law_second_game"]
def d_is_integer : He.DefD := ⟨("is_integer", none), "is_integer", "is_integer", defArgs s_is_integer, defBody s_is_integer, defScope s_is_integer, [], []⟩
def d_has_signs : He.DefD := ⟨("has_signs", none), "has_signs", "has_signs", defArgs s_has_signs, defBody s_has_signs, defScope s_has_signs, [], []⟩
def d_is_input : He.DefD := ⟨("is_input", none), "is_input", "is_input", defArgs s_is_input, defBody s_is_input, defScope s_is_input, [], []⟩
def d_need_count : He.DefD := ⟨("need_count", none), "need_count", "need_count", defArgs s_need_count, defBody s_need_count, defScope s_need_count, [], []⟩
def d_need_input : He.DefD := ⟨("need_input", none), "need_input", "need_input", defArgs s_need_input, defBody s_need_input, defScope s_need_input, [], []⟩
def d_strings : He.DefD := ⟨("strings", none), "strings", "strings", defArgs s_strings, defBody s_strings, defScope s_strings, [], []⟩
def d_inputs : He.DefD := ⟨("inputs", none), "inputs", "inputs", defArgs s_inputs, defBody s_inputs, defScope s_inputs, [], []⟩
def d_need_position : He.DefD := ⟨("need_position", none), "need_position", "need_position", defArgs s_need_position, defBody s_need_position, defScope s_need_position, [], []⟩
def d_is_told : He.DefD := ⟨("is_told", none), "is_told", "is_told", defArgs s_is_told, defBody s_is_told, defScope s_is_told, [], []⟩
def d_counts_of : He.DefD := ⟨("counts_of", none), "counts_of", "counts_of", defArgs s_counts_of, defBody s_counts_of, defScope s_counts_of, [], []⟩
def d_wrong_looks : He.DefD := ⟨("wrong_looks", none), "wrong_looks", "wrong_looks", defArgs s_wrong_looks, defBody s_wrong_looks, defScope s_wrong_looks, [], []⟩
def d_open_by : He.DefD := ⟨("open_by", none), "open_by", "open_by", defArgs s_open_by, defBody s_open_by, defScope s_open_by, [], []⟩
def d_need_open : He.DefD := ⟨("need_open", none), "need_open", "need_open", defArgs s_need_open, defBody s_need_open, defScope s_need_open, [], []⟩
def d_open_inputs : He.DefD := ⟨("open_inputs", none), "open_inputs", "open_inputs", defArgs s_open_inputs, defBody s_open_inputs, defScope s_open_inputs, [], []⟩
def d_only_answer : He.DefD := ⟨("only_answer", none), "only_answer", "only_answer", defArgs s_only_answer, defBody s_only_answer, defScope s_only_answer, [], []⟩
def d_told_answer : He.DefD := ⟨("told_answer", none), "told_answer", "told_answer", defArgs s_told_answer, defBody s_told_answer, defScope s_told_answer, [], []⟩
def d_more : He.DefD := ⟨("more", none), "more", "more", defArgs s_more, defBody s_more, defScope s_more, [], []⟩
def d_split_positions : He.DefD := ⟨("split_positions", none), "split_positions", "split_positions", defArgs s_split_positions, defBody s_split_positions, defScope s_split_positions, [], []⟩
def d_looks_from : He.DefD := ⟨("looks_from", none), "looks_from", "looks_from", defArgs s_looks_from, defBody s_looks_from, defScope s_looks_from, [], []⟩
def d_behind : He.DefD := ⟨("behind", none), "behind", "behind", defArgs s_behind, defBody s_behind, defScope s_behind, [], []⟩
def d_lie_looks : He.DefD := ⟨("lie_looks", none), "lie_looks", "lie_looks", defArgs s_lie_looks, defBody s_lie_looks, defScope s_lie_looks, [.adr (He.dflAt ("lie_looks", none) 0)], []⟩
def d_next_looks : He.DefD := ⟨("next_looks", none), "next_looks", "next_looks", defArgs s_next_looks, defBody s_next_looks, defScope s_next_looks, [.adr (He.dflAt ("next_looks", none) 0)], []⟩
def d_hard_bit : He.DefD := ⟨("hard_bit", none), "hard_bit", "hard_bit", defArgs s_hard_bit, defBody s_hard_bit, defScope s_hard_bit, [], []⟩
def d_is_table : He.DefD := ⟨("is_table", none), "is_table", "is_table", defArgs s_is_table, defBody s_is_table, defScope s_is_table, [], []⟩
def d_w_bag : He.DefD := ⟨("_law_bag", none), "_law_bag", "_law_bag", defArgs s_w_bag, defBody s_w_bag, defScope s_w_bag, [], []⟩
def d_w_draw : He.DefD := ⟨("_law_draw", none), "_law_draw", "_law_draw", defArgs s_w_draw, defBody s_w_draw, defScope s_w_draw, [], []⟩
def d_w_mixed : He.DefD := ⟨("_law_mixed", none), "_law_mixed", "_law_mixed", defArgs s_w_mixed, defBody s_w_mixed, defScope s_w_mixed, [], []⟩
def d_w_strings : He.DefD := ⟨("_law_strings", none), "_law_strings", "_law_strings", defArgs s_w_strings, defBody s_w_strings, defScope s_w_strings, [], []⟩
def d_w_inputs : He.DefD := ⟨("_law_inputs", none), "_law_inputs", "_law_inputs", defArgs s_w_inputs, defBody s_w_inputs, defScope s_w_inputs, [], []⟩
def d_w_patterns : He.DefD := ⟨("_law_patterns", none), "_law_patterns", "_law_patterns", defArgs s_w_patterns, defBody s_w_patterns, defScope s_w_patterns, [], []⟩
def d_w_put : He.DefD := ⟨("_law_put", none), "_law_put", "_law_put", defArgs s_w_put, defBody s_w_put, defScope s_w_put, [], []⟩
def d_w_open_spots : He.DefD := ⟨("_law_open_spots", none), "_law_open_spots", "_law_open_spots", defArgs s_w_open_spots, defBody s_w_open_spots, defScope s_w_open_spots, [], []⟩
def d_w_rule : He.DefD := ⟨("_law_rule", none), "_law_rule", "_law_rule", defArgs s_w_rule, defBody s_w_rule, defScope s_w_rule, [], []⟩
def d_w_table : He.DefD := ⟨("_law_table", none), "_law_table", "_law_table", defArgs s_w_table, defBody s_w_table, defScope s_w_table, [], []⟩
def d_w_worths : He.DefD := ⟨("_law_worths", none), "_law_worths", "_law_worths", defArgs s_w_worths, defBody s_w_worths, defScope s_w_worths, [], []⟩
def d_w_settling : He.DefD := ⟨("_law_settling", none), "_law_settling", "_law_settling", defArgs s_w_settling, defBody s_w_settling, defScope s_w_settling, [], []⟩
def d_w_needs : He.DefD := ⟨("_law_needs", none), "_law_needs", "_law_needs", defArgs s_w_needs, defBody s_w_needs, defScope s_w_needs, [], []⟩
def d_w_is_whole : He.DefD := ⟨("_law_is_whole", none), "_law_is_whole", "_law_is_whole", defArgs s_w_is_whole, defBody s_w_is_whole, defScope s_w_is_whole, [], []⟩
def d_w_open : He.DefD := ⟨("_law_open", none), "_law_open", "_law_open", defArgs s_w_open, defBody s_w_open, defScope s_w_open, [], []⟩
def d_w_only : He.DefD := ⟨("_law_only", none), "_law_only", "_law_only", defArgs s_w_only, defBody s_w_only, defScope s_w_only, [], []⟩
def d_w_first_game : He.DefD := ⟨("_law_first_game", none), "_law_first_game", "_law_first_game", defArgs s_w_first_game, defBody s_w_first_game, defScope s_w_first_game, [], []⟩
def d_w_second_game : He.DefD := ⟨("_law_second_game", none), "_law_second_game", "_law_second_game", defArgs s_w_second_game, defBody s_w_second_game, defScope s_w_second_game, [], []⟩
def d_law : He.DefD := ⟨("law", none), "law", "law", defArgs s_law, defBody s_law, defScope s_law, [], []⟩
def d_q_init : He.DefD := ⟨("Question", some "__init__"), "__init__", "Question.__init__", defArgs s_q_init, defBody s_q_init, defScope s_q_init, [], []⟩
def d_q_call : He.DefD := ⟨("Question", some "__call__"), "__call__", "Question.__call__", defArgs s_q_call, defBody s_q_call, defScope s_q_call, [], []⟩
def fn : List He.DefD := [d_is_integer, d_has_signs, d_is_input, d_need_count, d_need_input, d_strings, d_inputs, d_need_position, d_is_told, d_counts_of, d_wrong_looks, d_open_by, d_need_open, d_open_inputs, d_only_answer, d_told_answer, d_more, d_split_positions, d_looks_from, d_behind, d_lie_looks, d_next_looks, d_hard_bit, d_is_table, d_w_bag, d_w_draw, d_w_mixed, d_w_strings, d_w_inputs, d_w_patterns, d_w_put, d_w_open_spots, d_w_rule, d_w_table, d_w_worths, d_w_settling, d_w_needs, d_w_is_whole, d_w_open, d_w_only, d_w_first_game, d_w_second_game, d_law, d_q_init, d_q_call]
def fa : List He.Fa := [.glo "is_integer", .glo "has_signs", .glo "is_input", .glo "need_count", .glo "need_input", .glo "strings", .glo "inputs", .glo "need_position", .glo "is_told", .glo "counts_of", .glo "wrong_looks", .glo "open_by", .glo "need_open", .glo "open_inputs", .glo "only_answer", .glo "told_answer", .glo "more", .glo "split_positions", .glo "looks_from", .glo "behind", .glo "lie_looks", .glo "next_looks", .glo "hard_bit", .glo "is_table", .glo "_law_bag", .glo "_law_draw", .glo "_law_mixed", .glo "_law_strings", .glo "_law_inputs", .glo "_law_patterns", .glo "_law_put", .glo "_law_open_spots", .glo "_law_rule", .glo "_law_table", .glo "_law_worths", .glo "_law_settling", .glo "_law_needs", .glo "_law_is_whole", .glo "_law_open", .glo "_law_only", .glo "_law_first_game", .glo "_law_second_game", .glo "law", .glo "Question", .glo "SIZES", .free "isinstance", .free "int", .free "bool", .free "str", .free "len", .free "all", .free "range", .free "tuple", .free "list", .free "zip", .free "sum", .free "min", .free "max", .free "abs", .free "dict", .int "MOST" 6, .str "BITS" "01", .int "MOST_WIDE" 3, .int "MOST_LIES" 2, .cls "Question", .mkr "Question", .noat "Question" "kept_table", .noat "Question" "kept_many", .noat "Question" "answer_of", .noat "Question" "yes"]
/-! ### the part of the heap -/
def valsOf (g : Addr → Option Obj) (a : Addr) : List Addr := match g a with
  | some o => He.refsD o
  | none => []
def glG (g : Addr → Option Obj) (x : Str) : Addr := He.ga (He.frG g [mainGlobals]) x
def lv (g : Addr → Option Obj) (as : List Addr) : List Addr := as.flatMap (valsOf g)
def lvQ1 (g : Addr → Option Obj) : List Addr := valsOf g mainGlobals
def lvC1 (g : Addr → Option Obj) : List Addr := valsOf g (glG g "Question")
def asQ (g : Addr → Option Obj) : List Addr := mainGlobals :: (lvQ1 g ++ (lv g (lvQ1 g) ++ (lv g (valsOf g (glG g "lie_looks")) ++ (lv g (valsOf g (glG g "next_looks")) ++ (lv g (lvC1 g) ++ (lv g (lv g (lvC1 g)) ++ lv g (lv g (lv g (lvC1 g)))))))))
def frQ (g : Addr → Option Obj) : PySem.W.Frag := He.frG g (asQ g)
/-- the getter of the property many -/
def pAt (K : PySem.W.Frag) : Addr := He.ma K (He.ga K "Question") "many"
def gAt (K : PySem.W.Frag) : Addr := match PySem.W.recIn K (pAt K) "property" with
  | some (.ref g :: _) => g
  | _ => 0
def fnAt (K : PySem.W.Frag) (a : Addr) : He.FnW := match K.lookup a with
  | some ⟨_, _, .func fd, _⟩ => some (fd.name, fd.qualname, fd.params, fd.body, fd.scope, fd.globals, fd.closure, fd.builtins)
  | _ => none
def plainFn (K : PySem.W.Frag) (a : Addr) (q : Str) : Bool := PySem.W.keepIn K (.ref a) && (match K.lookup a with
  | some ⟨_, _, .func fd, _⟩ => PySem.W.codeIn K fd.code q && (He.dflB K fd.defaults [] && He.kwdB K fd.kwdefaults [])
  | _ => false)
def noTup (K : PySem.W.Frag) (a : Addr) : Bool := match K.lookup a with
  | some ⟨.type c, _, .seq its _, _⟩ => decide (c = "tuple") && its.isEmpty
  | _ => false
def sizesB (K : PySem.W.Frag) : Bool := He.tupB K "SIZES" [.int 1, .int 2, .int 4, .int 8, .int 16, .int 32, .int 64] && (match K.lookup (He.ga K "SIZES") with
  | some ⟨.type c, none, _, _⟩ => decide (c = "tuple")
  | _ => false)
def exB (K : PySem.W.Frag) : Bool :=
  sizesB K && (noTup K (He.dflAt ("lie_looks", none) 0 K) && (plainFn K (gAt K) "Question.many" &&
  (He.eqO (PySem.W.findIn K (.ref (He.ga K "Question")) "many") (some (some (.ref (pAt K)))) && (He.eqO (PySem.W.specialIn K (.ref (pAt K)) "__get__") (some (some (.builtin "property.__get__"))) &&
  (decide (PySem.W.takesIn K (.ref (pAt K)) = some true) && ((match PySem.W.recIn K (pAt K) "property" with | some (.ref _ :: _) => true | _ => false) &&
  (He.eqO (PySem.W.findIn K (.ref (He.ga K "Question")) "__call__") (some (some (.ref (He.ma K (He.ga K "Question") "__call__")))) && (PySem.W.isFn K (.ref (He.ma K (He.ga K "Question") "__call__")) && PySem.W.fnIn K (He.ma K (He.ga K "Question") "__call__")))))))))
abbrev AlQ : Type := (He.AlD × He.FnW) × Bool
def obsQ (K : PySem.W.Frag) : AlQ := ((He.obsD fa fn K, fnAt K (gAt K)), exB K)
def valQ : AlQ := ((He.valD fn, some ("many", "Question.many", defArgs s_q_many, .stmts (defBody s_q_many), defScope s_q_many, mainGlobals, [], builtinsNs)), true)
end LL

/-! Leastlooks: the head's run. -/
namespace LL
open PySem PySem.Spec PyProof.Rows L2
abbrev R : PySem.W.OpenRow := PySem.W.OpenLaw.row PySem.Challenge.rw_leastlooks_k69_whole_games_with_lies
def hookQ : PySem.W.Hook where
  α := AlQ
  obs := fun s => obsQ (frQ s.heap.get?)
  val := fun _ => valQ
  says := fun _ h => ∃ K : PySem.W.Frag, K.In h ∧ obsQ K = valQ
  of := fun _ _ e => ⟨_, He.frG_in, e⟩
  keeps := fun _ _ _ ⟨K, hK, c⟩ k => ⟨K, PySem.W.Frag.In.keeps hK k, c⟩
def ob (s : PySem.W.SharedT) : AlQ := obsQ (frQ (HandSHeadRun.getT s))
theorem ob_eq (s : PySem.W.SharedT) : ob s = hookQ.obs s.abs := by
  have e : HandSHeadRun.getT s = s.abs.heap.get? := funext (HandSHeadRun.getT_eq s)
  show obsQ (frQ (HandSHeadRun.getT s)) = obsQ (frQ s.abs.heap.get?)
  rw [e]
theorem run (w : World) : HandSHeadRun.RunEq R (PySem.W.view R.prog [63]) hookQ ob 6000 (loose1 ++ loose2) w := by
  intro os
  kernel_rfl
end LL

/-! Leastlooks: the facts by names, the law. -/
namespace LL
open PySem PySem.Spec PyProof.Rows L2
theorem noTup_ok {K : PySem.W.Frag} {a : Addr} (h : noTup K a = true) : NoTup K a := by
  unfold noTup at h
  cases q : K.lookup a with
  | none => rw [q] at h; cases h
  | some o =>
    obtain ⟨oc, od, dt, osl⟩ := o
    rw [q] at h
    cases oc with
    | type c =>
      cases dt with
      | seq its n =>
        obtain ⟨h1, h2⟩ := He.ba (show (decide (c = "tuple") && its.isEmpty) = true from h)
        have h3 : its = #[] := Array.isEmpty_iff.mp h2
        subst h3
        exact ⟨_, _, n, q, congrArg Value.type (of_decide_eq_true h1), rfl, Nat.zero_le _, .nil⟩
      | _ => cases h
    | _ => cases dt <;> cases h
theorem sizes_ok {K : PySem.W.Frag} (h : sizesB K = true) : (∀ H, SqT K H (He.ga K "SIZES") [.int 1, .int 2, .int 4, .int 8, .int 16, .int 32, .int 64]) ∧ ∃ o, K.lookup (He.ga K "SIZES") = some o ∧ o.cls = .type "tuple" ∧ o.dict = none := by
  obtain ⟨h1, h2⟩ := He.ba h
  refine ⟨fun H => He.tupB_ok h1 H, ?_⟩
  cases q : K.lookup (He.ga K "SIZES") with
  | none => rw [q] at h2; cases h2
  | some o =>
    obtain ⟨oc, od, dt, osl⟩ := o
    rw [q] at h2
    cases oc with
    | type c =>
      cases od with
      | none => exact ⟨_, rfl, congrArg Value.type (of_decide_eq_true (show decide (c = "tuple") = true from h2)), rfl⟩
      | some _ => cases h2
    | _ => cases od <;> cases h2
theorem plain_ok {K : PySem.W.Frag} {a : Addr} {name qual : Str} {params : Arguments} {body : List Stmt} {scope : Scope} (e : fnAt K a = (some (name, qual, params, FuncBody.stmts body, scope, mainGlobals, [], builtinsNs) : He.FnW)) (c : plainFn K a qual = true) : ∃ fd, FunD K name qual params body scope [] [] a fd := by
  obtain ⟨kp, c2⟩ := He.ba c
  unfold fnAt at e
  cases q : K.lookup a with
  | none => rw [q] at c2; cases c2
  | some o =>
    obtain ⟨oc, od, dt, osl⟩ := o
    rw [q] at c2 e
    cases dt with
    | func fd =>
      obtain ⟨n1, n2, n3, n4, n5, n6, n7, n8, n9, n10, n11, n12, n13, n14, n15⟩ := fd
      have e2 : (some (n1, n2, n3, n4, n5, n6, n7, n15) : He.FnW) = some (name, qual, params, .stmts body, scope, mainGlobals, [], builtinsNs) := e
      simp only [Option.some.injEq, Prod.mk.injEq] at e2
      obtain ⟨h1, h2, h3, h4, h5, h6, h7, h8⟩ := e2
      subst h1 h2 h3 h4 h5 h6 h7 h8
      have c3 : (PySem.W.codeIn K n13 n2 && (He.dflB K n8 [] && He.kwdB K n9 [])) = true := c2
      obtain ⟨k1, k2⟩ := He.ba c3
      obtain ⟨k3, k4⟩ := He.ba k2
      exact ⟨_, ⟨oc, od, n8, n9, n10, n11, n12, n13, n14, osl, rfl, q, k1, He.dflB_ok k3, He.kwdB_ok k4⟩, kp⟩
    | _ => cases c2
theorem facts {P : Program} {w : World} {K : PySem.W.Frag} {h : Heap} {mg : Str → Option Value} {f : Addr} (X : K.In h) (N : h.Ns mainGlobals mg) (hfa : mg ("law" : Str) = some (.ref f)) (c0 : obsQ K = valQ) :
    ∃ fd : FuncData, (∀ (s : Shared) (v : Value), BindsTo s fd ⟨[v], []⟩ [("_law_script", v)]) ∧ ∀ base : Heap, K.In base → base.Ns mainGlobals mg → FnOk P w K mg base CX0 60 f fd ["_law_script"] (sp_law K) := by
  have c : He.SaysD fa fn K := congrArg (fun z : AlQ => z.1.1) c0
  have cg : fnAt K (gAt K) = (some ((("many" : Str), ("Question.many" : Str), defArgs s_q_many, FuncBody.stmts (defBody s_q_many), defScope s_q_many, mainGlobals, [], builtinsNs)) : He.FnW) := congrArg (fun z : AlQ => z.1.2) c0
  have ce : exB K = true := congrArg (fun z : AlQ => z.2) c0
  obtain ⟨x1, ce⟩ := He.ba ce
  obtain ⟨x2, ce⟩ := He.ba ce
  obtain ⟨x3, ce⟩ := He.ba ce
  obtain ⟨x4, ce⟩ := He.ba ce
  obtain ⟨x5, ce⟩ := He.ba ce
  obtain ⟨x6, ce⟩ := He.ba ce
  obtain ⟨x7, ce⟩ := He.ba ce
  obtain ⟨x8, ce⟩ := He.ba ce
  obtain ⟨x9, x10⟩ := He.ba ce
  obtain ⟨sz1, sz2⟩ := sizes_ok x1
  have G : Gs K mg := ⟨He.free_ok X N (c.fact 45 (f := .free "isinstance") rfl), He.free_ok X N (c.fact 46 (f := .free "int") rfl), He.free_ok X N (c.fact 47 (f := .free "bool") rfl), He.free_ok X N (c.fact 48 (f := .free "str") rfl), He.free_ok X N (c.fact 49 (f := .free "len") rfl), He.free_ok X N (c.fact 50 (f := .free "all") rfl), He.free_ok X N (c.fact 51 (f := .free "range") rfl), He.free_ok X N (c.fact 52 (f := .free "tuple") rfl), He.free_ok X N (c.fact 53 (f := .free "list") rfl), He.free_ok X N (c.fact 54 (f := .free "zip") rfl), He.free_ok X N (c.fact 55 (f := .free "sum") rfl), He.free_ok X N (c.fact 56 (f := .free "min") rfl), He.free_ok X N (c.fact 57 (f := .free "max") rfl), He.free_ok X N (c.fact 58 (f := .free "abs") rfl), He.free_ok X N (c.fact 59 (f := .free "dict") rfl), He.int_ok X N (c.fact 60 (f := .int "MOST" 6) rfl), He.str_ok X N (c.fact 61 (f := .str "BITS" "01") rfl), He.int_ok X N (c.fact 62 (f := .int "MOST_WIDE" 3) rfl), He.int_ok X N (c.fact 63 (f := .int "MOST_LIES" 2) rfl), ⟨_, He.glo_ok X N (c.fact 44 (f := .glo "SIZES") rfl), sz1, sz2⟩⟩
  have q0 : QC K (He.ga K "Question") := ⟨He.cls_ok (c.fact 64 (f := .cls "Question") rfl), He.noat_ok (c.fact 66 (f := .noat "Question" "kept_table") rfl), He.noat_ok (c.fact 67 (f := .noat "Question" "kept_many") rfl), He.noat_ok (c.fact 68 (f := .noat "Question" "answer_of") rfl), He.noat_ok (c.fact 69 (f := .noat "Question" "yes") rfl)⟩
  have D_is_integer : DfM K mg "is_integer" s_is_integer := ⟨_, He.glo_ok X N (c.fact 0 (f := .glo "is_integer") rfl), c.def_ 0 (d := d_is_integer) rfl⟩
  have D_has_signs : DfM K mg "has_signs" s_has_signs := ⟨_, He.glo_ok X N (c.fact 1 (f := .glo "has_signs") rfl), c.def_ 1 (d := d_has_signs) rfl⟩
  have D_is_input : DfM K mg "is_input" s_is_input := ⟨_, He.glo_ok X N (c.fact 2 (f := .glo "is_input") rfl), c.def_ 2 (d := d_is_input) rfl⟩
  have D_need_count : DfM K mg "need_count" s_need_count := ⟨_, He.glo_ok X N (c.fact 3 (f := .glo "need_count") rfl), c.def_ 3 (d := d_need_count) rfl⟩
  have D_need_input : DfM K mg "need_input" s_need_input := ⟨_, He.glo_ok X N (c.fact 4 (f := .glo "need_input") rfl), c.def_ 4 (d := d_need_input) rfl⟩
  have D_strings : DfM K mg "strings" s_strings := ⟨_, He.glo_ok X N (c.fact 5 (f := .glo "strings") rfl), c.def_ 5 (d := d_strings) rfl⟩
  have D_inputs : DfM K mg "inputs" s_inputs := ⟨_, He.glo_ok X N (c.fact 6 (f := .glo "inputs") rfl), c.def_ 6 (d := d_inputs) rfl⟩
  have D_need_position : DfM K mg "need_position" s_need_position := ⟨_, He.glo_ok X N (c.fact 7 (f := .glo "need_position") rfl), c.def_ 7 (d := d_need_position) rfl⟩
  have D_is_told : DfM K mg "is_told" s_is_told := ⟨_, He.glo_ok X N (c.fact 8 (f := .glo "is_told") rfl), c.def_ 8 (d := d_is_told) rfl⟩
  have D_counts_of : DfM K mg "counts_of" s_counts_of := ⟨_, He.glo_ok X N (c.fact 9 (f := .glo "counts_of") rfl), c.def_ 9 (d := d_counts_of) rfl⟩
  have D_wrong_looks : DfM K mg "wrong_looks" s_wrong_looks := ⟨_, He.glo_ok X N (c.fact 10 (f := .glo "wrong_looks") rfl), c.def_ 10 (d := d_wrong_looks) rfl⟩
  have D_open_by : DfM K mg "open_by" s_open_by := ⟨_, He.glo_ok X N (c.fact 11 (f := .glo "open_by") rfl), c.def_ 11 (d := d_open_by) rfl⟩
  have D_need_open : DfM K mg "need_open" s_need_open := ⟨_, He.glo_ok X N (c.fact 12 (f := .glo "need_open") rfl), c.def_ 12 (d := d_need_open) rfl⟩
  have D_open_inputs : DfM K mg "open_inputs" s_open_inputs := ⟨_, He.glo_ok X N (c.fact 13 (f := .glo "open_inputs") rfl), c.def_ 13 (d := d_open_inputs) rfl⟩
  have D_only_answer : DfM K mg "only_answer" s_only_answer := ⟨_, He.glo_ok X N (c.fact 14 (f := .glo "only_answer") rfl), c.def_ 14 (d := d_only_answer) rfl⟩
  have D_told_answer : DfM K mg "told_answer" s_told_answer := ⟨_, He.glo_ok X N (c.fact 15 (f := .glo "told_answer") rfl), c.def_ 15 (d := d_told_answer) rfl⟩
  have D_more : DfM K mg "more" s_more := ⟨_, He.glo_ok X N (c.fact 16 (f := .glo "more") rfl), c.def_ 16 (d := d_more) rfl⟩
  have D_split_positions : DfM K mg "split_positions" s_split_positions := ⟨_, He.glo_ok X N (c.fact 17 (f := .glo "split_positions") rfl), c.def_ 17 (d := d_split_positions) rfl⟩
  have D_looks_from : DfM K mg "looks_from" s_looks_from := ⟨_, He.glo_ok X N (c.fact 18 (f := .glo "looks_from") rfl), c.def_ 18 (d := d_looks_from) rfl⟩
  have D_behind : DfM K mg "behind" s_behind := ⟨_, He.glo_ok X N (c.fact 19 (f := .glo "behind") rfl), c.def_ 19 (d := d_behind) rfl⟩
  have D_hard_bit : DfM K mg "hard_bit" s_hard_bit := ⟨_, He.glo_ok X N (c.fact 22 (f := .glo "hard_bit") rfl), c.def_ 22 (d := d_hard_bit) rfl⟩
  have D_is_table : DfM K mg "is_table" s_is_table := ⟨_, He.glo_ok X N (c.fact 23 (f := .glo "is_table") rfl), c.def_ 23 (d := d_is_table) rfl⟩
  have D_w_bag : DfM K mg "_law_bag" s_w_bag := ⟨_, He.glo_ok X N (c.fact 24 (f := .glo "_law_bag") rfl), c.def_ 24 (d := d_w_bag) rfl⟩
  have D_w_draw : DfM K mg "_law_draw" s_w_draw := ⟨_, He.glo_ok X N (c.fact 25 (f := .glo "_law_draw") rfl), c.def_ 25 (d := d_w_draw) rfl⟩
  have D_w_mixed : DfM K mg "_law_mixed" s_w_mixed := ⟨_, He.glo_ok X N (c.fact 26 (f := .glo "_law_mixed") rfl), c.def_ 26 (d := d_w_mixed) rfl⟩
  have D_w_strings : DfM K mg "_law_strings" s_w_strings := ⟨_, He.glo_ok X N (c.fact 27 (f := .glo "_law_strings") rfl), c.def_ 27 (d := d_w_strings) rfl⟩
  have D_w_inputs : DfM K mg "_law_inputs" s_w_inputs := ⟨_, He.glo_ok X N (c.fact 28 (f := .glo "_law_inputs") rfl), c.def_ 28 (d := d_w_inputs) rfl⟩
  have D_w_patterns : DfM K mg "_law_patterns" s_w_patterns := ⟨_, He.glo_ok X N (c.fact 29 (f := .glo "_law_patterns") rfl), c.def_ 29 (d := d_w_patterns) rfl⟩
  have D_w_put : DfM K mg "_law_put" s_w_put := ⟨_, He.glo_ok X N (c.fact 30 (f := .glo "_law_put") rfl), c.def_ 30 (d := d_w_put) rfl⟩
  have D_w_open_spots : DfM K mg "_law_open_spots" s_w_open_spots := ⟨_, He.glo_ok X N (c.fact 31 (f := .glo "_law_open_spots") rfl), c.def_ 31 (d := d_w_open_spots) rfl⟩
  have D_w_rule : DfM K mg "_law_rule" s_w_rule := ⟨_, He.glo_ok X N (c.fact 32 (f := .glo "_law_rule") rfl), c.def_ 32 (d := d_w_rule) rfl⟩
  have D_w_table : DfM K mg "_law_table" s_w_table := ⟨_, He.glo_ok X N (c.fact 33 (f := .glo "_law_table") rfl), c.def_ 33 (d := d_w_table) rfl⟩
  have D_w_worths : DfM K mg "_law_worths" s_w_worths := ⟨_, He.glo_ok X N (c.fact 34 (f := .glo "_law_worths") rfl), c.def_ 34 (d := d_w_worths) rfl⟩
  have D_w_settling : DfM K mg "_law_settling" s_w_settling := ⟨_, He.glo_ok X N (c.fact 35 (f := .glo "_law_settling") rfl), c.def_ 35 (d := d_w_settling) rfl⟩
  have D_w_needs : DfM K mg "_law_needs" s_w_needs := ⟨_, He.glo_ok X N (c.fact 36 (f := .glo "_law_needs") rfl), c.def_ 36 (d := d_w_needs) rfl⟩
  have D_w_is_whole : DfM K mg "_law_is_whole" s_w_is_whole := ⟨_, He.glo_ok X N (c.fact 37 (f := .glo "_law_is_whole") rfl), c.def_ 37 (d := d_w_is_whole) rfl⟩
  have D_w_open : DfM K mg "_law_open" s_w_open := ⟨_, He.glo_ok X N (c.fact 38 (f := .glo "_law_open") rfl), c.def_ 38 (d := d_w_open) rfl⟩
  have D_w_only : DfM K mg "_law_only" s_w_only := ⟨_, He.glo_ok X N (c.fact 39 (f := .glo "_law_only") rfl), c.def_ 39 (d := d_w_only) rfl⟩
  have D_w_first_game : DfM K mg "_law_first_game" s_w_first_game := ⟨_, He.glo_ok X N (c.fact 40 (f := .glo "_law_first_game") rfl), c.def_ 40 (d := d_w_first_game) rfl⟩
  have D_w_second_game : DfM K mg "_law_second_game" s_w_second_game := ⟨_, He.glo_ok X N (c.fact 41 (f := .glo "_law_second_game") rfl), c.def_ 41 (d := d_w_second_game) rfl⟩
  have D_lie_looks : ∃ f, mg "lie_looks" = some (.ref f) ∧ Df K mg "lie_looks" "lie_looks" s_lie_looks [.ref (He.dflAt ("lie_looks", none) 0 K)] f := ⟨_, He.glo_ok X N (c.fact 20 (f := .glo "lie_looks") rfl), c.def_ 20 (d := d_lie_looks) rfl⟩
  have D_next_looks : ∃ f, mg "next_looks" = some (.ref f) ∧ Df K mg "next_looks" "next_looks" s_next_looks [.ref (He.dflAt ("next_looks", none) 0 K)] f := ⟨_, He.glo_ok X N (c.fact 21 (f := .glo "next_looks") rfl), c.def_ 21 (d := d_next_looks) rfl⟩
  have D_init : ∃ g, mg "Question" = some (.ref (He.ga K "Question")) ∧ Mk K (He.ga K "Question") g ∧ Df K mg "__init__" "Question.__init__" s_q_init [] g := ⟨_, He.glo_ok X N (c.fact 43 (f := .glo "Question") rfl), He.mkr_ok (c.fact 65 (f := .mkr "Question") rfl), c.def_ 43 (d := d_q_init) rfl⟩
  have D_call : ∃ g, StX.CallO K (He.ga K "Question") g ∧ Df K mg "__call__" "Question.__call__" s_q_call [] g := ⟨_, ⟨He.eqO_ok x8, x9, x10⟩, c.def_ 44 (d := d_q_call) rfl⟩
  have x7' : ∃ rest, PySem.W.recIn K (pAt K) "property" = some (.ref (gAt K) :: rest) := by
    unfold gAt
    cases q : PySem.W.recIn K (pAt K) "property" with
    | none => rw [q] at x7; cases x7
    | some l =>
      cases l with
      | nil => rw [q] at x7; cases x7
      | cons v r =>
        cases v with
        | ref a => exact ⟨r, rfl⟩
        | _ => rw [q] at x7; cases x7
  have D_many : ∃ p g, PropOf K (He.ga K "Question") "many" p g ∧ Df K mg "many" "Question.many" s_q_many [] g := ⟨pAt K, gAt K, ⟨He.eqO_ok x4, He.eqO_ok x5, of_decide_eq_true x6, x7'⟩, plain_ok cg x3⟩
  have hNo := noTup_ok x2
  obtain ⟨fd, F⟩ := c.def_ 42 (d := d_law) rfl
  have e := hfa.symm.trans (He.glo_ok X N (c.fact 42 (f := .glo "law") rfl))
  cases e
  have b := FunD.bindsA (ps := ["_law_script"]) F fun _ _ _ _ _ _ us hl => match us, hl with | [_], _ => rfl
  refine ⟨fd, fun s v => b s [v] rfl, fun base _ _ => ?_⟩
  have k1 : Ct P w K mg base 1 "is_integer" sp_is_integer := ok_is_integer D_is_integer G
  have k2 : Ct P w K mg base 1 "has_signs" sp_has_signs := ok_has_signs D_has_signs G
  have k3 : Ct P w K mg base 2 "is_input" sp_is_input := ok_is_input D_is_input G k2
  have k4 : Ct P w K mg base 2 "need_count" sp_need_count := ok_need_count D_need_count G k1
  have k5 : Ct P w K mg base 3 "need_input" sp_need_input := ok_need_input D_need_input G k3
  have k6 : Ct P w K mg base 2 "need_position" sp_need_position := ok_need_position D_need_position G k1
  have k7 : Ct P w K mg base 1 "strings" sp_strings := ok_strings D_strings G
  have k8 : Ct P w K mg base 3 "inputs" sp_inputs := ok_inputs D_inputs G k4 (k7.up (by decide))
  have k9 : Ct P w K mg base 2 "is_told" (sp_is_told K) := ok_is_told D_is_told G k1
  have k10 : Ct P w K mg base 1 "counts_of" (sp_counts_of K) := ok_counts_of D_counts_of G
  have k11 : Ct P w K mg base 1 "wrong_looks" (sp_wrong_looks K) := ok_wrong_looks D_wrong_looks G
  have k12 : Ct P w K mg base 4 "open_by" (sp_open_by K) := ok_open_by D_open_by G k8 (k11.up (by decide))
  have k13 : Ct P w K mg base 5 "need_open" (sp_need_open K) := ok_need_open D_need_open G (k1.up (by decide)) (k9.up (by decide)) (k10.up (by decide)) k12
  have k14 : Ct P w K mg base 6 "open_inputs" (sp_open_inputs K) := ok_open_inputs D_open_inputs G (k12.up (by decide)) k13
  have kq : CtQ P w K mg base (He.ga K "Question") 4 (sp_q_call (He.ga K "Question")) := ok_q_call D_call q0 k5
  have km : CtM P w K mg base (He.ga K "Question") := ok_q_many D_many q0
  have k15 : Ct P w K mg base 5 "only_answer" (sp_only K (He.ga K "Question")) := ok_only D_only_answer G kq
  have k16 : Ct P w K mg base 7 "told_answer" (sp_told_answer K (He.ga K "Question")) := ok_told_answer D_told_answer q0 km (k15.up (by decide)) k14
  have k17 : Ct P w K mg base 1 "more" (sp_more K) := ok_more D_more G
  have k18 : Ct P w K mg base 1 "split_positions" (sp_split_positions K) := ok_split_positions D_split_positions G
  have kl := lf_all (P := P) (w := w) (base := base) D_looks_from D_behind G q0 km k17 k12 k15 k18 24
  have k19 := ok_lie D_lie_looks q0 km kl.1 k13
  have k20 : Ct P w K mg base 57 "next_looks" (sp_next K (He.ga K "Question")) := ok_next D_next_looks q0 km (kl.1.up (by decide)) k13 kl.2 k18 k12
  have k21 : Ct P w K mg base 56 "hard_bit" (sp_hard K (He.ga K "Question")) := ok_hard D_hard_bit G q0 km kl.1 k13 k6 k17 k12
  have k22 : Ct P w K mg base 1 "is_table" sp_is_table := ok_is_table D_is_table G
  have ki : CtI P w K mg base (He.ga K "Question") 4 (sp_q_init (He.ga K "Question")) := ok_q_init D_init G q0 (k22.up (by decide)) k8
  have w1 : Ct P w K mg base 1 "_law_bag" (sp_bag K) := ok_bag D_w_bag G
  have w2 : Ct P w K mg base 1 "_law_draw" (sp_draw K) := ok_draw D_w_draw G
  have w3 : Ct P w K mg base 1 "_law_strings" (sp_w_strings K) := ok_w_strings D_w_strings G
  have w4 : Ct P w K mg base 2 "_law_inputs" sp_w_inputs := ok_w_inputs D_w_inputs w3
  have w5 : Ct P w K mg base 2 "_law_patterns" sp_w_patterns := ok_w_patterns D_w_patterns w3
  have w6 : Ct P w K mg base 1 "_law_put" sp_w_put := ok_w_put D_w_put
  have w7 : Ct P w K mg base 1 "_law_open_spots" sp_w_spots := ok_w_spots D_w_open_spots G
  have w8 : Ct P w K mg base 2 "_law_mixed" (sp_w_mixed K) := ok_w_mixed D_w_mixed G w2
  have w9 : Ct P w K mg base 3 "_law_rule" (sp_w_rule K) := ok_w_rule D_w_rule G w8 (w2.up (by decide)) w4
  have w10 : Ct P w K mg base 4 "_law_table" (sp_w_table K) := ok_w_table D_w_table G w9 (w2.up (by decide)) (w4.up (by decide))
  have w11 : Ct P w K mg base 3 "_law_worths" sp_w_worths := ok_w_worths D_w_worths G w4
  have w12 : Ct P w K mg base 3 "_law_settling" sp_w_settling := ok_w_settling D_w_settling G w5 (w7.up (by decide)) (w6.up (by decide))
  have w13 : Ct P w K mg base 3 "_law_needs" sp_w_needs := ok_w_needs D_w_needs G w5 (w7.up (by decide)) (w6.up (by decide))
  have w14 : Ct P w K mg base 1 "_law_is_whole" sp_w_whole := ok_w_whole D_w_is_whole G
  have w15 : Ct P w K mg base 3 "_law_open" sp_w_open := ok_w_open D_w_open G w4
  have w16 : Ct P w K mg base 1 "_law_only" (sp_w_only K) := ok_w_only D_w_only G
  have w17 : Ct P w K mg base 58 "_law_first_game" (sp_game K (He.ga K "Question")) := ok_game1 D_w_first_game G w16 w15 k16 k20 w2 k19.1
  have w18 : Ct P w K mg base 58 "_law_second_game" (sp_game K (He.ga K "Question")) := ok_game2 D_w_second_game G w16 w15 k21 w2 k19.1
  exact ok_law F G hNo w1 w2 w10 w11 ki k19.2 w12 w13 w14 w17 w18
end LL

open PySem PySem.W PySem.Calls PyProof.Rows
theorem PySem.Challenge.cw_leastlooks_k69_whole_games_with_lies_holds : PySem.Challenge.rw_leastlooks_k69_whole_games_with_lies.Holds := by
  w_on; o_law
  refine HandSHeadRun.head_any (r := OpenLaw.row PySem.Challenge.rw_leastlooks_k69_whole_games_with_lies) (q := view (OpenLaw.row PySem.Challenge.rw_leastlooks_k69_whole_games_with_lies).prog [63]) (H := LL.hookQ) (ob := LL.ob) (M := 6000) (loose := LL.loose1 ++ LL.loose2) (d := HandSHeadRun.topDef (OpenLaw.row PySem.Challenge.rw_leastlooks_k69_whole_games_with_lies).prog 63) (kwd := []) LL.ob_eq
    (by kernel_rfl) (fun s => by kernel_rfl) LL.run (by kernel_rfl) (by kernel_rfl) (by kernel_rfl) (by rfl) (by first | assumption | decide +kernel) (by decide +kernel) ⟨rfl, rfl, rfl, rfl, rfl, by decide +kernel⟩ ?hw ?hc
  case hw => w_witness2
  case hc =>
    refine L2.walk_ofE (l := PySem.Challenge.rw_leastlooks_k69_whole_games_with_lies) (n := 63) (k := 60) (x := "_law_script") (CX := L2.CX0) rfl (by decide) (by kernel_rfl) ⟨rfl, by decide, by decide⟩ ?F (fun _ _ _ _ z => z)
    intro w mg fa h Y G hmg0
    obtain ⟨K, KX, c⟩ := Y
    have hmg : mg ("law" : PySem.Str) = some (.ref fa) := by
      have e : (HandSHeadRun.topDef (OpenLaw.row PySem.Challenge.rw_leastlooks_k69_whole_games_with_lies).prog 63).name = ("law" : PySem.Str) := by kernel_rfl
      rw [← e]
      exact hmg0
    obtain ⟨fd, hb, hF⟩ := LL.facts (P := (PySem.Challenge.rw_leastlooks_k69_whole_games_with_lies).prog) (w := w) KX G hmg c
    exact ⟨K, fd, LL.sp_law K, KX, hb, fun H a ns hl _ hS => ⟨a, ns, rfl, hS, hl, fun _ => rfl⟩, hF⟩
