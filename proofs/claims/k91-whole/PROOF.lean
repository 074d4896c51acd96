import PyProof.Rows.All
import Wide.All
import OpenK.AllK
import Wide.FinOn
import HandS.ForMost
import HandS.NoneIn
import HandS.Style
import HandS.Conv
import HandS.IsInst
import HandS.StrMore
import HandS.EndTab
import HandS.Nested
import HandS.Walk
import HandS.HeadHook2
import HandS.ClsMeth
import HandS.HeadHook4
import HandS.Head0
import HandS.Head1
import HandS.Head2
import HandS.HeadEnd
import HandS.HeadWalk
import HandS.Lambda
import HandS.OwnEq
import HandS.Deep
import HandS.Iter
import PySem.Challenge.RW_panethread_k91_whole_one_set_of_lines
set_option Elab.async false
set_option linter.all false
set_option maxRecDepth 100000
set_option maxHeartbeats 0
namespace PT
/-! ### places and lines, in plain Lean -/
def swapF (p : Nat) (f : Nat → Nat) : Nat → Nat := fun i => if i = p then f (p + 1) else if i = p + 1 then f p else f i
def stepF (p : Nat) (f : Nat → Nat) : Nat → Nat := if f p < f (p + 1) then swapF p f else f
theorem swap_at {p : Nat} {f : Nat → Nat} : swapF p f p = f (p + 1) := if_pos rfl
theorem swap_at1 {p : Nat} {f : Nat → Nat} : swapF p f (p + 1) = f p := (if_neg (by omega)).trans (if_pos rfl)
theorem swap_ne {p i : Nat} {f : Nat → Nat} (h : i ≠ p) (h' : i ≠ p + 1) : swapF p f i = f i := (if_neg h).trans (if_neg h')
theorem step_ne {p i : Nat} {f : Nat → Nat} (h : i ≠ p) (h' : i ≠ p + 1) : stepF p f i = f i := by
  unfold stepF
  split
  · exact swap_ne h h'
  · rfl
def runF : List Nat → (Nat → Nat) → (Nat → Nat)
  | [], f => f
  | p :: w, f => runF w (stepF p f)
theorem runF_app (v w : List Nat) : ∀ f, runF (v ++ w) f = runF w (runF v f) := by
  induction v with
  | nil => intro f; rfl
  | cons p v ih => intro f; exact ih _
theorem runF_snoc (v : List Nat) (p : Nat) (f : Nat → Nat) : runF (v ++ [p]) f = stepF p (runF v f) := by
  rw [runF_app]; rfl
/-- how many of the places ahead of e hold a line of b or behind it -/
def cnt (f : Nat → Nat) (b : Nat) : Nat → Nat
  | 0 => 0
  | e + 1 => cnt f b e + (if b ≤ f e then 1 else 0)
theorem cnt_congr {f g : Nat → Nat} {b e : Nat} (h : ∀ i, i < e → f i = g i) : cnt f b e = cnt g b e := by
  induction e with
  | zero => rfl
  | succ e ih =>
    show cnt f b e + _ = cnt g b e + _
    rw [ih (fun i hi => h i (by omega)), h e (by omega)]
theorem cnt_step_le {f : Nat → Nat} {p b e : Nat} (h : e ≤ p) : cnt (stepF p f) b e = cnt f b e := by
  exact cnt_congr fun i hi => step_ne (by omega) (by omega)
theorem cnt_step_at {f : Nat → Nat} {p b : Nat} : cnt (stepF p f) b (p + 1) = min (cnt f b p + 1) (cnt f b (p + 2)) := by
  show cnt (stepF p f) b p + (if b ≤ stepF p f p then 1 else 0) = min (cnt f b p + 1) (cnt f b p + (if b ≤ f p then 1 else 0) + (if b ≤ f (p + 1) then 1 else 0))
  rw [cnt_step_le (Nat.le_refl p)]
  have e : stepF p f p = if f p < f (p + 1) then f (p + 1) else f p := by
    unfold stepF swapF
    split
    · exact if_pos rfl
    · rfl
  rw [e]
  by_cases h1 : f p < f (p + 1) <;> by_cases h2 : b ≤ f p <;> by_cases h3 : b ≤ f (p + 1) <;> simp only [h1, h2, h3, if_true, if_false] <;> omega
theorem cnt_step_2 {f : Nat → Nat} {p b : Nat} : cnt (stepF p f) b (p + 2) = cnt f b (p + 2) := by
  show cnt (stepF p f) b p + (if b ≤ stepF p f p then 1 else 0) + (if b ≤ stepF p f (p + 1) then 1 else 0) = cnt f b p + (if b ≤ f p then 1 else 0) + (if b ≤ f (p + 1) then 1 else 0)
  rw [cnt_step_le (Nat.le_refl p)]
  unfold stepF
  split
  · rw [swap_at, swap_at1]; omega
  · rfl
theorem cnt_step_ge {f : Nat → Nat} {p b e : Nat} (h : p + 2 ≤ e) : cnt (stepF p f) b e = cnt f b e := by
  induction e with
  | zero => omega
  | succ e ih =>
    by_cases q : e + 1 = p + 2
    · rw [q]; exact cnt_step_2
    · show cnt (stepF p f) b e + _ = cnt f b e + _
      rw [ih (by omega)]
      rw [step_ne (by omega) (by omega)]
theorem cnt_step_ne {f : Nat → Nat} {p b e : Nat} (h : e ≠ p + 1) : cnt (stepF p f) b e = cnt f b e := by
  by_cases q : e ≤ p
  · exact cnt_step_le q
  · exact cnt_step_ge (by omega)
theorem cnt_mono {f : Nat → Nat} {b e k : Nat} : cnt f b k ≤ cnt f b (k + e) ∧ cnt f b (k + e) ≤ cnt f b k + e := by
  induction e with
  | zero => exact ⟨Nat.le_refl _, Nat.le_refl _⟩
  | succ e ih =>
    have : cnt f b (k + (e + 1)) = cnt f b (k + e) + (if b ≤ f (k + e) then 1 else 0) := rfl
    rw [this]
    split <;> omega
theorem cnt_id {b e : Nat} : cnt id b e = e - b := by
  induction e with
  | zero => show 0 = 0 - b; omega
  | succ e ih =>
    show cnt id b e + (if b ≤ id e then 1 else 0) = e + 1 - b
    rw [ih]
    show e - b + (if b ≤ e then 1 else 0) = e + 1 - b
    split <;> omega
/-- what w does to f, by what it does to the straight turning -/
theorem cnt_run {n : Nat} {f : Nat → Nat} : ∀ (v : List Nat), (∀ p ∈ v, p + 1 < n) → ∀ b e, e ≤ n →
    (∀ k, k ≤ n → cnt (runF v f) b e ≤ cnt f b k + cnt (runF v id) k e) ∧ ∃ k, k ≤ n ∧ cnt (runF v f) b e = cnt f b k + cnt (runF v id) k e := by
  intro v
  have key : ∀ (m : Nat) (v : List Nat), v.length = m → (∀ p ∈ v, p + 1 < n) → ∀ b e, e ≤ n →
    (∀ k, k ≤ n → cnt (runF v f) b e ≤ cnt f b k + cnt (runF v id) k e) ∧ ∃ k, k ≤ n ∧ cnt (runF v f) b e = cnt f b k + cnt (runF v id) k e := by
    intro m
    induction m with
    | zero =>
      intro v hv _ b e he
      have hv : v = [] := List.eq_nil_of_length_eq_zero hv
      subst hv
      refine ⟨fun k hk => ?_, e, he, ?_⟩
      · show cnt f b e ≤ cnt f b k + cnt id k e
        rw [cnt_id]
        by_cases q : e ≤ k
        · have := (cnt_mono (f := f) (b := b) (e := k - e) (k := e)).1
          rw [show e + (k - e) = k by omega] at this
          omega
        · have := (cnt_mono (f := f) (b := b) (e := e - k) (k := k)).2
          rw [show k + (e - k) = e by omega] at this
          omega
      · show cnt f b e = cnt f b e + cnt id e e
        rw [cnt_id]; omega
    | succ m ih =>
      intro v hv hp b e he
      obtain ⟨u, p, rfl⟩ : ∃ u p, v = u ++ [p] := by
        rcases List.eq_nil_or_concat v with h | ⟨u, p, h⟩
        · rw [h] at hv; simp at hv
        · exact ⟨u, p, by simpa using h⟩
      have hu : u.length = m := by simp at hv; exact hv
      have hp1 : p + 1 < n := hp p (by simp)
      have hpu : ∀ q ∈ u, q + 1 < n := fun q hq => hp q (by simp [hq])
      rw [runF_snoc, runF_snoc]
      by_cases q : e = p + 1
      · subst q
        rw [cnt_step_at]
        obtain ⟨a1, k1, hk1, a2⟩ := ih u hu hpu b p (by omega)
        obtain ⟨b1, k2, hk2, b2⟩ := ih u hu hpu b (p + 2) (by omega)
        refine ⟨fun k hk => ?_, ?_⟩
        · have h1 := a1 k hk
          have h2 := b1 k hk
          rw [cnt_step_at]; omega
        · by_cases z : cnt (runF u f) b p + 1 ≤ cnt (runF u f) b (p + 2)
          · refine ⟨k1, hk1, ?_⟩
            have h2 := b1 k1 hk1
            rw [cnt_step_at]; omega
          · refine ⟨k2, hk2, ?_⟩
            have h2 := a1 k2 hk2
            rw [cnt_step_at]; omega
      · rw [cnt_step_ne q]
        obtain ⟨a1, k1, hk1, a2⟩ := ih u hu hpu b e he
        refine ⟨fun k hk => ?_, k1, hk1, ?_⟩
        · rw [cnt_step_ne q]; exact a1 k hk
        · rw [cnt_step_ne q]; exact a2
  exact key v.length v rfl
theorem cnt_det {n : Nat} {f g : Nat → Nat} (h : ∀ b e, e ≤ n → cnt f b e = cnt g b e) : ∀ i, i < n → f i = g i := by
  intro i hi
  have key : ∀ b, (b ≤ f i ↔ b ≤ g i) := fun b => by
    have h1 := h b i (by omega)
    have h2 : cnt f b i + (if b ≤ f i then 1 else 0) = cnt g b i + (if b ≤ g i then 1 else 0) := h b (i + 1) (by omega)
    by_cases p : b ≤ f i <;> by_cases q : b ≤ g i
    · exact ⟨fun _ => q, fun _ => p⟩
    · rw [if_pos p, if_neg q] at h2; omega
    · rw [if_neg p, if_pos q] at h2; omega
    · exact ⟨fun z => absurd z p, fun z => absurd z q⟩
  have a := (key (f i)).1 (Nat.le_refl _)
  have b := (key (g i)).2 (Nat.le_refl _)
  omega
/-- steps that make the same of the straight turning make the same of each -/
theorem run_det {n : Nat} {v w : List Nat} (hv : ∀ p ∈ v, p + 1 < n) (hw : ∀ p ∈ w, p + 1 < n) (h : ∀ i, i < n → runF v id i = runF w id i) (f : Nat → Nat) : ∀ i, i < n → runF v f i = runF w f i := by
  refine cnt_det fun b e he => ?_
  have hc : ∀ k e, e ≤ n → cnt (runF v id) k e = cnt (runF w id) k e := fun k e he => cnt_congr fun i hi => h i (by omega)
  obtain ⟨a1, k1, hk1, a2⟩ := cnt_run (n := n) (f := f) v hv b e he
  obtain ⟨b1, k2, hk2, b2⟩ := cnt_run (n := n) (f := f) w hw b e he
  have h1 := a1 k2 hk2
  have h2 := b1 k1 hk1
  rw [hc _ _ he] at h1 a2
  omega
/-! ### bijections -/
structure Bij (k : Nat) (f g : Nat → Nat) : Prop where
  fl : ∀ i, i < k → f i < k
  gl : ∀ i, i < k → g i < k
  gf : ∀ i, i < k → g (f i) = i
  fg : ∀ i, i < k → f (g i) = i
theorem Bij.symm {k : Nat} {f g : Nat → Nat} (b : Bij k f g) : Bij k g f := ⟨b.gl, b.fl, b.fg, b.gf⟩
theorem Bij.id {k : Nat} : Bij k id id := ⟨fun _ h => h, fun _ h => h, fun _ _ => rfl, fun _ _ => rfl⟩
theorem Bij.inj {k : Nat} {f g : Nat → Nat} (b : Bij k f g) {i j : Nat} (hi : i < k) (hj : j < k) (e : f i = f j) : i = j := by
  rw [← b.gf i hi, ← b.gf j hj, e]
theorem Bij.congr {k : Nat} {f g f' g' : Nat → Nat} (b : Bij k f g) (hf : ∀ i, i < k → f i = f' i) (hg : ∀ i, i < k → g i = g' i) : Bij k f' g' :=
  ⟨fun i h => by rw [← hf i h]; exact b.fl i h, fun i h => by rw [← hg i h]; exact b.gl i h, fun i h => by rw [← hf i h, ← hg _ (b.fl i h)]; exact b.gf i h, fun i h => by rw [← hg i h, ← hf _ (b.gl i h)]; exact b.fg i h⟩
/-- where the line v ends -/
def invF (k : Nat) (f : Nat → Nat) : Nat → Nat := fun v => ((List.range k).find? (fun i => f i == v)).getD 0
theorem invF_eq {k : Nat} {f g : Nat → Nat} (b : Bij k f g) {v : Nat} (hv : v < k) : invF k f v = g v := by
  unfold invF
  cases e : (List.range k).find? (fun i => f i == v) with
  | none =>
    have h := List.find?_eq_none.mp e (g v) (List.mem_range.mpr (b.gl v hv))
    rw [b.fg v hv] at h
    simp at h
  | some i =>
    have h1 := List.find?_some e
    have h2 := List.mem_range.mp (List.mem_of_find?_eq_some e)
    have h1 : f i = v := by simpa using h1
    show i = g v
    rw [← h1, b.gf i h2]
theorem Bij.inv {k : Nat} {f g : Nat → Nat} (b : Bij k f g) : Bij k f (invF k f) := b.congr (fun _ _ => rfl) fun _ h => (invF_eq b h).symm
theorem invF_congr {k : Nat} {f f' g : Nat → Nat} (b : Bij k f g) (h : ∀ i, i < k → f i = f' i) {v : Nat} (hv : v < k) : invF k f v = invF k f' v := by
  rw [invF_eq b hv, invF_eq (b.congr h fun _ _ => rfl) hv]
theorem Bij.swap {k p : Nat} {f g : Nat → Nat} (b : Bij k f g) (hp : p + 1 < k) : ∃ g', Bij k (swapF p f) g' := by
  refine ⟨fun v => if v = f p then p + 1 else if v = f (p + 1) then p else g v, fun i h => ?_, fun i h => ?_, fun i h => ?_, fun i h => ?_⟩
  · unfold swapF; split
    · exact b.fl _ hp
    · split
      · exact b.fl _ (by omega)
      · exact b.fl _ h
  · show (if i = f p then p + 1 else if i = f (p + 1) then p else g i) < k
    split
    · exact hp
    · split
      · omega
      · exact b.gl i h
  · show (if swapF p f i = f p then p + 1 else if swapF p f i = f (p + 1) then p else g (swapF p f i)) = i
    unfold swapF
    by_cases h1 : i = p
    · rw [if_pos h1]
      rw [if_neg (fun e => absurd (b.inj hp (by omega) e) (by omega)), if_pos rfl, h1]
    · rw [if_neg h1]
      by_cases h2 : i = p + 1
      · rw [if_pos h2, if_pos rfl, h2]
      · rw [if_neg h2, if_neg (fun e => h1 (b.inj h (by omega) e)), if_neg (fun e => h2 (b.inj h (by omega) e))]
        exact b.gf i h
  · show swapF p f (if i = f p then p + 1 else if i = f (p + 1) then p else g i) = i
    unfold swapF
    by_cases h1 : i = f p
    · rw [if_pos h1, if_neg (by omega), if_pos rfl, h1]
    · rw [if_neg h1]
      by_cases h2 : i = f (p + 1)
      · rw [if_pos h2, if_pos rfl, h2]
      · rw [if_neg h2]
        have h3 : g i ≠ p := fun e => h1 (by rw [← e, b.fg i h])
        have h4 : g i ≠ p + 1 := fun e => h2 (by rw [← e, b.fg i h])
        rw [if_neg h3, if_neg h4]
        exact b.fg i h
theorem Bij.step {k p : Nat} {f g : Nat → Nat} (b : Bij k f g) (hp : p + 1 < k) : ∃ g', Bij k (stepF p f) g' := by
  unfold stepF
  split
  · exact b.swap hp
  · exact ⟨g, b⟩
theorem Bij.run {k : Nat} : ∀ {w : List Nat} {f g : Nat → Nat}, Bij k f g → (∀ p ∈ w, p + 1 < k) → ∃ g', Bij k (runF w f) g'
  | [], f, g, b, _ => ⟨g, b⟩
  | p :: w, f, g, b, h => by
    obtain ⟨g1, b1⟩ := b.step (h p (by simp))
    show ∃ g', Bij k (runF w (stepF p f)) g'
    exact Bij.run (f := stepF p f) b1 fun q hq => h q (by simp [hq])
theorem bij_run {k : Nat} {w : List Nat} (h : ∀ p ∈ w, p + 1 < k) : Bij k (runF w id) (invF k (runF w id)) := by
  obtain ⟨g, b⟩ := Bij.run (Bij.id (k := k)) h
  exact b.inv
theorem swap_swap {p : Nat} {f : Nat → Nat} : swapF p (swapF p f) = f := by
  funext i
  unfold swapF
  by_cases h1 : i = p
  · rw [if_pos h1, if_neg (by omega), if_pos rfl, h1]
  · rw [if_neg h1]
    by_cases h2 : i = p + 1
    · rw [if_pos h2, if_pos rfl, h2]
    · rw [if_neg h2, if_neg h1, if_neg h2]
/-- a step back: where the two stood the other way -/
theorem step_back {p : Nat} {f : Nat → Nat} (h : f (p + 1) < f p) : stepF p (swapF p f) = f := by
  have h1 : swapF p f p = f (p + 1) := if_pos rfl
  have h2 : swapF p f (p + 1) = f p := by
    unfold swapF
    rw [if_neg (by omega), if_pos rfl]
  unfold stepF
  rw [h1, h2, if_pos h]
  exact swap_swap
/-- a bijection without a descent is straight -/
theorem straight_of {k : Nat} {f g : Nat → Nat} (b : Bij k f g) (h : ∀ i, i + 1 < k → f i ≤ f (i + 1)) : ∀ i, i < k → f i = i := by
  have lt : ∀ i, i + 1 < k → f i < f (i + 1) := fun i hi => by
    rcases Nat.lt_or_eq_of_le (h i hi) with z | z
    · exact z
    · exact absurd (b.inj (by omega) hi z) (by omega)
  have up : ∀ i, i < k → i ≤ f i := fun i => by
    induction i with
    | zero => intro _; exact Nat.zero_le _
    | succ i ih => intro hi; have := ih (by omega); have := lt i hi; omega
  have dn : ∀ d i, i + d + 1 = k → f i + d + 1 ≤ k := fun d => by
    induction d with
    | zero => intro i hi; have := b.fl i (by omega); omega
    | succ d ih =>
      intro i hi
      have h1 := ih (i + 1) (by omega)
      have h2 := lt i (by omega)
      omega
  intro i hi
  have h1 := up i hi
  have h2 := dn (k - i - 1) i (by omega)
  omega
/-! ### shifting, commuting -/
def sh (d : Nat) (f : Nat → Nat) : Nat → Nat := fun i => if i < d then i else d + f (i - d)
theorem sh_id (d : Nat) : sh d id = id := by
  funext i
  unfold sh
  split
  · rfl
  · show d + (i - d) = i; omega
theorem sh_step (d p : Nat) (f : Nat → Nat) : stepF (p + d) (sh d f) = sh d (stepF p f) := by
  have e1 : sh d f (p + d) = d + f p := by unfold sh; rw [if_neg (by omega), Nat.add_sub_cancel]
  have e2 : sh d f (p + d + 1) = d + f (p + 1) := by unfold sh; rw [if_neg (by omega), show p + d + 1 - d = p + 1 by omega]
  unfold stepF
  rw [e1, e2]
  by_cases h : f p < f (p + 1)
  · rw [if_pos h, if_pos (by omega)]
    funext i
    by_cases h2 : i = p + d
    · rw [h2, swap_at, e2]
      unfold sh
      rw [if_neg (by omega), Nat.add_sub_cancel, swap_at]
    · by_cases h3 : i = p + d + 1
      · rw [h3, swap_at1, e1]
        unfold sh
        rw [if_neg (by omega), show p + d + 1 - d = p + 1 by omega, swap_at1]
      · rw [swap_ne h2 h3]
        unfold sh
        by_cases h1 : i < d
        · rw [if_pos h1, if_pos h1]
        · rw [if_neg h1, if_neg h1, swap_ne (by omega) (by omega)]
  · rw [if_neg h, if_neg (by omega)]
theorem sh_run (d : Nat) : ∀ (w : List Nat) (f : Nat → Nat), runF (w.map (· + d)) (sh d f) = sh d (runF w f)
  | [], f => rfl
  | p :: w, f => by
    show runF (w.map (· + d)) (stepF (p + d) (sh d f)) = sh d (runF w (stepF p f))
    rw [sh_step]
    exact sh_run d w _
theorem sh_run_id (d : Nat) (w : List Nat) : runF (w.map (· + d)) id = sh d (runF w id) := by
  rw [← sh_run, sh_id]
theorem Bij.sh {k d : Nat} {f g : Nat → Nat} (b : Bij k f g) : Bij (d + k) (sh d f) (sh d g) := by
  have one : ∀ {f g : Nat → Nat}, Bij k f g → ∀ i, i < d + k → PT.sh d f i < d + k ∧ PT.sh d g (PT.sh d f i) = i := fun {f g} b i hi => by
    unfold PT.sh
    by_cases h : i < d
    · rw [if_pos h, if_pos h]; exact ⟨by omega, rfl⟩
    · rw [if_neg h]
      have h1 := b.fl (i - d) (by omega)
      have h2 := b.gf (i - d) (by omega)
      refine ⟨by omega, ?_⟩
      rw [if_neg (by omega), Nat.add_sub_cancel_left, h2]
      omega
  exact ⟨fun i h => (one b i h).1, fun i h => (one b.symm i h).1, fun i h => (one b i h).2, fun i h => (one b.symm i h).2⟩
/-- beyond its steps a run leaves all as it is -/
theorem run_out {n : Nat} : ∀ {w : List Nat} {f : Nat → Nat}, (∀ p ∈ w, p + 1 < n) → ∀ i, n ≤ i → runF w f i = f i
  | [], _, _, _, _ => rfl
  | p :: w, f, h, i, hi => by
    have hp := h p (by simp)
    show runF w (stepF p f) i = f i
    rw [run_out (fun q hq => h q (by simp [hq])) i hi]
    exact step_ne (by omega) (by omega)
/-- .. and ahead of its steps -/
theorem run_low {n : Nat} : ∀ {w : List Nat} {f : Nat → Nat}, (∀ p ∈ w, n ≤ p) → ∀ i, i < n → runF w f i = f i
  | [], _, _, _, _ => rfl
  | p :: w, f, h, i, hi => by
    have hp := h p (by simp)
    show runF w (stepF p f) i = f i
    rw [run_low (fun q hq => h q (by simp [hq])) i hi]
    exact step_ne (by omega) (by omega)
def ext (n : Nat) (g : Nat → Nat) : Nat → Nat := fun i => if i < n then g i else i
theorem Bij.ext {n k : Nat} {f g : Nat → Nat} (b : Bij n f g) (h : ∀ i, n ≤ i → f i = i) (hk : n ≤ k) : Bij k f (ext n g) := by
  refine ⟨fun i hi => ?_, fun i hi => ?_, fun i hi => ?_, fun i hi => ?_⟩
  · by_cases q : i < n
    · have := b.fl i q; omega
    · rw [h i (by omega)]; exact hi
  · unfold PT.ext
    split
    · rename_i q; have := b.gl i q; omega
    · exact hi
  · unfold PT.ext
    by_cases q : i < n
    · rw [if_pos (b.fl i q)]; exact b.gf i q
    · rw [h i (by omega), if_neg q]
  · unfold PT.ext
    by_cases q : i < n
    · rw [if_pos q]; exact b.fg i q
    · rw [if_neg q]; exact h i (by omega)
theorem step_comm {p q : Nat} {f : Nat → Nat} (h : p + 2 ≤ q) : stepF q (stepF p f) = stepF p (stepF q f) := by
  have a1 : stepF p f q = f q := step_ne (by omega) (by omega)
  have a2 : stepF p f (q + 1) = f (q + 1) := step_ne (by omega) (by omega)
  have b1 : stepF q f p = f p := step_ne (by omega) (by omega)
  have b2 : stepF q f (p + 1) = f (p + 1) := step_ne (by omega) (by omega)
  have c1 : stepF q (stepF p f) = if f q < f (q + 1) then swapF q (stepF p f) else stepF p f := by
    show (if stepF p f q < stepF p f (q + 1) then swapF q (stepF p f) else stepF p f) = _
    rw [a1, a2]
  have c2 : stepF p (stepF q f) = if f p < f (p + 1) then swapF p (stepF q f) else stepF q f := by
    show (if stepF q f p < stepF q f (p + 1) then swapF p (stepF q f) else stepF q f) = _
    rw [b1, b2]
  rw [c1, c2]
  unfold stepF
  by_cases h1 : f p < f (p + 1) <;> by_cases h2 : f q < f (q + 1)
  · simp only [if_pos h1, if_pos h2]
    funext i
    by_cases e1 : i = p
    · rw [e1, swap_ne (by omega) (by omega), swap_at, swap_at, swap_ne (by omega) (by omega)]
    · by_cases e2 : i = p + 1
      · rw [e2, swap_ne (by omega) (by omega), swap_at1, swap_at1, swap_ne (by omega) (by omega)]
      · by_cases e3 : i = q
        · rw [e3, swap_at, swap_ne (by omega) (by omega), swap_ne (by omega) (by omega), swap_at]
        · by_cases e4 : i = q + 1
          · rw [e4, swap_at1, swap_ne (by omega) (by omega), swap_ne (by omega) (by omega), swap_at1]
          · rw [swap_ne e3 e4, swap_ne e1 e2, swap_ne e1 e2, swap_ne e3 e4]
  · simp only [if_pos h1, if_neg h2]
  · simp only [if_neg h1, if_pos h2]
  · simp only [if_neg h1, if_neg h2]
theorem run_comm1 {q : Nat} : ∀ {w : List Nat} {f : Nat → Nat}, (∀ p ∈ w, p + 2 ≤ q) → runF w (stepF q f) = stepF q (runF w f)
  | [], _, _ => rfl
  | p :: w, f, h => by
    show runF w (stepF p (stepF q f)) = stepF q (runF w (stepF p f))
    rw [← step_comm (h p (by simp))]
    exact run_comm1 fun p hp => h p (by simp [hp])
theorem run_comm : ∀ {v w : List Nat} {f : Nat → Nat}, (∀ p ∈ w, ∀ q ∈ v, p + 2 ≤ q) → runF w (runF v f) = runF v (runF w f)
  | [], _, _, _ => rfl
  | q :: v, w, f, h => by
    show runF w (runF v (stepF q f)) = runF v (stepF q (runF w f))
    rw [run_comm (fun p hp z hz => h p hp z (by simp [hz])), run_comm1 fun p hp => h p hp q (by simp)]
theorem run_congr {n : Nat} : ∀ {w : List Nat} {f g : Nat → Nat}, (∀ p ∈ w, p + 1 < n) → (∀ i, i < n → f i = g i) → ∀ i, i < n → runF w f i = runF w g i
  | [], _, _, _, h => h
  | p :: w, f, g, hw, h => by
    have hp := hw p (by simp)
    refine run_congr (w := w) (f := stepF p f) (g := stepF p g) (fun q hq => hw q (by simp [hq])) fun i hi => ?_
    unfold stepF
    rw [h p (by omega), h (p + 1) hp]
    split
    · show (if i = p then f (p + 1) else if i = p + 1 then f p else f i) = (if i = p then g (p + 1) else if i = p + 1 then g p else g i)
      rw [h p (by omega), h (p + 1) hp, h i hi]
    · exact h i hi
theorem invF_ext {k : Nat} {f f' : Nat → Nat} (h : ∀ i, i < k → f i = f' i) (v : Nat) : invF k f v = invF k f' v := by
  have key : ∀ l : List Nat, (∀ i ∈ l, i < k) → l.find? (fun i => f i == v) = l.find? (fun i => f' i == v) := fun l => by
    induction l with
    | nil => intro _; rfl
    | cons a l ih =>
      intro hl
      rw [List.find?_cons, List.find?_cons, h a (hl a (by simp)), ih fun i hi => hl i (by simp [hi])]
  unfold invF
  rw [key _ fun i hi => List.mem_range.mp hi]
/-! ### words of a board: the steps at all cells of unlike signs -/
def rowW (base a : Nat) : List Nat → List Nat
  | [] => []
  | b :: t => if a = b then rowW (base + 1) a t else base :: rowW (base + 1) a t
def W : List Nat → List Nat → List Nat
  | [], _ => []
  | a :: s, t => rowW s.length a t ++ W s t
theorem rowW_app (a : Nat) : ∀ (t u : List Nat) (base : Nat), rowW base a (t ++ u) = rowW base a t ++ rowW (base + t.length) a u
  | [], u, base => rfl
  | b :: t, u, base => by
    show (if a = b then rowW (base + 1) a (t ++ u) else base :: rowW (base + 1) a (t ++ u)) = (if a = b then rowW (base + 1) a t else base :: rowW (base + 1) a t) ++ rowW (base + (t.length + 1)) a u
    rw [rowW_app a t u (base + 1), show base + 1 + t.length = base + (t.length + 1) by omega]
    split <;> rfl
theorem rowW_add (a d : Nat) : ∀ (t : List Nat) (base : Nat), rowW (base + d) a t = (rowW base a t).map (· + d)
  | [], base => rfl
  | b :: t, base => by
    show (if a = b then rowW (base + d + 1) a t else (base + d) :: rowW (base + d + 1) a t) = (if a = b then rowW (base + 1) a t else base :: rowW (base + 1) a t).map (· + d)
    rw [show base + d + 1 = base + 1 + d by omega, rowW_add a d t (base + 1)]
    split <;> rfl
theorem rowW_in (a : Nat) : ∀ (t : List Nat) (base : Nat), ∀ p ∈ rowW base a t, base ≤ p ∧ p < base + t.length
  | [], base, p, h => absurd h (by simp [rowW])
  | b :: t, base, p, h => by
    have h : p ∈ (if a = b then rowW (base + 1) a t else base :: rowW (base + 1) a t) := h
    show base ≤ p ∧ p < base + (t.length + 1)
    split at h
    · have := rowW_in a t (base + 1) p h; omega
    · rcases List.mem_cons.mp h with e | h
      · omega
      · have := rowW_in a t (base + 1) p h; omega
theorem W_in : ∀ (s t : List Nat), ∀ p ∈ W s t, p + 1 < s.length + t.length
  | [], t, p, h => absurd h (by simp [W])
  | a :: s, t, p, h => by
    show p + 1 < s.length + 1 + t.length
    rcases List.mem_append.mp h with h | h
    · have := rowW_in a t _ p h; omega
    · have := W_in s t p h; omega
theorem W_over (t : List Nat) (s2 : List Nat) : ∀ (s1 : List Nat), W (s1 ++ s2) t = (W s1 t).map (· + s2.length) ++ W s2 t
  | [] => rfl
  | a :: s1 => by
    show rowW (s1 ++ s2).length a t ++ W (s1 ++ s2) t = (rowW s1.length a t ++ W s1 t).map (· + s2.length) ++ W s2 t
    rw [W_over t s2 s1, List.length_append, rowW_add, List.map_append, List.append_assoc]
theorem W_beside (t1 t2 : List Nat) : ∀ (s : List Nat) (f : Nat → Nat), runF (W s (t1 ++ t2)) f = runF (W s t1 ++ (W s t2).map (· + t1.length)) f
  | [], f => rfl
  | a :: s, f => by
    show runF (rowW s.length a (t1 ++ t2) ++ W s (t1 ++ t2)) f = runF ((rowW s.length a t1 ++ W s t1) ++ (rowW s.length a t2 ++ W s t2).map (· + t1.length)) f
    rw [runF_app, W_beside t1 t2 s, rowW_app, rowW_add, List.map_append, runF_app, runF_app, runF_app, runF_app, runF_app]
    rw [run_comm (v := (rowW s.length a t2).map (· + t1.length)) (w := W s t1)]
    intro p hp q hq
    have h1 := W_in s t1 p hp
    obtain ⟨q', hq', rfl⟩ := List.mem_map.mp hq
    have h2 := rowW_in a t2 _ q' hq'
    show p + 2 ≤ q' + t1.length
    omega
/-- the lines of a board -/
def LN (s t : List Nat) : Nat → Nat := invF (s.length + t.length) (runF (W s t) id)
theorem bij_LN (s t : List Nat) : Bij (s.length + t.length) (runF (W s t) id) (LN s t) := bij_run (W_in s t)
theorem LN_eq {s t : List Nat} {g : Nat → Nat} {k : Nat} (hk : k = s.length + t.length) (b : Bij k (runF (W s t) id) g) : ∀ i, i < k → g i = LN s t i := fun i hi => by
  subst hk
  exact (invF_eq b hi).symm
/-- what laid tells: from the one's places and steps that make the other -/
def lay (k : Nat) (f : Nat → Nat) (w : List Nat) : Nat → Nat := invF k (runF w f)
theorem lay_det {k : Nat} {f : Nat → Nat} {v w : List Nat} (hv : ∀ p ∈ v, p + 1 < k) (hw : ∀ p ∈ w, p + 1 < k) (h : ∀ i, i < k → runF v id i = runF w id i) (i : Nat) : lay k f v i = lay k f w i :=
  invF_ext (run_det hv hw h f) i
/-! over -/
theorem over_first (s1 s2 t : List Nat) : Bij (s2.length + (s1.length + t.length)) (sh s2.length (runF (W s1 t) id)) (sh s2.length (LN s1 t)) := (bij_LN s1 t).sh
theorem over_second (s1 s2 t : List Nat) : Bij (s2.length + (s1.length + t.length)) (runF (W s2 t) id) (ext (s2.length + t.length) (LN s2 t)) :=
  (bij_LN s2 t).ext (fun i hi => run_out (W_in s2 t) i hi) (by omega)
theorem over_lay (s1 s2 t : List Nat) : ∀ i, lay (s2.length + (s1.length + t.length)) (sh s2.length (runF (W s1 t) id)) (W s2 t) i = LN (s1 ++ s2) t i := fun i => by
  unfold lay LN
  rw [W_over, runF_app, sh_run_id, List.length_append, show s2.length + (s1.length + t.length) = s1.length + s2.length + t.length by omega]
theorem beside_first (s t1 t2 : List Nat) : Bij (t1.length + (s.length + t2.length)) (runF (W s t1) id) (ext (s.length + t1.length) (LN s t1)) :=
  (bij_LN s t1).ext (fun i hi => run_out (W_in s t1) i hi) (by omega)
theorem beside_second (s t1 t2 : List Nat) : Bij (t1.length + (s.length + t2.length)) (runF ((W s t2).map (· + t1.length)) id) (sh t1.length (LN s t2)) := by
  rw [sh_run_id]
  exact (bij_LN s t2).sh
theorem beside_lay (s t1 t2 : List Nat) : ∀ i, lay (t1.length + (s.length + t2.length)) (runF (W s t1) id) ((W s t2).map (· + t1.length)) i = LN s (t1 ++ t2) i := fun i => by
  unfold lay LN
  rw [W_beside, runF_app, List.length_append, show t1.length + (s.length + t2.length) = s.length + (t1.length + t2.length) by omega]
/-- a board without cells -/
theorem W_nil_r : ∀ (s : List Nat), W s [] = []
  | [] => rfl
  | a :: s => by
    show rowW s.length a [] ++ W s [] = []
    rw [W_nil_r s]
    rfl
theorem LN_blank {s t : List Nat} (h : s = [] ∨ t = []) : ∀ i, i < s.length + t.length → LN s t i = i := fun i hi => by
  have e : W s t = [] := by
    rcases h with h | h
    · rw [h]; rfl
    · rw [h]; exact W_nil_r s
  unfold LN
  rw [e]
  exact invF_eq Bij.id hi
/-- a board of one cell -/
theorem LN_one (a b : Nat) : ∀ i, i < 2 → LN [a] [b] i = if a = b then i else 1 - i := fun i hi => by
  have e : W [a] [b] = if a = b then [] else [0] := by
    show rowW 0 a [b] ++ [] = _
    rw [List.append_nil]
    rfl
  show invF 2 (runF (W [a] [b]) id) i = _
  rw [e]
  by_cases h : a = b
  · rw [if_pos h, if_pos h]
    exact invF_eq Bij.id hi
  · rw [if_neg h, if_neg h]
    have hs : runF [0] id = swapF 0 id := by
      show stepF 0 id = swapF 0 id
      unfold stepF
      exact if_pos (by decide)
    rw [hs]
    refine (invF_eq (g := fun i => 1 - i) ?_ hi)
    have c : ∀ i, i < 2 → swapF 0 id i = 1 - i := fun i hi => by
      have : i = 0 ∨ i = 1 := by omega
      rcases this with rfl | rfl <;> rfl
    exact ⟨fun i h => by rw [c i h]; omega, fun i h => by show 1 - i < 2; omega, fun i h => by rw [c i h]; show 1 - (1 - i) = i; omega, fun i h => by show swapF 0 id (1 - i) = i; rw [c _ (by omega)]; omega⟩
/-! ### row by row, from the upper left -/
def rowsW (m : Nat) (s t : List Nat) : Nat → List Nat
  | 0 => []
  | r + 1 => rowsW m s t r ++ rowW (m - 1 - r) (s.getD r 0) t
theorem rowsW_cons (a : Nat) (s t : List Nat) (m : Nat) : ∀ r, rowsW (m + 1) (a :: s) t (r + 1) = rowW m a t ++ rowsW m s t r
  | 0 => by
    show [] ++ rowW (m + 1 - 1 - 0) a t = rowW m a t ++ []
    rw [List.append_nil, List.nil_append]
    rfl
  | r + 1 => by
    show rowsW (m + 1) (a :: s) t (r + 1) ++ rowW (m + 1 - 1 - (r + 1)) ((a :: s).getD (r + 1) 0) t = rowW m a t ++ (rowsW m s t r ++ rowW (m - 1 - r) (s.getD r 0) t)
    rw [rowsW_cons a s t m r, List.append_assoc, show m + 1 - 1 - (r + 1) = m - 1 - r by omega]
    rfl
theorem rowsW_all : ∀ (s t : List Nat), rowsW s.length s t s.length = W s t
  | [], t => rfl
  | a :: s, t => by
    show rowsW (s.length + 1) (a :: s) t (s.length + 1) = rowW s.length a t ++ W s t
    rw [rowsW_cons, rowsW_all s t]
theorem rowW_take (a base : Nat) (t : List Nat) {c : Nat} (h : c < t.length) : rowW base a (t.take (c + 1)) = rowW base a (t.take c) ++ (if a = t.getD c 0 then [] else [base + c]) := by
  rw [List.take_succ_eq_append_getElem h, rowW_app, List.length_take, Nat.min_eq_left (Nat.le_of_lt h)]
  have e : t.getD c 0 = t[c] := by simp [List.getD, List.getElem?_eq_getElem h]
  rw [e]
  show rowW base a (t.take c) ++ (if a = t[c] then [] else [base + c]) = _
  rfl
/-- the state at row r, ahead of column c -/
def EE (s t : List Nat) (r c : Nat) : Nat → Nat := runF (rowW (s.length - 1 - r) (s.getD r 0) (t.take c)) (runF (rowsW s.length s t r) id)
theorem EE_0 (s t : List Nat) (r : Nat) : EE s t r 0 = runF (rowsW s.length s t r) id := by
  unfold EE
  rw [List.take_zero]
  rfl
theorem EE_next (s t : List Nat) (r : Nat) : EE s t r t.length = runF (rowsW s.length s t (r + 1)) id := by
  unfold EE
  rw [List.take_length]
  show _ = runF (rowsW s.length s t r ++ rowW (s.length - 1 - r) (s.getD r 0) t) id
  rw [runF_app]
/-- do the lines cross in cell (r, c)? -/
def crs (s t : List Nat) (r c : Nat) : Bool := decide (s.getD r 0 ≠ t.getD c 0) && decide (EE s t r c (s.length - 1 - r + c) < EE s t r c (s.length - 1 - r + c + 1))
theorem EE_succ {s t : List Nat} {r c : Nat} (hc : c < t.length) : EE s t r (c + 1) = if crs s t r c = true then swapF (s.length - 1 - r + c) (EE s t r c) else EE s t r c := by
  have e1 : EE s t r (c + 1) = if s.getD r 0 = t.getD c 0 then EE s t r c else stepF (s.length - 1 - r + c) (EE s t r c) := by
    unfold EE
    rw [rowW_take _ _ _ hc, runF_app]
    split <;> rfl
  rw [e1]
  unfold crs
  by_cases h : s.getD r 0 = t.getD c 0
  · rw [if_pos h, decide_eq_false (fun z => z h), Bool.false_and, if_neg Bool.false_ne_true]
  · rw [if_neg h, decide_eq_true h, Bool.true_and]
    unfold stepF
    by_cases h2 : EE s t r c (s.length - 1 - r + c) < EE s t r c (s.length - 1 - r + c + 1)
    · rw [if_pos h2, decide_eq_true h2, if_pos rfl]
    · rw [if_neg h2, decide_eq_false h2, if_neg Bool.false_ne_true]
theorem rowsW_in (s t : List Nat) : ∀ r, r ≤ s.length → ∀ p ∈ rowsW s.length s t r, s.length - r ≤ p ∧ p + 1 < s.length + t.length
  | 0, _, p, h => absurd h (by simp [rowsW])
  | r + 1, hr, p, h => by
    rcases List.mem_append.mp h with h | h
    · have := rowsW_in s t r (by omega) p h; omega
    · have := rowW_in _ t _ p h; omega
theorem EE_bij {s t : List Nat} {r c : Nat} (hr : r < s.length) : ∃ g, Bij (s.length + t.length) (EE s t r c) g := by
  unfold EE
  rw [← runF_app]
  refine ⟨_, bij_run fun p hp => ?_⟩
  rcases List.mem_append.mp hp with h | h
  · exact (rowsW_in s t r (by omega) p h).2
  · have := rowW_in _ _ _ p h
    have h2 : (t.take c).length ≤ t.length := by rw [List.length_take]; omega
    omega
/-- the rows beneath have not begun yet -/
theorem EE_low {s t : List Nat} {r c i : Nat} (hr : r < s.length) (hi : i < s.length - 1 - r) : EE s t r c i = i := by
  unfold EE
  rw [← runF_app]
  refine run_low (n := s.length - 1 - r) (fun p hp => ?_) i hi
  rcases List.mem_append.mp hp with h | h
  · have := rowsW_in s t r (by omega) p h; omega
  · exact (rowW_in _ _ _ p h).1
theorem EE_first {s t : List Nat} {r : Nat} (hr : r < s.length) : EE s t r 0 (s.length - 1 - r) = s.length - 1 - r := by
  rw [EE_0]
  refine run_low (n := s.length - r) (fun p hp => (rowsW_in s t r (by omega) p hp).1) _ (by omega)
/-- what has left on the right stays -/
theorem EE_high {s t : List Nat} {r c i : Nat} (hr : r < s.length) (hi : s.length - r + t.length ≤ i) : EE s t r c i = runF (rowsW s.length s t r) id i := by
  unfold EE
  refine run_out (n := s.length - r + t.length) (fun p hp => ?_) i hi
  have := rowW_in _ _ _ p hp
  have h2 : (t.take c).length ≤ t.length := by rw [List.length_take]; omega
  omega
theorem runW (s t : List Nat) : runF (rowsW s.length s t s.length) id = runF (W s t) id := by rw [rowsW_all]
end PT
namespace PT
open PySem PySem.Spec PyProof.Rows L2
/-! ### what a piece of the text does, told of the very state -/
def RE (X : Cx) (e : Expr) : TE := fun σ H Q => ∀ pins s, Inv X pins σ H s → wpAny (model X.prog X.w) X.A (eval e X.env) (EP X pins σ Q) X.xe s
def RT (X : Cx) (e : Expr) : TT := fun σ H Q => ∀ pins s, Inv X pins σ H s → wpAny (model X.prog X.w) X.A (isTrue e X.env (eval e X.env)) (TP X pins σ Q) X.xe s
def RW (X : Cx) (e : Expr) : TT := fun σ H Q => ∀ wh pins s, Inv X pins σ H s → wpAny (model X.prog X.w) X.A (isTrue e X.env wh) (TP X pins σ Q) X.xe s
def RA (X : Cx) (es : List Expr) : TA := fun σ H Q => ∀ pos pins s, Inv X pins σ H s → wpAny (model X.prog X.w) X.A (spliced (backTo pos (starEach es X.env))) (AP X pins σ Q) X.xe s
def RS (X : Cx) (st : Stmt) : TS := fun D σ H => ∀ pins s, Inv X pins σ H s → wpAny (model X.prog X.w) X.A (exec st X.env) (SP X pins D) X.xe s
def RB (X : Cx) (st : List Stmt) : TS := fun D σ H => ∀ pins s, Inv X pins σ H s → wpAny (model X.prog X.w) X.A (execs st X.env) (SP X pins D) X.xe s
section
variable {X : Cx} {e : Expr} {es : List Expr} {st : Stmt} {b : List Stmt} {σ : L2.St} {H : Hp}
theorem pe_RE : PE X e (RE X e) := ⟨fun pins s σ H Q I h => h pins s I⟩
theorem pt_RT : PT X e (RT X e) := ⟨fun pins s σ H Q I h => h pins s I⟩
theorem pw_RW : PW X e (RW X e) := ⟨fun wh pins s σ H Q I h => h wh pins s I⟩
theorem pa_RA : PA X es (RA X es) := ⟨fun pos pins s σ H Q I h => h pos pins s I⟩
theorem ps_RS : PS X st (RS X st) := ⟨fun pins s σ H D I h => h pins s I⟩
theorem pss_RB : PSs X b (RB X b) := ⟨fun pins s σ H D I h => h pins s I⟩
theorem RE.of {t : TE} {Q : VK} (h : PE X e t) (q : t σ H Q) : RE X e σ H Q := fun pins s I => h.run pins s σ H Q I q
theorem RT.of {t : TT} {Q : Bool → Hp → Prop} (h : PT X e t) (q : t σ H Q) : RT X e σ H Q := fun pins s I => h.run pins s σ H Q I q
theorem RW.of {t : TT} {Q : Bool → Hp → Prop} (h : PW X e t) (q : t σ H Q) : RW X e σ H Q := fun wh pins s I => h.run wh pins s σ H Q I q
theorem RA.of {t : TA} {Q : List V → Hp → Prop} (h : PA X es t) (q : t σ H Q) : RA X es σ H Q := fun pos pins s I => h.run pos pins s σ H Q I q
theorem RS.of {t : TS} {D : Ends} (h : PS X st t) (q : t D σ H) : RS X st D σ H := fun pins s I => h.run pins s σ H D I q
theorem RB.of {t : TS} {D : Ends} (h : PSs X b t) (q : t D σ H) : RB X b D σ H := fun pins s I => h.run pins s σ H D I q
end
/-! ### heaps that grow -/
abbrev Ex (H H' : Hp) : Prop := ∀ a o, H a = some o → H' a = some o
/-- a way of growing: M tells what may change -/
class Rl (R : Hp → Hp → Prop) where
  M : HO → Prop
  rfl : ∀ H, R H H
  trans : ∀ {H H1 H2}, R H H1 → R H1 H2 → R H H2
  ex : ∀ {H H1}, Ex H H1 → R H H1
  keep : ∀ {H H1 a o}, R H H1 → H a = some o → ¬ M o → H1 a = some o
  back : ∀ {H H1 a}, R H H1 → H1 a = none → H a = none
  ml : ∀ xs, ¬ M (.lst xs)
  mt : ∀ xs, ¬ M (.tup xs)
theorem none_back {H H' : Hp} {p : Addr} (e : Ex H H') (h : H' p = none) : H p = none := by
  cases h1 : H p with
  | none => rfl
  | some o =>
    rw [e p o h1] at h
    cases h
abbrev NoM : HO → Prop := fun _ => False
instance rlEx : Rl Ex := ⟨NoM, fun _ _ _ h => h, fun a b c o h => b c o (a c o h), fun h => h, fun h e _ => h _ _ e, fun h e => none_back h e, fun _ h => h, fun _ h => h⟩
theorem Ex.rf (H : Hp) : Ex H H := fun _ _ h => h
theorem Ex.tr {H H1 H2 : Hp} (a : Ex H H1) (b : Ex H1 H2) : Ex H H2 := fun x o h => b x o (a x o h)
theorem Ex.nw {H : Hp} {p : Addr} {o : HO} (h : H p = none) : Ex H (upd H p o) := fun a u e => by
  rw [upd_ne (ne_of_none e h)]
  exact e
/-- an object that H does not know may change -/
theorem Ex.mu {H H' : Hp} {p : Addr} {o : HO} (e : Ex H H') (h : H p = none) : Ex H (upd H' p o) := fun a u ha => by
  rw [upd_ne (ne_of_none ha h)]
  exact e a u ha
/-- what holds however H grows -/
def Kp (R : Hp → Hp → Prop) (H : Hp) (P : Hp → Prop) : Prop := ∀ H1, R H H1 → P H1
section
variable {R : Hp → Hp → Prop} [Rl R] {H H1 : Hp} {P P' : Hp → Prop}
theorem Kp.now (k : Kp R H P) : P H := k H (Rl.rfl H)
theorem Kp.on (k : Kp R H P) (r : R H H1) : Kp R H1 P := fun H2 r2 => k H2 (Rl.trans r r2)
theorem Kp.imp (k : Kp R H P) (h : ∀ H1, R H H1 → P H1 → P' H1) : Kp R H P' := fun H1 r => h H1 r (k H1 r)
theorem Kp.two (k : Kp R H P) (k' : Kp R H P') : Kp R H fun H => P H ∧ P' H := fun H1 r => ⟨k H1 r, k' H1 r⟩
theorem kp_true {P : Prop} (h : P) : Kp R H fun _ => P := fun _ _ => h
theorem kp_lst {a : Addr} {xs : List V} (h : H a = some (.lst xs)) : Kp R H fun H => H a = some (.lst xs) := fun H1 r => Rl.keep r h (Rl.ml xs)
theorem kp_tup {a : Addr} {xs : List V} (h : H a = some (.tup xs)) : Kp R H fun H => H a = some (.tup xs) := fun H1 r => Rl.keep r h (Rl.mt xs)
theorem kp_ex {a : Addr} {o : HO} (h : H a = some o) : Kp Ex H fun H => H a = some o := fun H1 r => r a o h
end
/-! ### what evaluates to what, under all growing -/
/-- what is promised of a value: it is v | P holds of it | it is a new list -/
abbrev KV (R : Hp → Hp → Prop) (v : V) : Hp → VK → Prop := fun H1 Q => ∀ H2, R H1 H2 → Q v H2
abbrev KP (R : Hp → Hp → Prop) (P : V → Hp → Prop) : Hp → VK → Prop := fun H1 Q => ∀ v H2, R H1 H2 → Kp R H2 (P v) → Q v H2
abbrev KN (R : Hp → Hp → Prop) (xs : List V) : Hp → VK → Prop := fun H1 Q => ∀ p H2, H1 p = none → R H1 H2 → H2 p = some (.lst xs) → Q (.ref p) H2
class KM (R : Hp → Hp → Prop) (K : Hp → VK → Prop) : Prop where
  on : ∀ {H1 H2 Q}, R H1 H2 → K H1 Q → K H2 Q
section
variable {R : Hp → Hp → Prop} [Rl R]
instance kmV (v : V) : KM R (KV R v) := ⟨fun r k H2 r2 => k H2 (Rl.trans r r2)⟩
instance kmP (P : V → Hp → Prop) : KM R (KP R P) := ⟨fun r k v H2 r2 => k v H2 (Rl.trans r r2)⟩
instance kmN (xs : List V) : KM R (KN R xs) := ⟨fun r k p H2 h r2 => k p H2 (Rl.back r h) (Rl.trans r r2)⟩
end
section
variable (X : Cx) (R : Hp → Hp → Prop)
def EvG (e : Expr) (σ : L2.St) (H : Hp) (K : Hp → VK → Prop) : Prop := ∀ H1, R H H1 → ∀ Q : VK, K H1 Q → RE X e σ H1 Q
abbrev EvV (e : Expr) (σ : L2.St) (H : Hp) (v : V) : Prop := EvG X R e σ H (KV R v)
abbrev EvP (e : Expr) (σ : L2.St) (H : Hp) (P : V → Hp → Prop) : Prop := EvG X R e σ H (KP R P)
abbrev EvN (e : Expr) (σ : L2.St) (H : Hp) (xs : List V) : Prop := EvG X R e σ H (KN R xs)
def EvT (e : Expr) (σ : L2.St) (H : Hp) (b : Bool) : Prop := ∀ H1, R H H1 → ∀ Q : Bool → Hp → Prop, (∀ H2, R H1 H2 → Q b H2) → RT X e σ H1 Q
def EvW (e : Expr) (σ : L2.St) (H : Hp) (b : Bool) : Prop := ∀ H1, R H H1 → ∀ Q : Bool → Hp → Prop, (∀ H2, R H1 H2 → Q b H2) → RW X e σ H1 Q
/-- arguments: these values | of which P holds -/
def EvA (es : List Expr) (σ : L2.St) (H : Hp) (P : List V → Hp → Prop) : Prop := ∀ H1, R H H1 → ∀ Q : List V → Hp → Prop, (∀ vs H2, R H1 H2 → Kp R H2 (P vs) → Q vs H2) → RA X es σ H1 Q
def RO (X : Cx) (e : Option Expr) : TO := fun σ H Q => ∀ pins s, Inv X pins σ H s → wpAny (model X.prog X.w) X.A (evalPart e X.env) (fun u s' => ∃ o H', Inv X pins σ H' s' ∧ IsPart u o ∧ Q o H') X.xe s
def EvO (e : Option Expr) (σ : L2.St) (H : Hp) (o : Option Int) : Prop := ∀ H1, R H H1 → ∀ Q : Option Int → Hp → Prop, (∀ H2, R H1 H2 → Q o H2) → RO X e σ H1 Q
end
/-- p has the attribute f, its value v -/
def Fld (K : PySem.W.Frag) (p : Addr) (f : Str) (v : V) (H : Hp) : Prop := ∃ C dx fs, H p = some (.ins C dx fs) ∧ Cls K C ∧ NoAttr K C f ∧ fs.lookup f = some v
/-- p is an instance of C that has no attribute m of its own -/
def Ins (C p : Addr) (m : Str) (H : Hp) : Prop := ∃ dx fs, H p = some (.ins C dx fs) ∧ fs.lookup m = none
/-- a def of the text: its promise, how it binds -/
structure Ok (P : Program) (w : World) (K : PySem.W.Frag) (mg : Str → Option Value) (base : Heap) (k : Nat) (f : Addr) (ps : List Str) (sp : Sp) : Prop where
  ex : ∃ fd, FnOk P w K mg base CX0 k f fd ps sp ∧ Binds K fd ps []
  kp : PySem.W.keepIn K (.ref f) = true
theorem Ok.mono {P : Program} {w : World} {K : PySem.W.Frag} {mg : Str → Option Value} {base : Heap} {k j : Nat} {f : Addr} {ps : List Str} {sp : Sp} (o : Ok P w K mg base k f ps sp) (h : k ≤ j) : Ok P w K mg base j f ps sp :=
  let ⟨fd, a, b⟩ := o.ex
  ⟨⟨fd, a.mono h, b⟩, o.kp⟩
section
variable {X : Cx} {R : Hp → Hp → Prop} [Rl R] {σ : L2.St} {H H' : Hp} {a b c e : Expr} {es rest : List Expr} {x y z v : V} {pos apos : Pos} {P : V → Hp → Prop} {PA : List V → Hp → Prop} {r : R2} {K : Hp → VK → Prop}
theorem EvG.on (h : EvG X R e σ H K) (q : R H H') : EvG X R e σ H' K := fun H1 r => h H1 (Rl.trans q r)
theorem EvG.go {Q : VK} (h : EvG X R e σ H K) (q : K H Q) : RE X e σ H Q := h H (Rl.rfl H) Q q
theorem EvV.p (h : EvV X R e σ H v) (k : Kp R H (P v)) : EvP X R e σ H P := fun H1 r Q q => h H1 r Q fun H2 r2 => q v H2 r2 (k.on (Rl.trans r r2))
theorem EvP.imp {P' : V → Hp → Prop} (h : EvP X R e σ H P) (k : ∀ v H1, R H H1 → Kp R H1 (P v) → Kp R H1 (P' v)) : EvP X R e σ H P' := fun H1 r Q q => h H1 r Q fun v H2 r2 kp => q v H2 r2 (k v H2 (Rl.trans r r2) kp)
theorem EvN.p {xs : List V} (h : EvN X R e σ H xs) : EvP X R e σ H (fun v H => ∃ p, v = .ref p ∧ H p = some (.lst xs)) := fun H1 r Q q =>
  h H1 r Q fun p H2 _ r2 hp => q (.ref p) H2 r2 fun H3 r3 => ⟨p, rfl, Rl.keep r3 hp (Rl.ml xs)⟩
theorem EvT.on {b : Bool} (h : EvT X R e σ H b) (q : R H H') : EvT X R e σ H' b := fun H1 r => h H1 (Rl.trans q r)
theorem EvV.is {w : V} (h : EvV X R e σ H v) (q : v = w) : EvV X R e σ H w := q ▸ h
theorem EvN.is {xs ys : List V} (h : EvN X R e σ H xs) (q : xs = ys) : EvN X R e σ H ys := q ▸ h
theorem EvT.is {b b' : Bool} (h : EvT X R e σ H b) (q : b = b') : EvT X R e σ H b' := q ▸ h
/-! names and constants -/
theorem v_name (i : Nat) {n : Str} (hs : σ[i]? = some (some v)) (hN : X.N[i]? = some n := by rfl) (hv : Vis X.env.scope n := by first | exact Or.inl rfl | exact Or.inr (Or.inl rfl) | exact Or.inr (Or.inr rfl)) (hd : (n == ("__debug__" : Str)) = false := by decide)
    (hcd : (n == ("__classdict__" : Str)) = false := by decide) : EvV X R (.Name n pos) σ H v := fun H1 r Q q => RE.of (pe_var hN hv hd hcd) ⟨v, hs, q H1 (Rl.rfl H1)⟩
theorem v_int {i : Int} {j} : EvV X R (.Constant (.int i) j pos) σ H (.int i) := fun H1 r Q q => RE.of pe_int (q H1 (Rl.rfl H1))
theorem v_bl {i : Bool} {j} : EvV X R (.Constant (.bool i) j pos) σ H (.bl i) := fun H1 r Q q => RE.of pe_bl (q H1 (Rl.rfl H1))
theorem v_non {j} : EvV X R (.Constant .none j pos) σ H .non := fun H1 r Q q => RE.of pe_non (q H1 (Rl.rfl H1))
theorem v_str {i : Str} {j} : EvV X R (.Constant (.str i) j pos) σ H (.str i) := fun H1 r Q q => RE.of pe_str (q H1 (Rl.rfl H1))
theorem v_glob {n : Str} {u : Value} (hm : X.mg n = some u) (hr : RelV v u) (hg : Gl X n := by rfl) (hd : (n == ("__debug__" : Str)) = false := by decide) : EvV X R (.Name n pos) σ H v := fun H1 r Q q => RE.of (pe_glob hg hm hr hd) (q H1 (Rl.rfl H1))
theorem v_bltn {n : Str} {u : Value} (hm : X.mg n = none) (hv : bootBuiltins n = some u) (hr : RelV v u) (hg : Gl X n := by rfl) (hn : n ≠ "__name__" := by decide) (hd : (n == ("__debug__" : Str)) = false := by decide) : EvV X R (.Name n pos) σ H v :=
  fun H1 r Q q => RE.of (pe_bltn hg hm hv hr hn hd) (q H1 (Rl.rfl H1))
/-! operators on values -/
/-- a two-place rule of values -/
theorem g_op {op : Operator} {r : R2} [KM R K] (ho : OpR X (binaryOp op) r) (ha : EvV X R a σ H x) (hb : EvV X R b σ H y) (hr : ∀ H1, R H H1 → ∀ Q : VK, K H1 Q → r x y H1 Q) : EvG X R (.BinOp a op b pos) σ H K := fun H1 e1 Q q =>
  RE.of (pe_op ho pe_RE pe_RE) (ha H1 e1 _ fun H2 e2 => hb H2 (Rl.trans e1 e2) _ fun H3 e3 => hr H3 (Rl.trans (Rl.trans e1 e2) e3) Q (KM.on (Rl.trans e2 e3) q))
/-- .. of a first operand of which P holds -/
theorem g_opP {op : Operator} {r : R2} [KM R K] {P' : V → Hp → Prop} (ho : OpR X (binaryOp op) r) (ha : EvP X R a σ H P) (hb : EvP X R b σ H P') (hr : ∀ x y H1, R H H1 → Kp R H1 (P x) → Kp R H1 (P' y) → ∀ Q : VK, K H1 Q → r x y H1 Q) : EvG X R (.BinOp a op b pos) σ H K := fun H1 e1 Q q =>
  RE.of (pe_op ho pe_RE pe_RE) (ha H1 e1 _ fun x H2 e2 k2 => hb H2 (Rl.trans e1 e2) _ fun y H3 e3 k3 => hr x y H3 (Rl.trans (Rl.trans e1 e2) e3) (k2.on e3) k3 Q (KM.on (Rl.trans e2 e3) q))
theorem v_op {op : Operator} {r : R2} (ho : OpR X (binaryOp op) r) (ha : EvV X R a σ H x) (hb : EvV X R b σ H y) (hr : ∀ H1, R H H1 → ∀ Q : VK, Q z H1 → r x y H1 Q) : EvV X R (.BinOp a op b pos) σ H z :=
  g_op ho ha hb fun H1 r1 Q q => hr H1 r1 Q (q H1 (Rl.rfl H1))
theorem v_add {i j : Int} (ha : EvV X R a σ H (.int i)) (hb : EvV X R b σ H (.int j)) : EvV X R (.BinOp a .Add b pos) σ H (.int (i + j)) := v_op op_add ha hb fun H1 _ Q q => ⟨i, j, rfl, rfl, q⟩
theorem v_sub {i j : Int} (ha : EvV X R a σ H (.int i)) (hb : EvV X R b σ H (.int j)) : EvV X R (.BinOp a .Sub b pos) σ H (.int (i - j)) := v_op op_sub ha hb fun H1 _ Q q => ⟨i, j, rfl, rfl, q⟩
theorem v_mod {i j : Int} (ha : EvV X R a σ H (.int i)) (hb : EvV X R b σ H (.int j)) (hj : j ≠ 0) : EvV X R (.BinOp a .Mod b pos) σ H (.int (i.fmod j)) := v_op op_modN ha hb fun H1 _ Q q => ⟨i, j, rfl, rfl, hj, q⟩
theorem v_fdiv {i j : Int} (ha : EvV X R a σ H (.int i)) (hb : EvV X R b σ H (.int j)) (hj : j ≠ 0 ∧ j.natAbs < 1073741824) : EvV X R (.BinOp a .FloorDiv b pos) σ H (.int (i.fdiv j)) := v_op op_fdivN ha hb fun H1 _ Q q => ⟨i, j, rfl, rfl, hj, q⟩
theorem v_mul {i j : Int} (ha : EvV X R a σ H (.int i)) (hb : EvV X R b σ H (.int j)) (hj : -(2 ^ 64) < i ∧ i < 2 ^ 64) : EvV X R (.BinOp a .Mult b pos) σ H (.int (i * j)) := v_op op_mul ha hb fun H1 _ Q q => ⟨i, j, rfl, rfl, .inl hj, q⟩
theorem v_cat {i j : Str} (ha : EvV X R a σ H (.str i)) (hb : EvV X R b σ H (.str j)) (hz : i.length + j.length ≤ sizeLine) : EvV X R (.BinOp a .Add b pos) σ H (.str (i ++ j)) := v_op op_add_str ha hb fun H1 _ Q q => ⟨i, j, rfl, rfl, hz, q⟩
/-! comparisons -/
theorem v_cmp {op : CmpOp} {r : R2} (ho : OpR X (compareOp op) r) (ha : EvV X R a σ H x) (hb : EvV X R b σ H y) (hr : ∀ H1, R H H1 → ∀ Q : VK, Q z H1 → r x y H1 Q) (hm : behindInMarks op b = false := by first | exact nobehind _ (by decide) (by decide) | rfl) : EvV X R (.Compare a [op] [b] pos) σ H z := fun H1 e1 Q q =>
  RE.of (pe_cmpR ho pe_RE pe_RE hm) (ha H1 e1 _ fun H2 e2 => hb H2 (Rl.trans e1 e2) _ fun H3 e3 => hr H3 (Rl.trans (Rl.trans e1 e2) e3) Q (q H3 (Rl.trans e2 e3)))
theorem t_cmp {op : CmpOp} {r : R2} {k : Bool} (ho : OpR X (compareOp op) r) (ha : EvV X R a σ H x) (hb : EvV X R b σ H y) (hr : ∀ H1, R H H1 → ∀ Q : VK, Q (.bl k) H1 → r x y H1 Q) (hm : behindInMarks op b = false := by first | exact nobehind _ (by decide) (by decide) | rfl) : EvT X R (.Compare a [op] [b] pos) σ H k := fun H1 e1 Q q =>
  RT.of (pt_cmpR ho pe_RE pe_RE hm) (ha H1 e1 _ fun H2 e2 => hb H2 (Rl.trans e1 e2) _ fun H3 e3 => hr H3 (Rl.trans (Rl.trans e1 e2) e3) _ ⟨k, rfl, q H3 (Rl.trans e2 e3)⟩)
/-- .. both sides told by what holds of them -/
theorem t_cmpP {op : CmpOp} {r : R2} {k : Bool} {P' : V → Hp → Prop} (ho : OpR X (compareOp op) r) (ha : EvP X R a σ H P) (hb : EvP X R b σ H P') (hr : ∀ x y H1, R H H1 → Kp R H1 (P x) → Kp R H1 (P' y) → ∀ Q : VK, Q (.bl k) H1 → r x y H1 Q) (hm : behindInMarks op b = false := by first | exact nobehind _ (by decide) (by decide) | rfl) :
    EvT X R (.Compare a [op] [b] pos) σ H k := fun H1 e1 Q q =>
  RT.of (pt_cmpR ho pe_RE pe_RE hm) (ha H1 e1 _ fun x H2 e2 k2 => hb H2 (Rl.trans e1 e2) _ fun y H3 e3 k3 => hr x y H3 (Rl.trans (Rl.trans e1 e2) e3) (k2.on e3) k3 _ ⟨k, rfl, q H3 (Rl.trans e2 e3)⟩)
theorem v_cmpP {op : CmpOp} {r : R2} {P' : V → Hp → Prop} (ho : OpR X (compareOp op) r) (ha : EvP X R a σ H P) (hb : EvP X R b σ H P') (hr : ∀ x y H1, R H H1 → Kp R H1 (P x) → Kp R H1 (P' y) → ∀ Q : VK, Q z H1 → r x y H1 Q) (hm : behindInMarks op b = false := by first | exact nobehind _ (by decide) (by decide) | rfl) :
    EvV X R (.Compare a [op] [b] pos) σ H z := fun H1 e1 Q q =>
  RE.of (pe_cmpR ho pe_RE pe_RE hm) (ha H1 e1 _ fun x H2 e2 k2 => hb H2 (Rl.trans e1 e2) _ fun y H3 e3 k3 => hr x y H3 (Rl.trans (Rl.trans e1 e2) e3) (k2.on e3) k3 _ (q H3 (Rl.trans e2 e3)))
theorem t_lt {i j : Int} (ha : EvV X R a σ H (.int i)) (hb : EvV X R b σ H (.int j)) : EvT X R (.Compare a [.Lt] [b] pos) σ H (decide (i < j)) := t_cmp op_lt ha hb fun H1 _ Q q => ⟨i, j, rfl, rfl, q⟩
theorem t_gt {i j : Int} (ha : EvV X R a σ H (.int i)) (hb : EvV X R b σ H (.int j)) : EvT X R (.Compare a [.Gt] [b] pos) σ H (decide (j < i)) := t_cmp op_gt ha hb fun H1 _ Q q => ⟨i, j, rfl, rfl, q⟩
theorem t_le {i j : Int} (ha : EvV X R a σ H (.int i)) (hb : EvV X R b σ H (.int j)) : EvT X R (.Compare a [.LtE] [b] pos) σ H (decide (i ≤ j)) := t_cmp op_le ha hb fun H1 _ Q q => ⟨i, j, rfl, rfl, q⟩
theorem t_ge {i j : Int} (ha : EvV X R a σ H (.int i)) (hb : EvV X R b σ H (.int j)) : EvT X R (.Compare a [.GtE] [b] pos) σ H (decide (j ≤ i)) := t_cmp op_ge ha hb fun H1 _ Q q => ⟨i, j, rfl, rfl, q⟩
theorem t_eq (ha : EvV X R a σ H x) (hb : EvV X R b σ H y) (hs : scal x y = true := by rfl) : EvT X R (.Compare a [.Eq] [b] pos) σ H (decide (x = y)) := t_cmp op_eq ha hb fun H1 _ Q q => ⟨hs, q⟩
theorem t_ne (ha : EvV X R a σ H x) (hb : EvV X R b σ H y) (hs : scal x y = true := by rfl) : EvT X R (.Compare a [.NotEq] [b] pos) σ H (!decide (x = y)) := t_cmp op_ne ha hb fun H1 _ Q q => ⟨hs, q⟩
theorem v_eq (ha : EvV X R a σ H x) (hb : EvV X R b σ H y) (hs : scal x y = true := by rfl) : EvV X R (.Compare a [.Eq] [b] pos) σ H (.bl (decide (x = y))) := v_cmp op_eq ha hb fun H1 _ Q q => ⟨hs, q⟩
theorem v_ne (ha : EvV X R a σ H x) (hb : EvV X R b σ H y) (hs : scal x y = true := by rfl) : EvV X R (.Compare a [.NotEq] [b] pos) σ H (.bl (!decide (x = y))) := v_cmp op_ne ha hb fun H1 _ Q q => ⟨hs, q⟩
theorem v_lt {i j : Int} (ha : EvV X R a σ H (.int i)) (hb : EvV X R b σ H (.int j)) : EvV X R (.Compare a [.Lt] [b] pos) σ H (.bl (decide (i < j))) := v_cmp op_lt ha hb fun H1 _ Q q => ⟨i, j, rfl, rfl, q⟩
theorem v_in {k : Nat} {s : Str} (ha : EvV X R a σ H (.str ⟨#[k]⟩)) (hb : EvV X R b σ H (.str s)) (hm : behindInMarks .In b = false := by rfl) : EvV X R (.Compare a [.In] [b] pos) σ H (.bl (decide (k ∈ s.cps.toList))) := v_cmp op_in_sign ha hb (fun H1 _ Q q => ⟨k, s, rfl, rfl, q⟩) hm
theorem t_isN {j p'} (ha : EvV X R a σ H x) : EvT X R (.Compare a [.Is] [.Constant .none j p'] pos) σ H (decide (x = .non)) := fun H1 e1 Q q => RT.of (pt_cmp (pc_isN pe_RE)) (ha H1 e1 _ fun H2 e2 => ⟨_, rfl, q H2 e2⟩)
theorem t_notN {j p'} (ha : EvV X R a σ H x) : EvT X R (.Compare a [.IsNot] [.Constant .none j p'] pos) σ H (!decide (x = .non)) := fun H1 e1 Q q => RT.of (pt_cmp (pc_notN pe_RE)) (ha H1 e1 _ fun H2 e2 => ⟨_, rfl, q H2 e2⟩)
/-- low <= x <= high, both true -/
theorem v_chainLe {lo i hi : Int} (ha : EvV X R a σ H (.int lo)) (hb : EvV X R b σ H (.int i)) (hc : EvV X R c σ H (.int hi)) (h : lo ≤ i ∧ i ≤ hi) (hm : lastMarks [CmpOp.LtE, CmpOp.LtE] [b, c] = false := by with_unfolding_all rfl) : EvV X R (.Compare a [.LtE, .LtE] [b, c] pos) σ H (.bl true) := fun H1 e1 Q q =>
  RE.of (pe_chain op_le op_le pe_RE pe_RE pe_RE hm) (ha H1 e1 _ fun H2 e2 => hb H2 (Rl.trans e1 e2) _ fun H3 e3 => ⟨lo, i, rfl, rfl, true, congrArg V.bl (decide_eq_true h.1), by
    rw [if_pos rfl]
    exact hc H3 (Rl.trans (Rl.trans e1 e2) e3) _ fun H4 e4 => ⟨i, hi, rfl, rfl, by
      show Q (.bl (decide (i ≤ hi))) H4
      rw [decide_eq_true h.2]
      exact q H4 (Rl.trans (Rl.trans e2 e3) e4)⟩⟩)
/-! tests -/
theorem t_val {k : Bool} (h : EvV X R e σ H (.bl k)) (he : ∀ whole, isTrue e X.env whole = (do let v ← whole; standAt e.pos; holding [v] (truthy v)) := by intro _; rfl) : EvT X R e σ H k := fun H1 e1 Q q => RT.of (pt_val pe_RE he) (h H1 e1 _ fun H2 e2 => ⟨k, rfl, q H2 e2⟩)
theorem t_not {k : Bool} (h : EvT X R a σ H k) : EvT X R (.UnaryOp .Not a pos) σ H (!k) := fun H1 e1 Q q => RT.of (pt_not pt_RT) (h H1 e1 _ fun H2 e2 => q H2 e2)
theorem w_and1 {k : Bool} (h : EvT X R a σ H k) : EvW X R (.BoolOp .And [a] pos) σ H k := fun H1 e1 Q q => RW.of (pw_and1 pt_RT) (h H1 e1 _ q)
theorem w_or1 {k : Bool} (h : EvT X R a σ H k) : EvW X R (.BoolOp .Or [a] pos) σ H k := fun H1 e1 Q q => RW.of (pw_or1 pt_RT) (h H1 e1 _ q)
theorem w_and {k l : Bool} (h : EvT X R a σ H k) (h2 : k = true → EvW X R (.BoolOp .And (b :: rest) pos) σ H l) : EvW X R (.BoolOp .And (a :: b :: rest) pos) σ H (k && l) := fun H1 e1 Q q =>
  RW.of (pw_and pt_RT pw_RW) (h H1 e1 _ fun H2 e2 => by
    cases k with
    | true => rw [if_pos rfl]; exact h2 rfl H2 (Rl.trans e1 e2) _ fun H3 e3 => q H3 (Rl.trans e2 e3)
    | false => rw [if_neg Bool.false_ne_true]; exact q H2 e2)
theorem w_or {k l : Bool} (h : EvT X R a σ H k) (h2 : k = false → EvW X R (.BoolOp .Or (b :: rest) pos) σ H l) : EvW X R (.BoolOp .Or (a :: b :: rest) pos) σ H (k || l) := fun H1 e1 Q q =>
  RW.of (pw_or pt_RT pw_RW) (h H1 e1 _ fun H2 e2 => by
    cases k with
    | true => rw [if_pos rfl]; exact q H2 e2
    | false => rw [if_neg Bool.false_ne_true]; exact h2 rfl H2 (Rl.trans e1 e2) _ fun H3 e3 => q H3 (Rl.trans e2 e3))
theorem t_w {k : Bool} (h : EvW X R e σ H k) : EvT X R e σ H k := fun H1 e1 Q q pins s I => h H1 e1 Q q _ pins s I
/-! and, or, not as values -/
theorem v_one {op} (h : EvV X R a σ H v) : EvV X R (.BoolOp op [a] pos) σ H v := fun H1 e1 Q q => RE.of (pe_one pe_RE) (h H1 e1 _ q)
theorem v_and {k l : Bool} (h : EvV X R a σ H (.bl k)) (h2 : k = true → EvV X R (.BoolOp .And (b :: rest) pos) σ H (.bl l)) : EvV X R (.BoolOp .And (a :: b :: rest) pos) σ H (.bl (k && l)) := fun H1 e1 Q q =>
  RE.of (pe_and pe_RE pe_RE) (h H1 e1 _ fun H2 e2 => ⟨k, rfl, by
    cases k with
    | true => rw [if_pos rfl]; exact h2 rfl H2 (Rl.trans e1 e2) _ fun H3 e3 => q H3 (Rl.trans e2 e3)
    | false => rw [if_neg Bool.false_ne_true]; exact q H2 e2⟩)
theorem v_or {k l : Bool} (h : EvV X R a σ H (.bl k)) (h2 : k = false → EvV X R (.BoolOp .Or (b :: rest) pos) σ H (.bl l)) : EvV X R (.BoolOp .Or (a :: b :: rest) pos) σ H (.bl (k || l)) := fun H1 e1 Q q =>
  RE.of (pe_or pe_RE pe_RE) (h H1 e1 _ fun H2 e2 => ⟨k, rfl, by
    cases k with
    | true => rw [if_pos rfl]; exact q H2 e2
    | false => rw [if_neg Bool.false_ne_true]; exact h2 rfl H2 (Rl.trans e1 e2) _ fun H3 e3 => q H3 (Rl.trans e2 e3)⟩)
theorem v_not {k : Bool} (h : EvV X R a σ H (.bl k)) : EvV X R (.UnaryOp .Not a pos) σ H (.bl (!k)) := fun H1 e1 Q q => RE.of (pe_not pe_RE) (h H1 e1 _ fun H2 e2 => ⟨k, rfl, q H2 e2⟩)
/-! arguments -/
theorem a_nil (h : Kp R H (PA []) := by exact fun _ _ => rfl) : EvA X R [] σ H PA := fun H1 r Q q => RA.of pa_nil (q [] H1 (Rl.rfl H1) (h.on r))
theorem a_p {PB : List V → Hp → Prop} (ha : EvP X R a σ H P) (hb : EvA X R es σ H PB) (hs : starEach (a :: es) X.env = (false, eval a X.env) :: starEach es X.env := by rfl) : EvA X R (a :: es) σ H (fun vs H => ∃ v r, vs = v :: r ∧ P v H ∧ PB r H) := fun H1 r1 Q q =>
  RA.of (pa_cons pe_RE pa_RA hs) (ha H1 r1 _ fun v H2 r2 k2 => hb H2 (Rl.trans r1 r2) _ fun vs H3 r3 k3 => q (v :: vs) H3 (Rl.trans r2 r3) fun H4 r4 => ⟨v, vs, rfl, k2 H4 (Rl.trans r3 r4), k3 H4 r4⟩)
/-- a value that is known -/
theorem a_v {vs : List V} (ha : EvV X R a σ H v) (hb : EvA X R es σ H (fun ws _ => ws = vs)) (hs : starEach (a :: es) X.env = (false, eval a X.env) :: starEach es X.env := by rfl) : EvA X R (a :: es) σ H (fun ws _ => ws = v :: vs) := fun H1 r1 Q q =>
  RA.of (pa_cons pe_RE pa_RA hs) (ha H1 r1 _ fun H2 r2 => hb H2 (Rl.trans r1 r2) _ fun ws H3 r3 k3 => q (v :: ws) H3 (Rl.trans r2 r3) (kp_true (by rw [k3.now])))
theorem a_1 (ha : EvV X R a σ H v) (hs : starEach [a] X.env = (false, eval a X.env) :: starEach [] X.env := by rfl) : EvA X R [a] σ H (fun ws _ => ws = [v]) := a_v ha a_nil hs
theorem EvA.imp {PB : List V → Hp → Prop} (h : EvA X R es σ H PA) (k : ∀ vs H1, R H H1 → Kp R H1 (PA vs) → Kp R H1 (PB vs)) : EvA X R es σ H PB := fun H1 r Q q => h H1 r Q fun vs H2 r2 kp => q vs H2 r2 (k vs H2 (Rl.trans r r2) kp)
/-! displays -/
theorem n_lst {xs : List V} (h : EvA X R es σ H (fun ws _ => ws = xs)) (hz : xs.length ≤ sizeLine) : EvN X R (.List es pos) σ H xs := fun H1 r1 Q q =>
  RE.of (pe_lst pa_RA) (h H1 r1 _ fun vs H2 r2 k2 => by
    obtain rfl := k2.now
    exact ⟨hz, fun p hp => q p _ (Rl.back r2 hp) (Rl.trans r2 (Rl.ex (Ex.nw hp))) upd_same⟩)
theorem p_lst (h : EvA X R es σ H PA) (hz : ∀ vs H, PA vs H → vs.length ≤ sizeLine) : EvP X R (.List es pos) σ H (fun v H => ∃ p vs, v = .ref p ∧ H p = some (.lst vs) ∧ PA vs H) := fun H1 r1 Q q =>
  RE.of (pe_lst pa_RA) (h H1 r1 _ fun vs H2 r2 k2 => ⟨hz vs H2 k2.now, fun p hp => q (.ref p) _ (Rl.trans r2 (Rl.ex (Ex.nw hp))) fun H3 r3 => ⟨p, vs, rfl, Rl.keep r3 upd_same (Rl.ml vs), k2 H3 (Rl.trans (Rl.ex (Ex.nw hp)) r3)⟩⟩)
theorem p_tup {k} (h : EvA X R es σ H PA) (hz : ∀ vs H, PA vs H → vs.length ≤ sizeLine) : EvP X R (.Tuple es k pos) σ H (fun v H => ∃ p vs, v = .ref p ∧ H p = some (.tup vs) ∧ PA vs H) := fun H1 r1 Q q =>
  RE.of (pe_tup pa_RA) (h H1 r1 _ fun vs H2 r2 k2 => ⟨hz vs H2 k2.now, fun p hp => q (.ref p) _ (Rl.trans r2 (Rl.ex (Ex.nw hp))) fun H3 r3 => ⟨p, vs, rfl, Rl.keep r3 upd_same (Rl.mt vs), k2 H3 (Rl.trans (Rl.ex (Ex.nw hp)) r3)⟩⟩)
/-! attributes -/
theorem v_fld {p : Addr} {f : Str} (ha : EvV X R a σ H (.ref p)) (h : Kp R H (Fld X.K p f v)) (hb : attributeBase a f X.env (eval a X.env) = eval a X.env := by rfl) : EvV X R (.Attribute a f pos) σ H v := fun H1 r1 Q q =>
  RE.of (pe_fld pe_RE hb) (ha H1 r1 _ fun H2 r2 => by
    obtain ⟨C, dx, fs, h1, h2, h3, h4⟩ := h H2 (Rl.trans r1 r2)
    exact ⟨p, C, dx, fs, v, rfl, h1, h2, h3, h4, q H2 r2⟩)
/-! calls -/
/-- what a promise must give -/
abbrev Gives (R : Hp → Hp → Prop) (PA : List V → Hp → Prop) (K : Hp → VK → Prop) (H : Hp) (sp : Sp) : Prop := ∀ vs H1, R H H1 → Kp R H1 (PA vs) → ∀ Q : VK, K H1 Q → sp vs H1 Q E0
theorem g_call {k : Nat} {f : Addr} {ps : List Str} {sp : Sp} {n : Str} {p : Pos} [KM R K] (O : Ok X.prog X.w X.K X.mg X.base k f ps sp) (hm : X.mg n = some (.ref f)) (hr : Room k X.A) (ha : EvA X R (e :: es) σ H PA) (hs : Gives R PA K H sp) (hg : Gl X n := by rfl)
    (hdb : (n == ("__debug__" : Str)) = false := by decide) (he : starEach (e :: es) X.env = (false, eval e X.env) :: starEach es X.env := by rfl) (hpl : (backTo pos (starEach es X.env)).any (·.1) = false := by rfl) :
    EvG X R (.Call (.Name n p) (e :: es) [] pos) σ H K := fun H1 r1 Q q => by
  obtain ⟨fd, F, b⟩ := O.ex
  refine RE.of (pe_call F hr hg hm O.kp b .nil pass0 pa_RA hdb he hpl) (ha H1 r1 _ fun vs H2 r2 k2 => ?_)
  show sp (vs ++ []) H2 Q E0
  rw [List.append_nil]
  exact hs vs H2 (Rl.trans r1 r2) k2 Q (KM.on r2 q)
theorem g_meth {k : Nat} {f C po : Addr} {ps : List Str} {sp : Sp} {n : Str} [KM R K] (hc : Cls X.K C) (hm : Meth X.K C n f) (O : Ok X.prog X.w X.K X.mg X.base k f ps sp) (hr : Room k X.A) (ho : EvV X R a σ H (.ref po)) (hi : Kp R H (Ins C po n)) (ha : EvA X R (e :: es) σ H PA)
    (hs : Gives R PA K H fun vs => sp (.ref po :: vs)) {pl : Sem Bool}
    (hst : starEach (e :: es) X.env = (false, eval e X.env) :: starEach es X.env := by rfl) (hpl : (backTo pos (starEach es X.env)).any (·.1) = false := by rfl)
    (ht : eval (.Call (.Attribute a n apos) (e :: es) [] pos) X.env = (do
      let ov ← eval a X.env
      standAt apos.atName
      let (f, first) ← holding [ov] (getMethod ov n pl)
      callWith pos f first (backTo pos (starEach (e :: es) X.env)) (backToKw pos (keywordEach [] X.env))) := by rfl) :
    EvG X R (.Call (.Attribute a n apos) (e :: es) [] pos) σ H K := fun H1 r1 Q q => by
  obtain ⟨fd, F, b⟩ := O.ex
  refine RE.of (pe_meth pe_RE hc hm F hr b .nil pass0 pa_RA hst hpl ht) (ho H1 r1 _ fun H2 r2 => ?_)
  obtain ⟨dx, fs, h1, h2⟩ := hi H2 (Rl.trans r1 r2)
  refine ⟨po, dx, fs, rfl, h1, h2, ha H2 (Rl.trans r1 r2) _ fun vs H3 r3 k3 => ?_⟩
  show sp (.ref po :: (vs ++ [])) H3 Q E0
  rw [List.append_nil]
  exact hs vs H3 (Rl.trans (Rl.trans r1 r2) r3) k3 Q (KM.on (Rl.trans r2 r3) q)
theorem g_meth0 {k : Nat} {f C po : Addr} {ps : List Str} {sp : Sp} {n : Str} [KM R K] (hc : Cls X.K C) (hm : Meth X.K C n f) (O : Ok X.prog X.w X.K X.mg X.base k f ps sp) (hr : Room k X.A) (ho : EvV X R a σ H (.ref po)) (hi : Kp R H (Ins C po n))
    (hs : ∀ H1, R H H1 → ∀ Q : VK, K H1 Q → sp [.ref po] H1 Q E0) {pl : Sem Bool}
    (ht : eval (.Call (.Attribute a n apos) [] [] pos) X.env = (do
      let ov ← eval a X.env
      standAt apos.atName
      let (f, first) ← holding [ov] (getMethod ov n pl)
      callWith pos f first (backTo pos (starEach [] X.env)) (backToKw pos (keywordEach [] X.env))) := by rfl) :
    EvG X R (.Call (.Attribute a n apos) [] [] pos) σ H K := fun H1 r1 Q q => by
  obtain ⟨fd, F, b⟩ := O.ex
  refine RE.of (pe_meth0 pe_RE hc hm F hr b .nil pass0 ht) (ho H1 r1 _ fun H2 r2 => ?_)
  obtain ⟨dx, fs, h1, h2⟩ := hi H2 (Rl.trans r1 r2)
  exact ⟨po, dx, fs, rfl, h1, h2, hs H2 (Rl.trans r1 r2) Q (KM.on r2 q)⟩
/-- a new instance: __init__'s promise at it -/
abbrev Makes (C : Addr) (R : Hp → Hp → Prop) (PA : List V → Hp → Prop) (K : Hp → VK → Prop) (H : Hp) (sp : Sp) : Prop := ∀ vs H1, R H H1 → Kp R H1 (PA vs) → ∀ x dx, H1 x = none → H1 dx = none → dx ≠ x → ∀ Q : VK, K H1 Q →
  sp (.ref x :: vs) (upd (upd H1 dx (.own x)) x (.ins C dx [])) (fun v H2 => v = .non ∧ Q (.ref x) H2) E0
theorem g_make {k : Nat} {f C : Addr} {ps : List Str} {sp : Sp} {n : Str} {p : Pos} [KM R K] (Mk' : Mk X.K C f) (O : Ok X.prog X.w X.K X.mg X.base k f ps sp) (hm : X.mg n = some (.ref C)) (hr : Room (k + 1) X.A) (ha : EvA X R (e :: es) σ H PA) (hs : Makes C R PA K H sp) (hg : Gl X n := by rfl)
    (hdb : (n == ("__debug__" : Str)) = false := by decide) (he : starEach (e :: es) X.env = (false, eval e X.env) :: starEach es X.env := by rfl) (hpl : (backTo pos (starEach es X.env)).any (·.1) = false := by rfl) :
    EvG X R (.Call (.Name n p) (e :: es) [] pos) σ H K := fun H1 r1 Q q => by
  obtain ⟨fd, F, b⟩ := O.ex
  refine RE.of (pe_make Mk' F hr hg hm b .nil pass0 pa_RA hdb he hpl) (ha H1 r1 _ fun vs H2 r2 k2 => ?_)
  intro x dx nx nd ne
  show sp (.ref x :: (vs ++ [])) _ _ E0
  rw [List.append_nil]
  exact hs vs H2 (Rl.trans r1 r2) k2 x dx nx nd ne Q (KM.on r2 q)
/-- a built-in by its rule of values -/
theorem g_b {id : String} {r : List V → Hp → VK → Prop} {n : Str} {p : Pos} [KM R K] (hc : CallR X (.builtin id) r) (hm : X.mg n = none) (hv : bootBuiltins n = some (.builtin id)) (ha : EvA X R (e :: es) σ H PA) (hs : ∀ vs H1, R H H1 → Kp R H1 (PA vs) → ∀ Q : VK, K H1 Q → r vs H1 Q) (hg : Gl X n := by rfl)
    (hn : n ≠ "__name__" := by decide) (hdb : (n == ("__debug__" : Str)) = false := by decide) (he : starEach (e :: es) X.env = (false, eval e X.env) :: starEach es X.env := by rfl) (hpl : (backTo pos (starEach es X.env)).any (·.1) = false := by rfl) :
    EvG X R (.Call (.Name n p) (e :: es) [] pos) σ H K := fun H1 r1 Q q =>
  RE.of (pe_callB hc hg hm hv pa_RA hn hdb he hpl) (ha H1 r1 _ fun vs H2 r2 k2 => hs vs H2 (Rl.trans r1 r2) k2 Q (KM.on r2 q))
theorem g_ty {id : String} {r : List V → Hp → VK → Prop} {n : Str} {p : Pos} [KM R K] (hc : CallR X (.type id) r) (hm : X.mg n = none) (hv : bootBuiltins n = some (.type id)) (ha : EvA X R (e :: es) σ H PA) (hs : ∀ vs H1, R H H1 → Kp R H1 (PA vs) → ∀ Q : VK, K H1 Q → r vs H1 Q) (hg : Gl X n := by rfl)
    (hn : n ≠ "__name__" := by decide) (hdb : (n == ("__debug__" : Str)) = false := by decide) (he : starEach (e :: es) X.env = (false, eval e X.env) :: starEach es X.env := by rfl) (hpl : (backTo pos (starEach es X.env)).any (·.1) = false := by rfl) :
    EvG X R (.Call (.Name n p) (e :: es) [] pos) σ H K := fun H1 r1 Q q =>
  RE.of (pe_callTy hc hg hm hv pa_RA hn hdb he hpl) (ha H1 r1 _ fun vs H2 r2 k2 => hs vs H2 (Rl.trans r1 r2) k2 Q (KM.on r2 q))
theorem v_len {n : Str} {p : Pos} {q : Addr} {xs : List V} (hn : n = "len") (hm : X.mg "len" = none) (ha : EvV X R a σ H (.ref q)) (h : Kp R H fun H => SqL X.K H q xs) (hg : Gl X "len" := by rfl) (hs : starEach [a] X.env = (false, eval a X.env) :: starEach [] X.env := by rfl) (hpl : (backTo pos (starEach [] X.env)).any (·.1) = false := by rfl) :
    EvV X R (.Call (.Name n p) [a] [] pos) σ H (.int (xs.length : Int)) := by
  subst hn
  refine g_b (PA := fun ws _ => ws = [.ref q]) call_len_seq hm PySem.boot_len (a_1 ha hs) (fun vs H1 r1 k1 Q q' => ?_) hg (by decide) (by decide) hs hpl
  obtain rfl := k1.now
  exact ⟨q, xs, rfl, .inl (h H1 r1), q' H1 (Rl.rfl H1)⟩
theorem v_lenS {n : Str} {p : Pos} {s : Str} (hn : n = "len") (hm : X.mg "len" = none) (ha : EvV X R a σ H (.str s)) (h : s.length ≤ sizeLine) (hg : Gl X "len" := by rfl) (hs : starEach [a] X.env = (false, eval a X.env) :: starEach [] X.env := by rfl) (hpl : (backTo pos (starEach [] X.env)).any (·.1) = false := by rfl) :
    EvV X R (.Call (.Name n p) [a] [] pos) σ H (.int (s.length : Int)) := by
  subst hn
  refine g_b (PA := fun ws _ => ws = [.str s]) call_len_str hm PySem.boot_len (a_1 ha hs) (fun vs H1 r1 k1 Q q' => ?_) hg (by decide) (by decide) hs hpl
  obtain rfl := k1.now
  exact ⟨s, rfl, h, q' H1 (Rl.rfl H1)⟩
/-! subscripts -/
theorem v_ixL {p : Addr} {xs : List V} {i : Int} (ha : EvV X R a σ H (.ref p)) (hb : EvV X R b σ H (.int i)) (h : Kp R H fun H => SqL X.K H p xs) (hi : atI xs i = some v) (hp : PlainIx b := by exact fun _ _ => rfl) : EvV X R (.Subscript a b pos) σ H v := fun H1 r1 Q q =>
  RE.of (pe_ix ix_list pe_RE pe_RE hp) (ha H1 r1 _ fun H2 r2 => hb H2 (Rl.trans r1 r2) _ fun H3 r3 => ⟨p, xs, i, v, rfl, rfl, h H3 (Rl.trans (Rl.trans r1 r2) r3), hi, q H3 (Rl.trans r2 r3)⟩)
theorem v_ixT {p : Addr} {xs : List V} {i : Int} (ha : EvV X R a σ H (.ref p)) (hb : EvV X R b σ H (.int i)) (h : Kp R H fun H => SqT X.K H p xs) (hi : atI xs i = some v) (hp : PlainIx b := by exact fun _ _ => rfl) : EvV X R (.Subscript a b pos) σ H v := fun H1 r1 Q q =>
  RE.of (pe_ix ix_tup pe_RE pe_RE hp) (ha H1 r1 _ fun H2 r2 => hb H2 (Rl.trans r1 r2) _ fun H3 r3 => ⟨p, xs, i, v, rfl, rfl, h H3 (Rl.trans (Rl.trans r1 r2) r3), hi, q H3 (Rl.trans r2 r3)⟩)
theorem v_ixS {s : Str} {i : Int} {k : Nat} (ha : EvV X R a σ H (.str s)) (hb : EvV X R b σ H (.int i)) (hz : s.length ≤ sizeLine) (hi : atI s.cps.toList i = some k) (hp : PlainIx b := by exact fun _ _ => rfl) : EvV X R (.Subscript a b pos) σ H (.str ⟨#[k]⟩) := fun H1 r1 Q q =>
  RE.of (pe_ix ix_str pe_RE pe_RE hp) (ha H1 r1 _ fun H2 r2 => hb H2 (Rl.trans r1 r2) _ fun H3 r3 => ⟨s, i, k, rfl, rfl, hz, hi, q H3 (Rl.trans r2 r3)⟩)
/-! slices -/
theorem po_RO {o : Option Expr} : PO X o (RO X o) := ⟨fun pins s σ H Q I h => h pins s I⟩
theorem RO.of {o : Option Expr} {t : TO} {Q : Option Int → Hp → Prop} (h : PO X o t) (q : t σ H Q) : RO X o σ H Q := fun pins s I => h.run pins s σ H Q I q
theorem o_none : EvO X R none σ H none := fun H1 r1 Q q => RO.of po_none (q H1 (Rl.rfl H1))
theorem o_some {i : Int} (h : EvV X R a σ H (.int i)) : EvO X R (some a) σ H (some i) := fun H1 r1 Q q => RO.of (po_some pe_RE) (h H1 r1 _ fun H2 r2 => ⟨i, rfl, q H2 r2⟩)
theorem n_slL {p : Addr} {xs : List V} {lo hi : Option Expr} {l u : Option Int} {p2 : Pos} (ha : EvV X R a σ H (.ref p)) (hl : EvO X R lo σ H l) (hu : EvO X R hi σ H u) (h : Kp R H fun H => SqL X.K H p xs) : EvN X R (.Subscript a (.Slice lo hi none p2) pos) σ H (cutV xs l u) := fun H1 r1 Q q =>
  RE.of (pe_slice sl_list pe_RE po_RO po_RO) (ha H1 r1 _ fun H2 r2 => hl H2 (Rl.trans r1 r2) _ fun H3 r3 => hu H3 (Rl.trans (Rl.trans r1 r2) r3) _ fun H4 r4 =>
    ⟨p, xs, rfl, h H4 (Rl.trans (Rl.trans (Rl.trans r1 r2) r3) r4), fun d hd => q d _ (Rl.back (Rl.trans (Rl.trans r2 r3) r4) hd) (Rl.trans (Rl.trans (Rl.trans r2 r3) r4) (Rl.ex (Ex.nw hd))) upd_same⟩)
theorem v_slS {s : Str} {lo hi : Option Expr} {l u : Option Int} {p2 : Pos} (ha : EvV X R a σ H (.str s)) (hl : EvO X R lo σ H l) (hu : EvO X R hi σ H u) (hz : s.length ≤ sizeLine) : EvV X R (.Subscript a (.Slice lo hi none p2) pos) σ H (.str (cutS s l u)) := fun H1 r1 Q q =>
  RE.of (pe_slice sl_str pe_RE po_RO po_RO) (ha H1 r1 _ fun H2 r2 => hl H2 (Rl.trans r1 r2) _ fun H3 r3 => hu H3 (Rl.trans (Rl.trans r1 r2) r3) _ fun H4 r4 => ⟨s, rfl, hz, q H4 (Rl.trans (Rl.trans r2 r3) r4)⟩)
theorem n_rev {p : Addr} {xs : List V} {k : Nat} {p1 p2 p3 : Pos} (ha : EvV X R a σ H (.ref p)) (h : Kp R H fun H => SqL X.K H p xs) : EvN X R (.Subscript a (.Slice none none (some (.UnaryOp .USub (.Constant (.int 1) k p1) p2)) p3) pos) σ H xs.reverse := fun H1 r1 Q q =>
  RE.of (pe_revL pe_RE) (ha H1 r1 _ fun H2 r2 => ⟨p, xs, rfl, h H2 (Rl.trans r1 r2), fun d hd => q d _ (Rl.back r2 hd) (Rl.trans r2 (Rl.ex (Ex.nw hd))) upd_same⟩)
/-! lists -/
theorem n_cat {xs ys : List V} (ha : EvP X R a σ H (fun v H => ∃ p, v = .ref p ∧ H p = some (.lst xs))) (hb : EvP X R b σ H (fun v H => ∃ p, v = .ref p ∧ H p = some (.lst ys))) (hz : xs.length + ys.length ≤ sizeLine) : EvN X R (.BinOp a .Add b pos) σ H (xs ++ ys) :=
  g_opP op_cat ha hb fun x y H1 r1 k1 k2 Q q => by
    obtain ⟨p, rfl, h1⟩ := k1.now
    obtain ⟨p', rfl, h2⟩ := k2.now
    exact ⟨p, p', xs, ys, rfl, rfl, h1, h2, hz, fun d hd => q d _ hd (Rl.ex (Ex.nw hd)) upd_same⟩
theorem n_rep {xs : List V} {k : Int} (ha : EvN X R a σ H xs) (hb : EvV X R b σ H (.int k)) (h0 : -(2 ^ 63) ≤ k) (h1 : k < 2 ^ 63) (hz : xs.length * k.toNat ≤ sizeLine) : EvN X R (.BinOp a .Mult b pos) σ H (List.replicate k.toNat xs).flatten :=
  g_opP op_rep ha.p (hb.p (P := fun v _ => v = .int k) (kp_true rfl)) fun x y H1 r1 k1 k2 Q q => by
    obtain ⟨p, rfl, h2⟩ := k1.now
    obtain rfl := k2.now
    exact ⟨p, k, xs, rfl, rfl, h2, h0, h1, hz, fun d hd => q d _ hd (Rl.ex (Ex.nw hd)) upd_same⟩
end
/-! ### statements -/
section
variable {X : Cx} {R : Hp → Hp → Prop} [Rl R] {σ : L2.St} {H H' : Hp} {a b c e : Expr} {es : List Expr} {x y z v : V} {pos : Pos} {P : V → Hp → Prop} {K : Hp → VK → Prop} {st : Stmt} {bd els rest : List Stmt} {D : Ends}
theorem RB.nil (h : D.nx σ H) : RB X [] D σ H := RB.of pss_nil h
theorem RB.cons (h : RS X st { D with nx := RB X rest D } σ H) : RB X (st :: rest) D σ H := RB.of (pss_cons ps_RS pss_RB) h
theorem q_set (i : Nat) {n : Str} {p' : Pos} (h : EvG X R e σ H K) (k : K H fun v H2 => RB X rest D (σ.set i (some v)) H2) (hN : X.N.Nodup) (hi : X.N[i]? = some n := by rfl) (hx : Loc X.env.scope n := by first | exact Or.inl rfl | exact Or.inr rfl) (hs : swapsWith e (some (.Name n p')) pos.line X.env = pure false := by rfl)
    (hf : X.fn n = true ∨ X.env.scope.names.lookup n = some .local := by first | exact .inl rfl | exact .inr rfl) : RB X (.Assign [.Name n p'] e pos :: rest) D σ H := RB.cons (RS.of (ps_set hN hi hx pe_RE hs hf) (h.go k))
theorem q_expr (h : EvG X R e σ H K) (k : K H fun _ H2 => RB X rest D σ H2) (hs : swapsWith e none pos.line X.env = pure false := by rfl) : RB X (.Expr e pos :: rest) D σ H := RB.cons (RS.of (ps_expr pe_RE hs) (h.go k))
theorem q_ret (h : EvG X R e σ H K) (k : K H D.rt) : RB X (.Return (some e) pos :: rest) D σ H := RB.cons (RS.of (ps_ret pe_RE) (h.go k))
theorem q_if {k : Bool} (h : EvT X R c σ H k) (h1 : k = true → ∀ H1, R H H1 → RB X bd { D with nx := RB X rest D } σ H1) (h2 : k = false → ∀ H1, R H H1 → RB X els { D with nx := RB X rest D } σ H1) : RB X (.If c bd els pos :: rest) D σ H :=
  RB.cons (RS.of (ps_if pt_RT pss_RB pss_RB) (h H (Rl.rfl H) _ fun H2 r2 => by
    cases k with
    | true => rw [if_pos rfl]; exact h1 rfl H2 r2
    | false => rw [if_neg Bool.false_ne_true]; exact h2 rfl H2 r2))
/-- the test is false, there is no else -/
theorem q_no (h : EvT X R c σ H false) (k : ∀ H1, R H H1 → RB X rest D σ H1) : RB X (.If c bd [] pos :: rest) D σ H := q_if h (fun q => nomatch q) fun _ H1 r1 => RB.nil (k H1 r1)
theorem q_yes (h : EvT X R c σ H true) (k : ∀ H1, R H H1 → RB X bd { D with nx := RB X rest D } σ H1) : RB X (.If c bd els pos :: rest) D σ H := q_if h (fun _ => k) fun q => nomatch q
end
/-! ### exactly: the heap stays -/
def Vl (X : Cx) (e : Expr) (σ : L2.St) (H : Hp) (v : V) : Prop := ∀ Q : VK, Q v H → RE X e σ H Q
section
variable {X : Cx} {R : Hp → Hp → Prop} [Rl R] {σ : L2.St} {H H' : Hp} {a b c e : Expr} {es : List Expr} {x y z v : V} {pos : Pos}
theorem x_name (i : Nat) {n : Str} (hs : σ[i]? = some (some v)) (hN : X.N[i]? = some n := by rfl) (hv : Vis X.env.scope n := by first | exact Or.inl rfl | exact Or.inr (Or.inl rfl) | exact Or.inr (Or.inr rfl)) (hd : (n == ("__debug__" : Str)) = false := by decide)
    (hcd : (n == ("__classdict__" : Str)) = false := by decide) : Vl X (.Name n pos) σ H v := fun Q q => RE.of (pe_var hN hv hd hcd) ⟨v, hs, q⟩
theorem x_int {i : Int} {j} : Vl X (.Constant (.int i) j pos) σ H (.int i) := fun Q q => RE.of pe_int q
theorem x_add {i j : Int} (ha : Vl X a σ H (.int i)) (hb : Vl X b σ H (.int j)) : Vl X (.BinOp a .Add b pos) σ H (.int (i + j)) := fun Q q => RE.of (pe_op op_add pe_RE pe_RE) (ha _ (hb _ ⟨i, j, rfl, rfl, q⟩))
theorem x_sub {i j : Int} (ha : Vl X a σ H (.int i)) (hb : Vl X b σ H (.int j)) : Vl X (.BinOp a .Sub b pos) σ H (.int (i - j)) := fun Q q => RE.of (pe_op op_sub pe_RE pe_RE) (ha _ (hb _ ⟨i, j, rfl, rfl, q⟩))
theorem x_fld {p : Addr} {f : Str} (ha : Vl X a σ H (.ref p)) (h : Fld X.K p f v H) (hb : attributeBase a f X.env (eval a X.env) = eval a X.env := by rfl) : Vl X (.Attribute a f pos) σ H v := fun Q q => by
  obtain ⟨C, dx, fs, h1, h2, h3, h4⟩ := h
  exact RE.of (pe_fld pe_RE hb) (ha _ ⟨p, C, dx, fs, v, rfl, h1, h2, h3, h4, q⟩)
theorem x_ixL {p : Addr} {xs : List V} {i : Int} (ha : Vl X a σ H (.ref p)) (hb : Vl X b σ H (.int i)) (h : SqL X.K H p xs) (hi : atI xs i = some v) (hp : PlainIx b := by exact fun _ _ => rfl) : Vl X (.Subscript a b pos) σ H v := fun Q q =>
  RE.of (pe_ix ix_list pe_RE pe_RE hp) (ha _ (hb _ ⟨p, xs, i, v, rfl, rfl, h, hi, q⟩))
end
/-! ### xs[a:c] = ys -/
def gSlc (to tl th : TE) : TG := fun v σ H Q => to σ H fun x H1 => tl σ H1 fun y H2 => th σ H2 fun z H3 => ∃ l b xs ys a c, x = .ref l ∧ v = .ref b ∧ y = .int a ∧ z = .int c ∧ H3 l = some (.lst xs) ∧ H3 b = some (.lst ys) ∧ l ≠ b ∧ 0 ≤ a ∧ a ≤ c ∧ c ≤ xs.length ∧
  xs.length + ys.length ≤ sizeLine ∧ Q σ (upd H3 l (.lst (xs.take a.toNat ++ ys ++ xs.drop c.toNat)))
section
variable {X : Cx} {o lo hi : Expr} {to tl th : TE} {pos p2 : Pos}
theorem pg_slc (ho : PE X o to) (hl : PE X lo tl) (hh : PE X hi th) : PG X (.Subscript o (.Slice (some lo) (some hi) none p2) pos) (gSlc to tl th) := by
  refine ⟨fun pins s σ H v u Q I r h => ?_⟩
  rw [PySem.assign_Subscript]
  refine wpAny_bind (wpAny_holding (thn (ho.run pins s σ H _ I h) fun ov s1 ⟨x, H1, I1, r1, q1⟩ => ?_))
  refine wpAny_bind (wpAny_holding (wpAny_Slice ?_))
  rw [evalPart_some]
  refine thn (hl.run pins s1 σ H1 _ I1 q1) fun vl s2 ⟨y, H2, I2, r2, q2⟩ => ?_
  rw [evalPart_some]
  refine thn (hh.run pins s2 σ H2 _ I2 q2) fun vu s3 ⟨z, H3, I3, r3, q3⟩ => ?_
  rw [evalPart_none]
  refine wpAny_pure ?_
  obtain ⟨l, b, xs, ys, a, c, rfl, rfl, rfl, rfl, h1, h2, h3, h4, h5, h6, h7, q⟩ := q3
  have I4 : Inv X pins σ H3 { s3 with heap := s3.heap.push { cls := .type "slice", data := .fields #[vl, vu, .none] } } := I3.kept (t' := s3.toks) fun b ob q => Heap.get?_push_of_some _ q
  obtain rfl : ov = Value.ref l := r1
  obtain rfl : u = Value.ref b := r
  refine wpAny_bind (wpAny_standAt (wpAny_bind (wpAny_holding ?_)))
  exact set_slice I4 h1 h2 h3 (Heap.IsSliceOf.new ..) r2 r3 h4 h5 h6 h7 fun s5 I5 => wpAny_release ⟨σ, _, I5, q⟩
end
/-! ### statements that store -/
section
variable {X : Cx} {R : Hp → Hp → Prop} [Rl R] {σ : L2.St} {H H' : Hp} {a b c e : Expr} {es : List Expr} {x y z v : V} {pos p' : Pos} {P : V → Hp → Prop} {K : Hp → VK → Prop} {st : Stmt} {bd els rest : List Stmt} {D : Ends}
/-- o.f = e -/
theorem q_fld {f : Str} (hv : EvG X R e σ H K) (k : K H fun v H2 => ∃ p C dx fs, Vl X a σ H2 (.ref p) ∧ H2 p = some (.ins C dx fs) ∧ Cls X.K C ∧ NoAttr X.K C f ∧ fs.length < 1000 ∧ RB X rest D σ (upd H2 p (.ins C dx (putF f v fs))))
    (hm : ∀ {Q Q' : VK}, (∀ v H, Q v H → Q' v H) → K H Q → K H Q') (hs : swapsWith e (some (.Attribute a f p')) pos.line X.env = pure false := by rfl) : RB X (.Assign [.Attribute a f p'] e pos :: rest) D σ H :=
  RB.cons (RS.of (ps_fld pe_RE pe_RE hs) (hv.go (hm (fun v H2 ⟨p, C, dx, fs, h1, h2, h3, h4, h5, h6⟩ => h1 _ ⟨p, C, dx, fs, rfl, h2, h3, h4, h5, h6⟩) k)))
theorem kV_mono {v : V} {Q Q' : VK} (h : ∀ v H, Q v H → Q' v H) (k : KV R v H Q) : KV R v H Q' := fun H2 r => h _ _ (k H2 r)
theorem kP_mono {Q Q' : VK} (h : ∀ v H, Q v H → Q' v H) (k : KP R P H Q) : KP R P H Q' := fun v H2 r kp => h _ _ (k v H2 r kp)
theorem kN_mono {xs : List V} {Q Q' : VK} (h : ∀ v H, Q v H → Q' v H) (k : KN R xs H Q) : KN R xs H Q' := fun p H2 n r hp => h _ _ (k p H2 n r hp)
/-- o.f += n -/
theorem q_fldaug {p C dx : Addr} {f : Str} {fs : List (Str × V)} {i j : Int} (ho : Vl X a σ H (.ref p)) (hi : H p = some (.ins C dx fs)) (hc : Cls X.K C) (hn : NoAttr X.K C f) (hf : fs.lookup f = some (.int i)) (hv : Vl X e σ H (.int j)) (hl : fs.length < 1000)
    (k : RB X rest D σ (upd H p (.ins C dx (putF f (.int (i + j)) fs)))) : RB X (.AugAssign (.Attribute a f p') .Add e pos :: rest) D σ H :=
  RB.cons (RS.of (ps_fldaug pe_RE pe_RE in_add) (ho _ ⟨p, C, dx, fs, .int i, rfl, hi, hc, hn, hf, hv _ ⟨i, j, rfl, rfl, dx, fs, hi, hl, k⟩⟩))
/-- d[y] = e -/
theorem q_dput {i : Expr} (hu : X.A.units + 1 < cLine) (hv : EvG X R e σ H K) (k : K H fun v H2 => ∃ d kvs key, Vl X a σ H2 (.ref d) ∧ Vl X i σ H2 (kV key) ∧ H2 d = some (.dK kvs) ∧ kvs.length < sizeLine ∧ RB X rest D σ (upd H2 d (.dK (putK kvs key v))))
    (hm : ∀ {Q Q' : VK}, (∀ v H, Q v H → Q' v H) → K H Q → K H Q') (hs : swapsWith e (some (.Subscript a i p')) pos.line X.env = pure false := by rfl) : RB X (.Assign [.Subscript a i p'] e pos :: rest) D σ H :=
  RB.cons (RS.of (ps_dput hu pe_RE pe_RE pe_RE hs) (hv.go (hm (fun v H2 ⟨d, kvs, key, h1, h2, h3, h4, h5⟩ => h1 _ (h2 _ ⟨d, _, rfl, DPut.k h3 h4, h5⟩)) k)))
/-- xs[i] = e -/
theorem q_setL {i : Expr} (hv : EvG X R e σ H K) (k : K H fun v H2 => ∃ l xs n j, Vl X a σ H2 (.ref l) ∧ Vl X i σ H2 (.int n) ∧ H2 l = some (.lst xs) ∧ ixN xs.length n = some j ∧ RB X rest D σ (upd H2 l (.lst (xs.set j v))))
    (hm : ∀ {Q Q' : VK}, (∀ v H, Q v H → Q' v H) → K H Q → K H Q') (ha : ∀ v, assign (.Subscript a i p') X.env v = (do
      let ov ← holding [v] (eval a X.env)
      let iv ← holding [v, ov] (eval i X.env)
      standAt p'
      holding [v, ov, iv] (setItem ov iv v)
      release [v, ov, iv] []) := by intro _; rfl) (hs : swapsWithSole [.Subscript a i p'] e pos.line X.env = pure false := by rfl) (hw : swappedStores [.Subscript a i p'] e X.env = pure none := by rfl)
    (h1 : (assignEach [.Subscript a i p'] X.env).map (·.2) = [assign (.Subscript a i p') X.env] := by rfl) : RB X (.Assign [.Subscript a i p'] e pos :: rest) D σ H :=
  RB.cons (RS.of (ps_asg pe_RE (pg_sub pe_RE pe_RE set_list ha) hs hw h1) (hv.go (hm (fun v H2 ⟨l, xs, n, j, h1, h2, h3, h4, h5⟩ => h1 _ (h2 _ ⟨l, xs, n, j, rfl, rfl, h3, h4, h5⟩)) k)))
/-- xs[a:c] = e -/
theorem q_slc {lo hi : Expr} {p2 : Pos} (hv : EvG X R e σ H K) (k : K H fun v H2 => ∃ l b xs ys n m, v = .ref b ∧ Vl X a σ H2 (.ref l) ∧ Vl X lo σ H2 (.int n) ∧ Vl X hi σ H2 (.int m) ∧ H2 l = some (.lst xs) ∧ H2 b = some (.lst ys) ∧ l ≠ b ∧ 0 ≤ n ∧ n ≤ m ∧ m ≤ xs.length ∧ xs.length + ys.length ≤ sizeLine ∧
      RB X rest D σ (upd H2 l (.lst (xs.take n.toNat ++ ys ++ xs.drop m.toNat))))
    (hm : ∀ {Q Q' : VK}, (∀ v H, Q v H → Q' v H) → K H Q → K H Q') (hs : swapsWithSole [.Subscript a (.Slice (some lo) (some hi) none p2) p'] e pos.line X.env = pure false := by rfl) (hw : swappedStores [.Subscript a (.Slice (some lo) (some hi) none p2) p'] e X.env = pure none := by rfl)
    (h1 : (assignEach [.Subscript a (.Slice (some lo) (some hi) none p2) p'] X.env).map (·.2) = [assign (.Subscript a (.Slice (some lo) (some hi) none p2) p') X.env] := by rfl) : RB X (.Assign [.Subscript a (.Slice (some lo) (some hi) none p2) p'] e pos :: rest) D σ H :=
  RB.cons (RS.of (ps_asg pe_RE (pg_slc pe_RE pe_RE pe_RE) hs hw h1) (hv.go (hm (fun v H2 ⟨l, b, xs, ys, n, m, e0, h1, h2, h3, h4, h5, h6, h7, h8, h9, h10, h11⟩ => h1 _ (h2 _ (h3 _ ⟨l, b, xs, ys, n, m, rfl, e0, rfl, rfl, h4, h5, h6, h7, h8, h9, h10, h11⟩))) k)))
/-- any one target -/
theorem q_tgt {tg : Expr} {g : TG} (hg : PG X tg g) (hv : EvG X R e σ H K) (k : K H fun v H2 => g v σ H2 (RB X rest D)) (hs : swapsWithSole [tg] e pos.line X.env = pure false := by rfl) (hw : swappedStores [tg] e X.env = pure none := by rfl)
    (h1 : (assignEach [tg] X.env).map (·.2) = [assign tg X.env] := by rfl) : RB X (.Assign [tg] e pos :: rest) D σ H :=
  RB.cons (RS.of (ps_asg pe_RE hg hs hw h1) (hv.go k))
/-- l.append(e) -/
theorem q_app {l : Addr} {xs : List V} {p3 p4 : Pos} (ho : Vl X a σ H (.ref l)) (hl : H l = some (.lst xs)) (hv : EvG X R e σ H K) (k : K H fun v H2 => ∃ xs, H2 l = some (.lst xs) ∧ xs.length < sizeLine ∧ RB X rest D σ (upd H2 l (.lst (xs ++ [v]))))
    (hm : ∀ {Q Q' : VK}, (∀ v H, Q v H → Q' v H) → K H Q → K H Q') (hbase : attributeBase a "append" X.env (eval a X.env) = eval a X.env := by rfl)
    (hfew : ((backTo p4 (starEach [e] X.env)).all (fun x => !x.1) && (backToKw p4 (keywordEach [] X.env)).all (fun x => x.1.isSome)
      && decide (([e] : List Expr).length + ([] : List Keyword).length + (if ([] : List Keyword).isEmpty then 0 else 1) < 30)) = true := by rfl)
    (hline : (p3.endLine == p4.line) = true := by rfl) (hst : starEach [e] X.env = (false, eval e X.env) :: starEach [] X.env := by rfl) (hplain : (backTo p4 (starEach [] X.env)).any (·.1) = false := by rfl)
    (hs : swapsWith (.Call (.Attribute a "append" p3) [e] [] p4) none pos.line X.env = pure false := by rfl) : RB X (.Expr (.Call (.Attribute a "append" p3) [e] [] p4) pos :: rest) D σ H :=
  RB.cons (RS.of (ps_expr (pe_bm PySem.F.plainAttrs_list PySem.F.slot_list_append PySem.F.type_list_append mt_append pe_RE (pa_cons pe_RE pa_nil hst) hbase hfew hline hst hplain) hs)
    (ho _ ⟨.inl ⟨rfl, _, SqL.of hl⟩, hv.go (hm (fun v H2 ⟨ys, h1, h2, h3⟩ => ⟨l, ys, v, rfl, rfl, h1, h2, h3⟩) k)⟩))
/-- i += n, i -= n, s += t -/
theorem q_augI (i : Nat) {n : Str} {m j : Int} (hi0 : σ[i]? = some (some (.int m))) (hv : EvV X R e σ H (.int j)) (k : ∀ H2, R H H2 → RB X rest D (σ.set i (some (.int (m + j)))) H2) (hN : X.N.Nodup) (hi : X.N[i]? = some n := by rfl) (hx : Loc X.env.scope n := by first | exact Or.inl rfl | exact Or.inr rfl)
    (hf : X.fn n = true ∨ X.env.scope.names.lookup n = some .local := by first | exact .inl rfl | exact .inr rfl) : RB X (.AugAssign (.Name n p') .Add e pos :: rest) D σ H := RB.cons (RS.of (ps_aug hN hi hx pe_RE ip_add hf) ⟨_, hi0, hv H (Rl.rfl H) _ fun H2 r2 => ⟨m, j, rfl, rfl, k H2 r2⟩⟩)
theorem q_augM (i : Nat) {n : Str} {m j : Int} (hi0 : σ[i]? = some (some (.int m))) (hv : EvV X R e σ H (.int j)) (k : ∀ H2, R H H2 → RB X rest D (σ.set i (some (.int (m - j)))) H2) (hN : X.N.Nodup) (hi : X.N[i]? = some n := by rfl) (hx : Loc X.env.scope n := by first | exact Or.inl rfl | exact Or.inr rfl)
    (hf : X.fn n = true ∨ X.env.scope.names.lookup n = some .local := by first | exact .inl rfl | exact .inr rfl) : RB X (.AugAssign (.Name n p') .Sub e pos :: rest) D σ H := RB.cons (RS.of (ps_aug hN hi hx pe_RE ip_sub hf) ⟨_, hi0, hv H (Rl.rfl H) _ fun H2 r2 => ⟨m, j, rfl, rfl, k H2 r2⟩⟩)
theorem ip_str : PIp X .Add (fun x y H Q => ∃ i j, x = .str i ∧ y = .str j ∧ i.length + j.length ≤ sizeLine ∧ Q (.str (i ++ j)) H) := fun pins s σ H x y v u Q I r1 r2 h => iop_add_str pins s σ H x y v u Q I r1 r2 h
theorem q_augS (i : Nat) {n : Str} {m j : Str} (hi0 : σ[i]? = some (some (.str m))) (hv : EvV X R e σ H (.str j)) (hz : m.length + j.length ≤ sizeLine) (k : ∀ H2, R H H2 → RB X rest D (σ.set i (some (.str (m ++ j)))) H2) (hN : X.N.Nodup) (hi : X.N[i]? = some n := by rfl)
    (hx : Loc X.env.scope n := by first | exact Or.inl rfl | exact Or.inr rfl) (hf : X.fn n = true ∨ X.env.scope.names.lookup n = some .local := by first | exact .inl rfl | exact .inr rfl) : RB X (.AugAssign (.Name n p') .Add e pos :: rest) D σ H :=
  RB.cons (RS.of (ps_aug hN hi hx pe_RE ip_str hf) ⟨_, hi0, hv H (Rl.rfl H) _ fun H2 r2 => ⟨m, j, rfl, rfl, hz, k H2 r2⟩⟩)
/-! ### loops -/
/-- for x in a list that stands -/
theorem q_forL (j : Nat) {n : Str} {q : Addr} {xs : List V} (Pv : Nat → L2.St → Hp → Prop) (h : EvV X R e σ H (.ref q)) (hx : Kp R H fun H => SqL X.K H q xs) (h0 : ∀ H1, R H H1 → Pv 0 σ H1) (hl : ∀ i σ' H', i ≤ xs.length → Pv i σ' H' → SqL X.K H' q xs)
    (ht : ∀ i x σ' H', xs[i]? = some x → Pv i σ' H' → RB X bd { D with nx := Pv (i + 1), ct := Pv (i + 1), bk := RB X rest D } (σ'.set j (some x)) H') (hd : ∀ σ' H', Pv xs.length σ' H' → RB X rest D σ' H') (hN : X.N.Nodup) (hi : X.N[j]? = some n := by rfl)
    (hx' : Loc X.env.scope n := by first | exact Or.inl rfl | exact Or.inr rfl) (hf : X.fn n = true ∨ X.env.scope.names.lookup n = some .local := by first | exact .inl rfl | exact .inr rfl) (hp : PassesOwn (model X.prog X.w) X.A X.env X.xe := by exact PassesOwn.never) (hc : X.calm = true := by rfl) (hfs : ∀ x, foldedSetIterable e X.env x = pure x := by intro _; rfl) :
    RB X (.For (.Name n p') e bd [] pos :: rest) D σ H :=
  RB.cons (RS.of (ps_for hp hc (pi_list pe_RE) (pg_name hN hi hx' hf) pss_RB hfs) (h H (Rl.rfl H) _ fun H1 r1 => ⟨q, rfl, ⟨xs, hx H1 r1⟩, for_list (K := X.K) (a := q) (xs := xs) Pv (h0 H1 r1) hl (fun i x σ' H' hi p => ht i x σ' H' hi p) hd⟩))
/-- .. in a new list -/
theorem q_forN (j : Nat) {n : Str} {xs : List V} (Pv : Addr → Nat → L2.St → Hp → Prop) (h : EvN X R e σ H xs) (h0 : ∀ q H1, H q = none → R H H1 → H1 q = some (.lst xs) → Pv q 0 σ H1) (hl : ∀ q i σ' H', i ≤ xs.length → Pv q i σ' H' → SqL X.K H' q xs)
    (ht : ∀ q i x σ' H', xs[i]? = some x → Pv q i σ' H' → RB X bd { D with nx := Pv q (i + 1), ct := Pv q (i + 1), bk := RB X rest D } (σ'.set j (some x)) H') (hd : ∀ q σ' H', Pv q xs.length σ' H' → RB X rest D σ' H') (hN : X.N.Nodup) (hi : X.N[j]? = some n := by rfl)
    (hx' : Loc X.env.scope n := by first | exact Or.inl rfl | exact Or.inr rfl) (hf : X.fn n = true ∨ X.env.scope.names.lookup n = some .local := by first | exact .inl rfl | exact .inr rfl) (hp : PassesOwn (model X.prog X.w) X.A X.env X.xe := by exact PassesOwn.never) (hc : X.calm = true := by rfl) (hfs : ∀ x, foldedSetIterable e X.env x = pure x := by intro _; rfl) :
    RB X (.For (.Name n p') e bd [] pos :: rest) D σ H :=
  RB.cons (RS.of (ps_for hp hc (pi_list pe_RE) (pg_name hN hi hx' hf) pss_RB hfs) (h H (Rl.rfl H) _ fun q H1 hq r1 h1 => ⟨q, rfl, ⟨xs, SqL.of h1⟩, for_list (K := X.K) (a := q) (xs := xs) (Pv q) (h0 q H1 hq r1 h1) (hl q) (fun i x σ' H' hi p => ht q i x σ' H' hi p) (hd q)⟩))
/-- for x in range(m) -/
theorem q_forR (j : Nat) {n : Str} {m : Int} {pr pc : Pos} (Pv : Nat → L2.St → Hp → Prop) (h : EvV X R e σ H (.int m)) (hb : 0 ≤ m ∧ m ≤ 100000) (h0 : ∀ H1, R H H1 → Pv 0 σ H1)
    (ht : ∀ (i : Nat) σ' H', (i : Int) < m → Pv i σ' H' → RB X bd { D with nx := Pv (i + 1), ct := Pv (i + 1), bk := RB X rest D } (σ'.set j (some (.int (i : Int)))) H') (hd : ∀ σ' H', Pv m.toNat σ' H' → RB X rest D σ' H') (hm : X.mg "range" = none) (hN : X.N.Nodup) (hi : X.N[j]? = some n := by rfl)
    (hx' : Loc X.env.scope n := by first | exact Or.inl rfl | exact Or.inr rfl) (hf : X.fn n = true ∨ X.env.scope.names.lookup n = some .local := by first | exact .inl rfl | exact .inr rfl) (hp : PassesOwn (model X.prog X.w) X.A X.env X.xe := by exact PassesOwn.never) (hc : X.calm = true := by rfl) (hg : Gl X "range" := by rfl)
    (hs : starEach [e] X.env = (false, eval e X.env) :: starEach [] X.env := by rfl) (hs1 : starEach [e] X.env = [(false, eval e X.env)] := by rfl) :
    RB X (.For (.Name n p') (.Call (.Name "range" pr) [e] [] pc) bd [] pos :: rest) D σ H :=
  RB.cons (RS.of (ps_for hp hc (pi_range1 hg hm (pa_cons pe_RE pa_nil hs) hs1) (pg_name hN hi hx' hf) pss_RB) (h H (Rl.rfl H) _ fun H1 r1 => ⟨m, rfl, by omega, by omega, for_range (lo := 0) (n := m.toNat) Pv (h0 H1 r1) (fun i σ' H' hi p => by
    show RB X bd _ (σ'.set j (some (.int (0 + (i : Int))))) H'
    rw [Int.zero_add]
    exact ht i σ' H' (by omega) p) hd⟩))
/-- for x, y in enumerate(list) -/
theorem q_forE (j j' : Nat) {n n' : Str} {xs : List V} {px py pr pc pt : Pos} {kk} {Pq : Addr → Prop} (Pv : Addr → Nat → L2.St → Hp → Prop) (h : EvP X R e σ H (fun v H => ∃ q, v = .ref q ∧ Pq q ∧ SqL X.K H q xs)) (h0 : ∀ q H1, R H H1 → Pq q → Kp R H1 (fun H => SqL X.K H q xs) → Pv q 0 σ H1)
    (hl : ∀ q i σ' H', i ≤ xs.length → Pv q i σ' H' → SqL X.K H' q xs)
    (ht : ∀ q (i : Nat) x σ' H' T, xs[i]? = some x → Pv q i σ' H' → H' T = none → RB X bd { D with nx := Pv q (i + 1), ct := Pv q (i + 1), bk := RB X rest D } ((σ'.set j (some (.int (i : Int)))).set j' (some x)) (upd H' T (.tup [.int (i : Int), x])))
    (hd : ∀ q σ' H', Pv q xs.length σ' H' → RB X rest D σ' H') (hm : X.mg "enumerate" = none) (hN : X.N.Nodup) (hi : X.N[j]? = some n := by rfl) (hi' : X.N[j']? = some n' := by rfl)
    (hx : Loc X.env.scope n := by first | exact Or.inl rfl | exact Or.inr rfl) (hx' : Loc X.env.scope n' := by first | exact Or.inl rfl | exact Or.inr rfl) (hf : X.fn n = true ∨ X.env.scope.names.lookup n = some .local := by first | exact .inl rfl | exact .inr rfl) (hf' : X.fn n' = true ∨ X.env.scope.names.lookup n' = some .local := by first | exact .inl rfl | exact .inr rfl)
    (hp : PassesOwn (model X.prog X.w) X.A X.env X.xe := by exact PassesOwn.never) (hc : X.calm = true := by rfl) (hg : Gl X "enumerate" := by rfl) (hs : starEach [e] X.env = [(false, eval e X.env)] := by rfl)
    (e1 : (assignEach [.Name n px, .Name n' py] X.env).length = 2 := by rfl) (e2 : (assignEach [.Name n px, .Name n' py] X.env).findIdx? (·.1) = none := by rfl)
    (e3 : (assignEach [.Name n px, .Name n' py] X.env).map (·.2) = assign (.Name n px) X.env :: (assignEach [.Name n' py] X.env).map (·.2) := by rfl) (e4 : (assignEach [.Name n' py] X.env).map (·.2) = assign (.Name n' py) X.env :: (assignEach [] X.env).map (·.2) := by rfl) :
    RB X (.For (.Tuple [.Name n px, .Name n' py] kk pt) (.Call (.Name "enumerate" pr) [e] [] pc) bd [] pos :: rest) D σ H :=
  RB.cons (RS.of (ps_for hp hc (pi_enum hg hm (pa_cons pe_RE pa_nil hs) hs) (pg_tup hc (pgs_cons (pg_name hN hi hx hf) (pgs_cons (pg_name hN hi' hx' hf') pgs_nil e4) e3) e1 e2) pss_RB) (h H (Rl.rfl H) _ fun v H1 r1 k1 => by
    obtain ⟨q, rfl, hq0, h1⟩ := k1.now
    refine ⟨q, xs, rfl, h1, ?_⟩
    refine ⟨fun i m σ H => m = xs.length - i ∧ i ≤ xs.length ∧ Pv q i σ H, ⟨xs.length, by simp, Nat.zero_le _, h0 q H1 r1 hq0 (k1.imp fun H2 _ ⟨q', e', _, h'⟩ => by cases e'; exact h')⟩, ?_⟩
    rintro i m σ' H' ⟨rfl, hi, p⟩
    have hq := hl q i σ' H' hi p
    by_cases hlt : i < xs.length
    · refine .inr ⟨⟨xs, xs[i], hq, by simp [hlt]⟩, Pv q (i + 1), fun σ2 H2 p' => ⟨xs.length - (i + 1), by omega, rfl, hlt, p'⟩, fun x H2 y => ?_⟩
      obtain ⟨T, x', rfl, hT, rfl, hx⟩ := y
      refine ⟨T, [.int (i : Int), x'], rfl, SqT.of upd_same, rfl, .int (i : Int), [x'], rfl, ?_⟩
      refine ⟨x', [], rfl, rfl, ?_⟩
      exact ht q i x' σ' H' T (hx xs hq) p hT
    · refine .inl ⟨⟨xs, hq, by omega⟩, ?_⟩
      have : i = xs.length := by omega
      subst this
      exact hd q σ' H' p))
/-- while -/
theorem q_while (Wv : Nat → L2.St → Hp → Prop) (m0 : Nat) (h0 : Wv m0 σ H)
    (ht : ∀ m σ' H', Wv m σ' H' → ∃ b, EvT X R c σ' H' b ∧ (b = true → ∀ H1, R H' H1 → ∃ N : L2.St → Hp → Prop, (∀ σ2 H2, N σ2 H2 → ∃ m', m' < m ∧ Wv m' σ2 H2) ∧ RB X bd { D with nx := N, ct := N, bk := RB X rest D } σ' H1) ∧ (b = false → ∀ H1, R H' H1 → RB X rest D σ' H1))
    (hp : PassesOwn (model X.prog X.w) X.A X.env X.xe := by exact PassesOwn.never) : RB X (.While c bd [] pos :: rest) D σ H :=
  RB.cons (RS.of (ps_while hp pt_RT pss_RB) ⟨Wv, ⟨m0, h0⟩, fun m σ' H' w => by
    obtain ⟨b, hb, h1, h2⟩ := ht m σ' H' w
    refine hb H' (Rl.rfl H') _ fun H1 r1 => ?_
    cases b with
    | true => rw [if_pos rfl]; exact h1 rfl H1 r1
    | false => rw [if_neg Bool.false_ne_true]; exact h2 rfl H1 r1⟩)
end
/-! ### what is walked -/
def RI (X : Cx) (tg e : Expr) : TI := fun σ H Q => ∀ pins s, Inv X pins σ H s → wpAny (model X.prog X.w) X.A (eval e X.env) (fun v s1 => wpAny (model X.prog X.w) X.A (pyIter v) (PIE X pins σ tg Q) X.xe s1) X.xe s
def EvI (X : Cx) (R : Hp → Hp → Prop) (tg e : Expr) (σ : L2.St) (H : Hp) (xs : List V) : Prop := ∀ H1, R H H1 → ∀ Q : It → Hp → Prop, (∀ J G H2, R H1 H2 → Walk J xs.length G (YAt xs) → Kp R H2 G → Q J H2) → RI X tg e σ H1 Q
def signs (s : Str) : List V := s.cps.toList.map fun c => .str ⟨#[c]⟩
def intsV (n : Nat) : List V := (List.range n).map fun (i : Nat) => V.int (i : Int)
section
variable {X : Cx} {R : Hp → Hp → Prop} [Rl R] {σ : L2.St} {H H' : Hp} {tg a b c e elt iter : Expr} {es ifs : List Expr} {x y z v : V} {pos p' : Pos} {K : Hp → VK → Prop} {bd rest : List Stmt} {D : Ends}
theorem pi_RI : PI X tg e (RI X tg e) := ⟨fun pins s σ H Q I h => h pins s I⟩
theorem RI.of {t : TI} {Q : It → Hp → Prop} (h : PI X tg e t) (q : t σ H Q) : RI X tg e σ H Q := fun pins s I => h.run pins s σ H Q I q
theorem i_list {xs : List V} (h : EvP X R e σ H (fun v H => ∃ q, v = .ref q ∧ SqL X.K H q xs)) : EvI X R tg e σ H xs := fun H1 r1 Q q => RI.of (pi_list pe_RE) (h H1 r1 _ fun v H2 r2 k2 => by
  obtain ⟨a, rfl, h2⟩ := k2.now
  exact ⟨a, rfl, ⟨xs, h2⟩, q _ _ H2 r2 walk_list (k2.imp fun H3 _ ⟨a', e', h'⟩ => by cases e'; exact h')⟩)
theorem i_str {s : Str} (h : EvV X R e σ H (.str s)) : EvI X R tg e σ H (signs s) := fun H1 r1 Q q => RI.of (pi_str pe_RE) (h H1 r1 _ fun H2 r2 => ⟨s, rfl, q _ (fun _ => True) H2 r2 (by
  have hl : (signs s).length = s.cps.size := by simp [signs]
  rw [hl]
  refine walk_str.mono (fun _ _ => trivial) fun i H x H' _ _ ⟨e1, k, e2, e3⟩ => ⟨e1, ?_⟩
  rw [e3]
  simp [signs, e2]) fun _ _ => trivial⟩)
theorem i_range {m : Int} {pr pc : Pos} (h : EvV X R e σ H (.int m)) (hb : 0 ≤ m ∧ m ≤ 100000) (hm : X.mg "range" = none) (hg : Gl X "range" := by rfl) (hs : starEach [e] X.env = (false, eval e X.env) :: starEach [] X.env := by rfl) (hs1 : starEach [e] X.env = [(false, eval e X.env)] := by rfl) :
    EvI X R tg (.Call (.Name "range" pr) [e] [] pc) σ H (intsV m.toNat) := fun H1 r1 Q q => RI.of (pi_range1 hg hm (pa_cons pe_RE pa_nil hs) hs1) (h H1 r1 _ fun H2 r2 => ⟨m, rfl, by omega, by omega, q _ (fun _ => True) H2 r2 (by
  have hl : (intsV m.toNat).length = m.toNat := by simp [intsV]
  rw [hl]
  refine walk_range.mono (fun _ _ => trivial) fun i H x H' hi _ ⟨e1, e2⟩ => ⟨e1, ?_⟩
  rw [e2]
  show _ = some (V.int (0 + (i : Int)))
  rw [Int.zero_add]
  simp [intsV, hi]) fun _ _ => trivial⟩)
theorem q_forI (j : Nat) {n : Str} {xs : List V} (Pv : (Hp → Prop) → Nat → L2.St → Hp → Prop) (h : EvI X R (.Name n p') e σ H xs) (h0 : ∀ G H1, R H H1 → Kp R H1 G → Pv G 0 σ H1) (hG : ∀ G i σ' H', i ≤ xs.length → Pv G i σ' H' → G H')
    (ht : ∀ G i x σ' H', xs[i]? = some x → Pv G i σ' H' → RB X bd { D with nx := Pv G (i + 1), ct := Pv G (i + 1), bk := RB X rest D } (σ'.set j (some x)) H') (hd : ∀ G σ' H', Pv G xs.length σ' H' → RB X rest D σ' H') (hN : X.N.Nodup) (hi : X.N[j]? = some n := by rfl)
    (hx' : Loc X.env.scope n := by first | exact Or.inl rfl | exact Or.inr rfl) (hf : X.fn n = true ∨ X.env.scope.names.lookup n = some .local := by first | exact .inl rfl | exact .inr rfl) (hp : PassesOwn (model X.prog X.w) X.A X.env X.xe := by exact PassesOwn.never) (hc : X.calm = true := by rfl) (hfs : ∀ x, foldedSetIterable e X.env x = pure x := by intro _; rfl) :
    RB X (.For (.Name n p') e bd [] pos :: rest) D σ H :=
  RB.cons (RS.of (ps_for hp hc pi_RI (pg_name hN hi hx' hf) pss_RB hfs) (h H (Rl.rfl H) _ fun J G H2 r2 wk kg => for_it wk (Pv G) (h0 G H2 r2 kg) (fun i σ' H' hi p => hG G i σ' H' hi p) (fun i x σ' H' H'' hi p ⟨e1, e2⟩ => by
    subst e1
    exact ht G i x σ' _ e2 p) (hd G)))
/-- the element in whatever block -/
def REb (X : Cx) (scope : Scope) (elt : Expr) : TE := fun σ H Q => ∀ s0 H0 C cl fp, RE (X.blk s0 H0 scope (compEnvC scope cl C X.env) fp) elt σ H Q
def RTb (X : Cx) (scope : Scope) (elt : Expr) : TT := fun σ H Q => ∀ s0 H0 C cl fp, RT (X.blk s0 H0 scope (compEnvC scope cl C X.env) fp) elt σ H Q
/-- one for, no if: the element at turn i is ys i -/
theorem lc_go (j : Nat) {n : Str} {xs ys : List V} {scope : Scope} (h : EvI X Ex (.Name n p') iter σ H xs) (hl : ys.length = xs.length) (hz : xs.length ≤ 100000) (hj : j < σ.length)
    (he : ∀ s0 H0 C cl fp (i : Nat) x y H1, Ex H H1 → xs[i]? = some x → ys[i]? = some y → EvV (X.blk s0 H0 scope (compEnvC scope cl C X.env) fp) Ex elt ((wipe σ [j]).set j (some x)) H1 y) :
    ∀ H1, Ex H H1 → ∀ Q : VK, KN Ex ys H1 Q → tLc (RI X (.Name n p') iter) (gName j) tYes (REb X scope elt) [j] σ H1 Q := fun H1 r1 Q q => h H1 r1 _ fun J G H2 r2 wk kg D hD =>
  lc_it wk (fun i H' => Ex H2 H' ∧ H' D = some (.lst (ys.take i))) ⟨Ex.nw hD, by rw [List.take_zero]; exact upd_same⟩ (fun i H' _ p => kg H' p.1) (fun i x H3 H4 hi p ⟨e1, e2⟩ => by
    subst e1
    refine ⟨?_, ?_⟩
    · show ((wipe σ [j]).set j (some x)).set j none = wipe σ [j]
      show ((σ.set j none).set j (some x)).set j none = σ.set j none
      rw [List.set_set, List.set_set]
    · show REb X scope elt ((wipe σ [j]).set j (some x)) H4 (fun y H5 => ∃ acc, H5 D = some (.lst acc) ∧ acc.length < sizeLine ∧ Ex H2 (upd H5 D (.lst (acc ++ [y]))) ∧ (upd H5 D (.lst (acc ++ [y]))) D = some (.lst (ys.take (i + 1))))
      intro s0 H0 C cl fp
      obtain ⟨y, hy⟩ : ∃ y, ys[i]? = some y := ⟨ys[i]'(by omega), by simp [show i < ys.length by omega]⟩
      refine (he s0 H0 C cl fp i x y H4 (r1.tr (r2.tr p.1)) e2 hy).go fun H5 r5 => ⟨ys.take i, r5 _ _ p.2, Nat.lt_of_le_of_lt (show (ys.take i).length ≤ 100000 by rw [List.length_take]; omega) (by decide), (p.1.tr r5).mu hD, ?_⟩
      rw [List.take_succ, hy]
      exact upd_same) fun H' p => q D H' (none_back r2 hD) (r2.tr p.1) (by rw [p.2, ← hl, List.take_length])
theorem n_lc (j : Nat) {n : Str} {xs ys : List V} {scope : Scope} (h : EvI X Ex (.Name n p') iter σ H xs) (hl : ys.length = xs.length) (hz : xs.length ≤ 100000) (hj : j < σ.length)
    (he : ∀ s0 H0 C cl fp (i : Nat) x y H1, Ex H H1 → xs[i]? = some x → ys[i]? = some y → EvV (X.blk s0 H0 scope (compEnvC scope cl C X.env) fp) Ex elt ((wipe σ [j]).set j (some x)) H1 y)
    (hN : X.N.Nodup) (ok : BlkOk X.N X.env.scope scope [(n, j)] := by exact blkOk_by (by decide +kernel)) (hc : X.calm = true := by rfl) (hi : X.N[j]? = some n := by rfl)
    (hx' : ∀ s0 H0 C cl fp, Loc (X.blk s0 H0 scope (compEnvC scope cl C X.env) fp).env.scope n := by first | exact fun _ _ _ _ _ => Or.inl rfl | exact fun _ _ _ _ _ => Or.inr rfl)
    (hf : ∀ s0 H0 C cl fp, (X.blk s0 H0 scope (compEnvC scope cl C X.env) fp).fn n = true ∨ (X.blk s0 H0 scope (compEnvC scope cl C X.env) fp).env.scope.names.lookup n = some .local := by first | exact fun _ _ _ _ _ => .inr rfl | exact fun _ _ _ _ _ => .inl rfl)
    (hfs : ∀ x, foldedSetIterable iter X.env x = pure x := by intro _; rfl) :
    EvN X Ex (.ListComp elt [⟨.Name n p', iter, [], 0⟩] scope pos) σ H ys := fun H1 r1 Q q =>
  RE.of (pe_lc (own := [(n, j)]) (g := gName j) (tt := tYes) (te := REb X scope elt) hc hN pi_RI ok (fun s0 H0 C cl fp => pg_name (X := X.blk s0 H0 scope (compEnvC scope cl C X.env) fp) hN hi (hx' s0 H0 C cl fp) (hf s0 H0 C cl fp)) (fun _ _ _ _ _ => pts_nil)
    (fun s0 H0 C cl fp => ⟨fun pins s σ H Q I h => h s0 H0 C cl fp pins s I⟩) hfs) (lc_go j h hl hz hj he H1 r1 Q q)
/-- name = [..] -/
theorem q_setLc (i j : Nat) {n m : Str} {xs ys : List V} {scope : Scope} {spos : Pos} {py : Pos} (h : EvI X Ex (.Name n p') iter σ H xs) (hl : ys.length = xs.length) (hz : xs.length ≤ 100000) (hj : j < σ.length)
    (he : ∀ s0 H0 C cl fp (i : Nat) x y H1, Ex H H1 → xs[i]? = some x → ys[i]? = some y → EvV (X.blk s0 H0 scope (compEnvC scope cl C X.env) fp) Ex elt ((wipe σ [j]).set j (some x)) H1 y)
    (k : ∀ p H2, H p = none → Ex H H2 → H2 p = some (.lst ys) → RB X rest D (σ.set i (some (.ref p))) H2)
    (hN : X.N.Nodup) (hsw : swapsWith (.ListComp elt [⟨.Name n p', iter, [], 0⟩] scope pos) (some (.Name m py)) spos.line X.env = pure true) (hy : X.N[i]? = some m := by rfl) (hyl : X.env.scope.names.lookup m = some .local := by rfl) (ok : BlkOk X.N X.env.scope scope [(n, j)] := by exact blkOk_by (by decide +kernel)) (hc : X.calm = true := by rfl) (hi : X.N[j]? = some n := by rfl)
    (hx' : ∀ s0 H0 C cl fp, Loc (X.blk s0 H0 scope (compEnvC scope cl C X.env) fp).env.scope n := by first | exact fun _ _ _ _ _ => Or.inl rfl | exact fun _ _ _ _ _ => Or.inr rfl)
    (hf : ∀ s0 H0 C cl fp, (X.blk s0 H0 scope (compEnvC scope cl C X.env) fp).fn n = true ∨ (X.blk s0 H0 scope (compEnvC scope cl C X.env) fp).env.scope.names.lookup n = some .local := by first | exact fun _ _ _ _ _ => .inr rfl | exact fun _ _ _ _ _ => .inl rfl)
    (hfs : ∀ x, foldedSetIterable iter X.env x = pure x := by intro _; rfl) :
    RB X (.Assign [.Name m py] (.ListComp elt [⟨.Name n p', iter, [], 0⟩] scope pos) spos :: rest) D σ H :=
  RB.cons (RS.of (ps_setLc (i := i) (own := [(n, j)]) (g := gName j) (tt := tYes) (te := REb X scope elt) hc hN hy hyl hsw pi_RI ok (fun s0 H0 C cl fp => pg_name (X := X.blk s0 H0 scope (compEnvC scope cl C X.env) fp) hN hi (hx' s0 H0 C cl fp) (hf s0 H0 C cl fp)) (fun _ _ _ _ _ => pts_nil)
    (fun s0 H0 C cl fp => ⟨fun pins s σ H Q I h => h s0 H0 C cl fp pins s I⟩) hfs) (lc_go j h hl hz hj he H (Ex.rf H) _ fun p H2 n r hp => k p H2 n r hp))
/-- with an if: a part of the items, kept as they are -/
theorem n_lcIf (j : Nat) {n : Str} {xs : List V} {scope : Scope} {p2 : Pos} (f : Nat → Bool) (h : EvI X Ex (.Name n p') iter σ H xs) (hz : xs.length ≤ 100000) (hj : j < σ.length)
    (ht : ∀ s0 H0 C cl fp (i : Nat) x H1, Ex H H1 → xs[i]? = some x → EvT (X.blk s0 H0 scope (compEnvC scope cl C X.env) fp) Ex c ((wipe σ [j]).set j (some x)) H1 (f i))
    (hN : X.N.Nodup) (ok : BlkOk X.N X.env.scope scope [(n, j)] := by exact blkOk_by (by decide +kernel)) (hc : X.calm = true := by rfl) (hi : X.N[j]? = some n := by rfl)
    (hx' : ∀ s0 H0 C cl fp, Loc (X.blk s0 H0 scope (compEnvC scope cl C X.env) fp).env.scope n := by first | exact fun _ _ _ _ _ => Or.inl rfl | exact fun _ _ _ _ _ => Or.inr rfl)
    (hv : ∀ s0 H0 C cl fp, Vis (X.blk s0 H0 scope (compEnvC scope cl C X.env) fp).env.scope n := by first | exact fun _ _ _ _ _ => Or.inl rfl | exact fun _ _ _ _ _ => Or.inr (Or.inl rfl))
    (hf : ∀ s0 H0 C cl fp, (X.blk s0 H0 scope (compEnvC scope cl C X.env) fp).fn n = true ∨ (X.blk s0 H0 scope (compEnvC scope cl C X.env) fp).env.scope.names.lookup n = some .local := by first | exact fun _ _ _ _ _ => .inr rfl | exact fun _ _ _ _ _ => .inl rfl)
    (hfs : ∀ x, foldedSetIterable iter X.env x = pure x := by intro _; rfl) (hd : (n == ("__debug__" : Str)) = false := by decide) (hcd : (n == ("__classdict__" : Str)) = false := by decide) :
    EvP X Ex (.ListComp (.Name n p2) [⟨.Name n p', iter, [c], 0⟩] scope pos) σ H (fun v H => ∃ p acc, v = .ref p ∧ H p = some (.lst acc) ∧ acc.length = ((List.range xs.length).filter f).length) := fun H1 r1 Q q =>
  RE.of (pe_lc (own := [(n, j)]) (g := gName j) (tt := RTb X scope c) (te := tVar j) hc hN pi_RI ok (fun s0 H0 C cl fp => pg_name (X := X.blk s0 H0 scope (compEnvC scope cl C X.env) fp) hN hi (hx' s0 H0 C cl fp) (hf s0 H0 C cl fp))
    (fun s0 H0 C cl fp => pts_one ⟨fun pins s σ H Q I h => h s0 H0 C cl fp pins s I⟩)
    (fun s0 H0 C cl fp => pe_var (X := X.blk s0 H0 scope (compEnvC scope cl C X.env) fp) hi (hv s0 H0 C cl fp) hd hcd) hfs) (h H1 r1 _ fun J G H2 r2 wk kg D hD =>
    lc_it wk (fun i H' => Ex H2 H' ∧ ∃ acc, H' D = some (.lst acc) ∧ acc.length = ((List.range i).filter f).length) ⟨Ex.nw hD, [], upd_same, rfl⟩ (fun i H' _ p => kg H' p.1) (fun i x H3 H4 hi p ⟨e1, e2⟩ => by
      subst e1
      obtain ⟨p1, acc, p2, p3⟩ := p
      refine ⟨?_, ?_⟩
      · show ((σ.set j none).set j (some x)).set j none = σ.set j none
        rw [List.set_set, List.set_set]
      · intro s0 H0 C cl fp
        refine ht s0 H0 C cl fp i x H4 (r1.tr (r2.tr p1)) e2 H4 (Ex.rf H4) _ fun H5 r5 => ?_
        have hle := List.length_filter_le f (List.range i)
        rw [List.length_range] at hle
        cases hb : f i with
        | true =>
          rw [if_pos rfl]
          refine ⟨x, ?_, acc, r5 _ _ p2, Nat.lt_of_le_of_lt (by omega : acc.length ≤ 100000) (by decide), (p1.tr r5).mu hD, _, upd_same, ?_⟩
          · show ((σ.set j none).set j (some x))[j]? = some (some x)
            rw [List.getElem?_set_self (by simpa using hj)]
          · rw [List.range_succ, List.filter_append, List.length_append, List.length_append, p3]
            simp [hb]
        | false =>
          rw [if_neg Bool.false_ne_true]
          refine ⟨p1.tr r5, acc, r5 _ _ p2, ?_⟩
          rw [List.range_succ, List.filter_append, List.length_append, p3]
          simp [hb]) fun H' ⟨p1, acc, p2, p3⟩ => q (.ref D) H' (r2.tr p1) fun H6 r6 => ⟨D, acc, rfl, r6 _ _ p2, p3⟩)
/-- from each heap on -/
theorem ev_up (h : ∀ H1, R H H1 → ∀ Q : VK, K H1 Q → EvG X Ex e σ H1 (fun H2 Q => K H2 Q)) : EvG X R e σ H K := fun H1 r1 Q q => h H1 r1 Q q H1 (Ex.rf H1) Q q
theorem ev_upN {xs : List V} (h : ∀ H1, R H H1 → EvN X Ex e σ H1 xs) : EvN X R e σ H xs := fun H1 r1 Q q => h H1 r1 H1 (Ex.rf H1) Q fun p H2 n r2 hp => q p H2 n (Rl.ex r2) hp
theorem ev_upV (h : ∀ H1, R H H1 → EvV X Ex e σ H1 v) : EvV X R e σ H v := fun H1 r1 Q q => h H1 r1 H1 (Ex.rf H1) Q fun H2 r2 => q H2 (Rl.ex r2)
end
/-! ### told of the very state -/
section
variable {X : Cx} {R : Hp → Hp → Prop} [Rl R] {σ : L2.St} {H H' : Hp} {a b c e : Expr} {es rest' : List Expr} {x y z v : V} {pos apos : Pos} {PA : List V → Hp → Prop} {bd rest : List Stmt} {D : Ends}
theorem q_setX (i : Nat) {n : Str} {p' : Pos} (h : RE X e σ H (fun v H2 => RB X rest D (σ.set i (some v)) H2)) (hN : X.N.Nodup) (hi : X.N[i]? = some n := by rfl) (hx : Loc X.env.scope n := by first | exact Or.inl rfl | exact Or.inr rfl) (hs : swapsWith e (some (.Name n p')) pos.line X.env = pure false := by rfl)
    (hf : X.fn n = true ∨ X.env.scope.names.lookup n = some .local := by first | exact .inl rfl | exact .inr rfl) : RB X (.Assign [.Name n p'] e pos :: rest) D σ H := RB.cons (RS.of (ps_set hN hi hx pe_RE hs hf) h)
theorem q_exprX (h : RE X e σ H (fun _ H2 => RB X rest D σ H2)) (hs : swapsWith e none pos.line X.env = pure false := by rfl) : RB X (.Expr e pos :: rest) D σ H := RB.cons (RS.of (ps_expr pe_RE hs) h)
theorem q_retX (h : RE X e σ H D.rt) : RB X (.Return (some e) pos :: rest) D σ H := RB.cons (RS.of (ps_ret pe_RE) h)
theorem re_call {k : Nat} {f : Addr} {ps : List Str} {sp : Sp} {n : Str} {p : Pos} {Q : VK} (O : Ok X.prog X.w X.K X.mg X.base k f ps sp) (hm : X.mg n = some (.ref f)) (hr : Room k X.A) (ha : EvA X R (e :: es) σ H PA) (hs : ∀ vs H1, R H H1 → Kp R H1 (PA vs) → sp vs H1 Q E0) (hg : Gl X n := by rfl)
    (hdb : (n == ("__debug__" : Str)) = false := by decide) (he : starEach (e :: es) X.env = (false, eval e X.env) :: starEach es X.env := by rfl) (hpl : (backTo pos (starEach es X.env)).any (·.1) = false := by rfl) :
    RE X (.Call (.Name n p) (e :: es) [] pos) σ H Q := by
  obtain ⟨fd, F, b⟩ := O.ex
  refine RE.of (pe_call F hr hg hm O.kp b .nil pass0 pa_RA hdb he hpl) (ha H (Rl.rfl H) _ fun vs H2 r2 k2 => ?_)
  show sp (vs ++ []) H2 Q E0
  rw [List.append_nil]
  exact hs vs H2 r2 k2
theorem re_meth {k : Nat} {f C po : Addr} {ps : List Str} {sp : Sp} {n : Str} {Q : VK} (hc : Cls X.K C) (hm : Meth X.K C n f) (O : Ok X.prog X.w X.K X.mg X.base k f ps sp) (hr : Room k X.A) (ho : Vl X a σ H (.ref po)) (hi : Ins C po n H) (ha : EvA X R (e :: es) σ H PA)
    (hs : ∀ vs H1, R H H1 → Kp R H1 (PA vs) → sp (.ref po :: vs) H1 Q E0) {pl : Sem Bool}
    (hst : starEach (e :: es) X.env = (false, eval e X.env) :: starEach es X.env := by rfl) (hpl : (backTo pos (starEach es X.env)).any (·.1) = false := by rfl)
    (ht : eval (.Call (.Attribute a n apos) (e :: es) [] pos) X.env = (do
      let ov ← eval a X.env
      standAt apos.atName
      let (f, first) ← holding [ov] (getMethod ov n pl)
      callWith pos f first (backTo pos (starEach (e :: es) X.env)) (backToKw pos (keywordEach [] X.env))) := by rfl) :
    RE X (.Call (.Attribute a n apos) (e :: es) [] pos) σ H Q := by
  obtain ⟨fd, F, b⟩ := O.ex
  obtain ⟨dx, fs, h1, h2⟩ := hi
  refine RE.of (pe_meth pe_RE hc hm F hr b .nil pass0 pa_RA hst hpl ht) (ho _ ⟨po, dx, fs, rfl, h1, h2, ha H (Rl.rfl H) _ fun vs H3 r3 k3 => ?_⟩)
  show sp (.ref po :: (vs ++ [])) H3 Q E0
  rw [List.append_nil]
  exact hs vs H3 r3 k3
theorem re_meth0 {k : Nat} {f C po : Addr} {ps : List Str} {sp : Sp} {n : Str} {Q : VK} (hc : Cls X.K C) (hm : Meth X.K C n f) (O : Ok X.prog X.w X.K X.mg X.base k f ps sp) (hr : Room k X.A) (ho : Vl X a σ H (.ref po)) (hi : Ins C po n H) (hs : sp [.ref po] H Q E0) {pl : Sem Bool}
    (ht : eval (.Call (.Attribute a n apos) [] [] pos) X.env = (do
      let ov ← eval a X.env
      standAt apos.atName
      let (f, first) ← holding [ov] (getMethod ov n pl)
      callWith pos f first (backTo pos (starEach [] X.env)) (backToKw pos (keywordEach [] X.env))) := by rfl) :
    RE X (.Call (.Attribute a n apos) [] [] pos) σ H Q := by
  obtain ⟨fd, F, b⟩ := O.ex
  obtain ⟨dx, fs, h1, h2⟩ := hi
  exact RE.of (pe_meth0 pe_RE hc hm F hr b .nil pass0 ht) (ho _ ⟨po, dx, fs, rfl, h1, h2, hs⟩)
end
end PT
namespace PT
open PySem PySem.Spec PyProof.Rows L2
def top (i : Nat) : Stmt := PySem.Challenge.pw_panethread_k91_whole_one_set_of_lines.main.body.getD i (.Pass ⟨0, 0, 0, 0⟩)
/-- a def of the text stands where the name leads -/
abbrev DefF (K : PySem.W.Frag) (p : Str × Option Str) (n q : Str) (st : Stmt) : Prop := ∃ fd, FunD K n q (defArgs st) (defBody st) (defScope st) [] [] (He.fAd K p) fd
def isValB (c : Option PySem.W.CFound) (v : Value) : Bool := match c with
  | some (.val u) => decide (u = v)
  | _ => false
theorem isValB_ok {c : Option PySem.W.CFound} {v : Value} (h : isValB c v = true) : c = some (.val v) := by
  unfold isValB at h
  split at h
  · rw [of_decide_eq_true h]
  · cases h
/-- what of the text the walk leans on -/
structure Txt (K : PySem.W.Frag) (mg : Str → Option Value) : Prop where
  b_isinstance : mg "isinstance" = none
  b_len : mg "len" = none
  b_all : mg "all" = none
  b_range : mg "range" = none
  b_list : mg "list" = none
  b_enumerate : mg "enumerate" = none
  b_max : mg "max" = none
  b_min : mg "min" = none
  b_int : mg "int" = none
  b_bool : mg "bool" = none
  b_str : mg "str" = none
  b_tuple : mg "tuple" = none
  c_LETTERS : ∃ t, mg "LETTERS" = some (.str "abcdefghijklmnopqrstuvwxyz" t)
  c_MOST_SIGNS : ∃ t, mg "MOST_SIGNS" = some (.int 48 t)
  c_MOST_ROWS : ∃ t, mg "MOST_ROWS" = some (.int 48 t)
  c_MOST_LINES : ∃ t, mg "MOST_LINES" = some (.int 96 t)
  c_MOST_STEPS : ∃ t, mg "MOST_STEPS" = some (.int 6000 t)
  g_is_whole : mg "is_whole" = some (.ref (He.ga K "is_whole"))
  d_is_whole : DefF K ("is_whole", none) "is_whole" "is_whole" (top 16)
  g_is_within : mg "is_within" = some (.ref (He.ga K "is_within"))
  d_is_within : DefF K ("is_within", none) "is_within" "is_within" (top 17)
  g_is_letter : mg "is_letter" = some (.ref (He.ga K "is_letter"))
  d_is_letter : DefF K ("is_letter", none) "is_letter" "is_letter" (top 18)
  g_is_row : mg "is_row" = some (.ref (He.ga K "is_row"))
  d_is_row : DefF K ("is_row", none) "is_row" "is_row" (top 19)
  g_need_row : mg "need_row" = some (.ref (He.ga K "need_row"))
  d_need_row : DefF K ("need_row", none) "need_row" "need_row" (top 20)
  g_need_rows : mg "need_rows" = some (.ref (He.ga K "need_rows"))
  d_need_rows : DefF K ("need_rows", none) "need_rows" "need_rows" (top 21)
  g_led : mg "led" = some (.ref (He.ga K "led"))
  d_led : DefF K ("led", none) "led" "led" (top 25)
  g_are_cells : mg "are_cells" = some (.ref (He.ga K "are_cells"))
  d_are_cells : DefF K ("are_cells", none) "are_cells" "are_cells" (top 27)
  g_walked : mg "walked" = some (.ref (He.ga K "walked"))
  d_walked : DefF K ("walked", none) "walked" "walked" (top 28)
  g_is_board : mg "is_board" = some (.ref (He.ga K "is_board"))
  d_is_board : DefF K ("is_board", none) "is_board" "is_board" (top 29)
  g_is_turning : mg "is_turning" = some (.ref (He.ga K "is_turning"))
  d_is_turning : DefF K ("is_turning", none) "is_turning" "is_turning" (top 32)
  g_need_turning : mg "need_turning" = some (.ref (He.ga K "need_turning"))
  d_need_turning : DefF K ("need_turning", none) "need_turning" "need_turning" (top 33)
  g_need_place_turnings : mg "need_place_turnings" = some (.ref (He.ga K "need_place_turnings"))
  d_need_place_turnings : DefF K ("need_place_turnings", none) "need_place" "need_place" (top 34)
  g_straight : mg "straight" = some (.ref (He.ga K "straight"))
  d_straight : DefF K ("straight", none) "straight" "straight" (top 36)
  g_opposite : mg "opposite" = some (.ref (He.ga K "opposite"))
  d_opposite : DefF K ("opposite", none) "opposite" "opposite" (top 37)
  g_need_steps : mg "need_steps" = some (.ref (He.ga K "need_steps"))
  d_need_steps : DefF K ("need_steps", none) "need_steps" "need_steps" (top 40)
  g_worked_through : mg "worked_through" = some (.ref (He.ga K "worked_through"))
  d_worked_through : DefF K ("worked_through", none) "worked_through" "worked_through" (top 41)
  g_by_steps : mg "by_steps" = some (.ref (He.ga K "by_steps"))
  d_by_steps : DefF K ("by_steps", none) "by_steps" "by_steps" (top 42)
  g_working_steps : mg "working_steps" = some (.ref (He.ga K "working_steps"))
  d_working_steps : DefF K ("working_steps", none) "working_steps" "working_steps" (top 43)
  g_steps_of : mg "steps_of" = some (.ref (He.ga K "steps_of"))
  d_steps_of : DefF K ("steps_of", none) "steps_of" "steps_of" (top 44)
  g_need_alike : mg "need_alike" = some (.ref (He.ga K "need_alike"))
  d_need_alike : DefF K ("need_alike", none) "need_alike" "need_alike" (top 45)
  g_laid : mg "laid" = some (.ref (He.ga K "laid"))
  d_laid : DefF K ("laid", none) "laid" "laid" (top 46)
  g_need_piece : mg "need_piece" = some (.ref (He.ga K "need_piece"))
  d_need_piece : DefF K ("need_piece", none) "need_piece" "need_piece" (top 49)
  g_need_sign_pieces : mg "need_sign_pieces" = some (.ref (He.ga K "need_sign_pieces"))
  d_need_sign_pieces : DefF K ("need_sign_pieces", none) "need_sign" "need_sign" (top 50)
  g_strip : mg "strip" = some (.ref (He.ga K "strip"))
  d_strip : DefF K ("strip", none) "strip" "strip" (top 56)
  g_half_made : mg "half_made" = some (.ref (He.ga K "half_made"))
  d_half_made : DefF K ("half_made", none) "half_made" "half_made" (top 57)
  g_balanced : mg "balanced" = some (.ref (He.ga K "balanced"))
  d_balanced : DefF K ("balanced", none) "balanced" "balanced" (top 58)
  g_need_sign_kept : mg "need_sign_kept" = some (.ref (He.ga K "need_sign_kept"))
  d_need_sign_kept : DefF K ("need_sign_kept", none) "need_sign" "need_sign" (top 63)
  g_need_place_kept : mg "need_place_kept" = some (.ref (He.ga K "need_place_kept"))
  d_need_place_kept : DefF K ("need_place_kept", none) "need_place" "need_place" (top 65)
  g__law_cell : mg "_law_cell" = some (.ref (He.ga K "_law_cell"))
  d__law_cell : DefF K ("_law_cell", none) "_law_cell" "_law_cell" (top 69)
  g__law_mix : mg "_law_mix" = some (.ref (He.ga K "_law_mix"))
  d__law_mix : DefF K ("_law_mix", none) "_law_mix" "_law_mix" (top 70)
  g__law_takes : mg "_law_takes" = some (.ref (He.ga K "_law_takes"))
  d__law_takes : DefF K ("_law_takes", none) "_law_takes" "_law_takes" (top 71)
  g__law_sign : mg "_law_sign" = some (.ref (He.ga K "_law_sign"))
  d__law_sign : DefF K ("_law_sign", none) "_law_sign" "_law_sign" (top 72)
  g__law_base : mg "_law_base" = some (.ref (He.ga K "_law_base"))
  d__law_base : DefF K ("_law_base", none) "_law_base" "_law_base" (top 73)
  g__law_text : mg "_law_text" = some (.ref (He.ga K "_law_text"))
  d__law_text : DefF K ("_law_text", none) "_law_text" "_law_text" (top 74)
  g__law_whole : mg "_law_whole" = some (.ref (He.ga K "_law_whole"))
  d__law_whole : DefF K ("_law_whole", none) "_law_whole" "_law_whole" (top 75)
  g__law_list : mg "_law_list" = some (.ref (He.ga K "_law_list"))
  d__law_list : DefF K ("_law_list", none) "_law_list" "_law_list" (top 76)
  g__law_walk : mg "_law_walk" = some (.ref (He.ga K "_law_walk"))
  d__law_walk : DefF K ("_law_walk", none) "_law_walk" "_law_walk" (top 77)
  g__law_built : mg "_law_built" = some (.ref (He.ga K "_law_built"))
  d__law_built : DefF K ("_law_built", none) "_law_built" "_law_built" (top 78)
  g__law_deeds : mg "_law_deeds" = some (.ref (He.ga K "_law_deeds"))
  d__law_deeds : DefF K ("_law_deeds", none) "_law_deeds" "_law_deeds" (top 79)
  g__law_steps : mg "_law_steps" = some (.ref (He.ga K "_law_steps"))
  d__law_steps : DefF K ("_law_steps", none) "_law_steps" "_law_steps" (top 80)
  g__law_halves : mg "_law_halves" = some (.ref (He.ga K "_law_halves"))
  d__law_halves : DefF K ("_law_halves", none) "_law_halves" "_law_halves" (top 81)
  g__law_one_set : mg "_law_one_set" = some (.ref (He.ga K "_law_one_set"))
  d__law_one_set : DefF K ("_law_one_set", none) "_law_one_set" "_law_one_set" (top 82)
  g_law : mg "law" = some (.ref (He.ga K "law"))
  d_law : DefF K ("law", none) "law" "law" (top 83)
  g_Board : mg "Board" = some (.ref (He.ga K "Board"))
  k_Board : Cls K (He.ga K "Board")
  mk_Board : Mk K (He.ga K "Board") (He.ma K (He.ga K "Board") "__init__")
  n_Board_left_row : NoAttr K (He.ga K "Board") "left_row"
  n_Board_upper_row : NoAttr K (He.ga K "Board") "upper_row"
  n_Board_meetings : NoAttr K (He.ga K "Board") "meetings"
  n_Board_signs : NoAttr K (He.ga K "Board") "signs"
  n_Board_goals : NoAttr K (He.ga K "Board") "goals"
  g_Piece : mg "Piece" = some (.ref (He.ga K "Piece"))
  g_Blank : mg "Blank" = some (.ref (He.ga K "Blank"))
  k_Blank : Cls K (He.ga K "Blank")
  mk_Blank : Mk K (He.ga K "Blank") (He.ma K (He.ga K "Blank") "__init__")
  n_Blank_left_edge : NoAttr K (He.ga K "Blank") "left_edge"
  n_Blank_upper_edge : NoAttr K (He.ga K "Blank") "upper_edge"
  n_Blank_known : NoAttr K (He.ga K "Blank") "known"
  n_Blank_made_of : NoAttr K (He.ga K "Blank") "made_of"
  n_Blank_levels : NoAttr K (He.ga K "Blank") "levels"
  g_One : mg "One" = some (.ref (He.ga K "One"))
  k_One : Cls K (He.ga K "One")
  mk_One : Mk K (He.ga K "One") (He.ma K (He.ga K "One") "__init__")
  n_One_left_edge : NoAttr K (He.ga K "One") "left_edge"
  n_One_upper_edge : NoAttr K (He.ga K "One") "upper_edge"
  n_One_known : NoAttr K (He.ga K "One") "known"
  n_One_made_of : NoAttr K (He.ga K "One") "made_of"
  n_One_levels : NoAttr K (He.ga K "One") "levels"
  g_Over : mg "Over" = some (.ref (He.ga K "Over"))
  k_Over : Cls K (He.ga K "Over")
  mk_Over : Mk K (He.ga K "Over") (He.ma K (He.ga K "Over") "__init__")
  n_Over_left_edge : NoAttr K (He.ga K "Over") "left_edge"
  n_Over_upper_edge : NoAttr K (He.ga K "Over") "upper_edge"
  n_Over_known : NoAttr K (He.ga K "Over") "known"
  n_Over_made_of : NoAttr K (He.ga K "Over") "made_of"
  n_Over_levels : NoAttr K (He.ga K "Over") "levels"
  g_Beside : mg "Beside" = some (.ref (He.ga K "Beside"))
  k_Beside : Cls K (He.ga K "Beside")
  mk_Beside : Mk K (He.ga K "Beside") (He.ma K (He.ga K "Beside") "__init__")
  n_Beside_left_edge : NoAttr K (He.ga K "Beside") "left_edge"
  n_Beside_upper_edge : NoAttr K (He.ga K "Beside") "upper_edge"
  n_Beside_known : NoAttr K (He.ga K "Beside") "known"
  n_Beside_made_of : NoAttr K (He.ga K "Beside") "made_of"
  n_Beside_levels : NoAttr K (He.ga K "Beside") "levels"
  g_Limb : mg "Limb" = some (.ref (He.ga K "Limb"))
  k_Limb : Cls K (He.ga K "Limb")
  mk_Limb : Mk K (He.ga K "Limb") (He.ma K (He.ga K "Limb") "__init__")
  n_Limb_number : NoAttr K (He.ga K "Limb") "number"
  n_Limb_piece : NoAttr K (He.ga K "Limb") "piece"
  n_Limb_upper : NoAttr K (He.ga K "Limb") "upper"
  n_Limb_lower : NoAttr K (He.ga K "Limb") "lower"
  n_Limb_many : NoAttr K (He.ga K "Limb") "many"
  n_Limb_tall : NoAttr K (He.ga K "Limb") "tall"
  g_Grower : mg "Grower" = some (.ref (He.ga K "Grower"))
  k_Grower : Cls K (He.ga K "Grower")
  mk_Grower : Mk K (He.ga K "Grower") (He.ma K (He.ga K "Grower") "__init__")
  n_Grower_against : NoAttr K (He.ga K "Grower") "against"
  n_Grower_given : NoAttr K (He.ga K "Grower") "given"
  n_Grower_strips : NoAttr K (He.ga K "Grower") "strips"
  n_Grower_rows_from : NoAttr K (He.ga K "Grower") "rows_from"
  n_Grower_kind : NoAttr K (He.ga K "Grower") "kind"
  g_Kept : mg "Kept" = some (.ref (He.ga K "Kept"))
  k_Kept : Cls K (He.ga K "Kept")
  mk_Kept : Mk K (He.ga K "Kept") (He.ma K (He.ga K "Kept") "__init__")
  n_Kept_grower : NoAttr K (He.ga K "Kept") "grower"
  n_Kept_root : NoAttr K (He.ga K "Kept") "root"
  n_Kept_fresh : NoAttr K (He.ga K "Kept") "fresh"
  n_Kept_rows_from : NoAttr K (He.ga K "Kept") "rows_from"
  n_Kept_kind : NoAttr K (He.ga K "Kept") "kind"
  n_Kept_leaf : NoAttr K (He.ga K "Kept") "leaf"
  d_Board___init__ : DefF K ("Board", some "__init__") "__init__" "Board.__init__" (inClass (top 26) 0)
  d_Board_lines : DefF K ("Board", some "lines") "lines" "Board.lines" (inClass (top 26) 3)
  m_Board_lines : Meth K (He.ga K "Board") "lines" (He.ma K (He.ga K "Board") "lines")
  d_Board_cells : DefF K ("Board", some "cells") "cells" "Board.cells" (inClass (top 26) 4)
  m_Board_cells : Meth K (He.ga K "Board") "cells" (He.ma K (He.ga K "Board") "cells")
  d_Piece___init__ : DefF K ("Piece", some "__init__") "__init__" "Piece.__init__" (inClass (top 48) 0)
  d_Blank___init__ : DefF K ("Blank", some "__init__") "__init__" "Blank.__init__" (inClass (top 52) 0)
  d_Blank_side : DefF K ("Blank", some "side") "side" "Piece.side" (inClass (top 48) 1)
  m_Blank_side : Meth K (He.ga K "Blank") "side" (He.ma K (He.ga K "Blank") "side")
  d_Blank_top : DefF K ("Blank", some "top") "top" "Piece.top" (inClass (top 48) 2)
  m_Blank_top : Meth K (He.ga K "Blank") "top" (He.ma K (He.ga K "Blank") "top")
  d_Blank_lines : DefF K ("Blank", some "lines") "lines" "Piece.lines" (inClass (top 48) 3)
  m_Blank_lines : Meth K (He.ga K "Blank") "lines" (He.ma K (He.ga K "Blank") "lines")
  d_Blank_height : DefF K ("Blank", some "height") "height" "Piece.height" (inClass (top 48) 5)
  m_Blank_height : Meth K (He.ga K "Blank") "height" (He.ma K (He.ga K "Blank") "height")
  d_One___init__ : DefF K ("One", some "__init__") "__init__" "One.__init__" (inClass (top 53) 0)
  d_One_side : DefF K ("One", some "side") "side" "Piece.side" (inClass (top 48) 1)
  m_One_side : Meth K (He.ga K "One") "side" (He.ma K (He.ga K "One") "side")
  d_One_top : DefF K ("One", some "top") "top" "Piece.top" (inClass (top 48) 2)
  m_One_top : Meth K (He.ga K "One") "top" (He.ma K (He.ga K "One") "top")
  d_One_lines : DefF K ("One", some "lines") "lines" "Piece.lines" (inClass (top 48) 3)
  m_One_lines : Meth K (He.ga K "One") "lines" (He.ma K (He.ga K "One") "lines")
  d_One_height : DefF K ("One", some "height") "height" "Piece.height" (inClass (top 48) 5)
  m_One_height : Meth K (He.ga K "One") "height" (He.ma K (He.ga K "One") "height")
  d_Over___init__ : DefF K ("Over", some "__init__") "__init__" "Over.__init__" (inClass (top 54) 0)
  d_Over_side : DefF K ("Over", some "side") "side" "Piece.side" (inClass (top 48) 1)
  m_Over_side : Meth K (He.ga K "Over") "side" (He.ma K (He.ga K "Over") "side")
  d_Over_top : DefF K ("Over", some "top") "top" "Piece.top" (inClass (top 48) 2)
  m_Over_top : Meth K (He.ga K "Over") "top" (He.ma K (He.ga K "Over") "top")
  d_Over_lines : DefF K ("Over", some "lines") "lines" "Piece.lines" (inClass (top 48) 3)
  m_Over_lines : Meth K (He.ga K "Over") "lines" (He.ma K (He.ga K "Over") "lines")
  d_Over_height : DefF K ("Over", some "height") "height" "Piece.height" (inClass (top 48) 5)
  m_Over_height : Meth K (He.ga K "Over") "height" (He.ma K (He.ga K "Over") "height")
  d_Beside___init__ : DefF K ("Beside", some "__init__") "__init__" "Beside.__init__" (inClass (top 55) 0)
  d_Beside_side : DefF K ("Beside", some "side") "side" "Piece.side" (inClass (top 48) 1)
  m_Beside_side : Meth K (He.ga K "Beside") "side" (He.ma K (He.ga K "Beside") "side")
  d_Beside_top : DefF K ("Beside", some "top") "top" "Piece.top" (inClass (top 48) 2)
  m_Beside_top : Meth K (He.ga K "Beside") "top" (He.ma K (He.ga K "Beside") "top")
  d_Beside_lines : DefF K ("Beside", some "lines") "lines" "Piece.lines" (inClass (top 48) 3)
  m_Beside_lines : Meth K (He.ga K "Beside") "lines" (He.ma K (He.ga K "Beside") "lines")
  d_Beside_height : DefF K ("Beside", some "height") "height" "Piece.height" (inClass (top 48) 5)
  m_Beside_height : Meth K (He.ga K "Beside") "height" (He.ma K (He.ga K "Beside") "height")
  d_Limb___init__ : DefF K ("Limb", some "__init__") "__init__" "Limb.__init__" (inClass (top 60) 0)
  d_Limb_rows_from : DefF K ("Limb", some "rows_from") "rows_from" "Limb.rows_from" (inClass (top 60) 1)
  m_Limb_rows_from : Meth K (He.ga K "Limb") "rows_from" (He.ma K (He.ga K "Limb") "rows_from")
  d_Grower___init__ : DefF K ("Grower", some "__init__") "__init__" "Grower.__init__" (inClass (top 61) 0)
  d_Grower_leaf : DefF K ("Grower", some "leaf") "leaf" "Grower.leaf" (inClass (top 61) 1)
  m_Grower_leaf : Meth K (He.ga K "Grower") "leaf" (He.ma K (He.ga K "Grower") "leaf")
  d_Grower_knot : DefF K ("Grower", some "knot") "knot" "Grower.knot" (inClass (top 61) 2)
  m_Grower_knot : Meth K (He.ga K "Grower") "knot" (He.ma K (He.ga K "Grower") "knot")
  d_Grower_joined : DefF K ("Grower", some "joined") "joined" "Grower.joined" (inClass (top 61) 3)
  m_Grower_joined : Meth K (He.ga K "Grower") "joined" (He.ma K (He.ga K "Grower") "joined")
  d_Grower_grown : DefF K ("Grower", some "grown") "grown" "Grower.grown" (inClass (top 61) 4)
  m_Grower_grown : Meth K (He.ga K "Grower") "grown" (He.ma K (He.ga K "Grower") "grown")
  d_Grower_put : DefF K ("Grower", some "put") "put" "Grower.put" (inClass (top 61) 5)
  m_Grower_put : Meth K (He.ga K "Grower") "put" (He.ma K (He.ga K "Grower") "put")
  d_Grower_drop : DefF K ("Grower", some "drop") "drop" "Grower.drop" (inClass (top 61) 6)
  m_Grower_drop : Meth K (He.ga K "Grower") "drop" (He.ma K (He.ga K "Grower") "drop")
  d_Grower_change : DefF K ("Grower", some "change") "change" "Grower.change" (inClass (top 61) 7)
  m_Grower_change : Meth K (He.ga K "Grower") "change" (He.ma K (He.ga K "Grower") "change")
  d_Kept___init__ : DefF K ("Kept", some "__init__") "__init__" "Kept.__init__" (inClass (top 67) 0)
  d_Kept_side : DefF K ("Kept", some "side") "side" "Kept.side" (inClass (top 67) 1)
  m_Kept_side : Meth K (He.ga K "Kept") "side" (He.ma K (He.ga K "Kept") "side")
  d_Kept_top : DefF K ("Kept", some "top") "top" "Kept.top" (inClass (top 67) 2)
  m_Kept_top : Meth K (He.ga K "Kept") "top" (He.ma K (He.ga K "Kept") "top")
  d_Kept_lines : DefF K ("Kept", some "lines") "lines" "Kept.lines" (inClass (top 67) 3)
  m_Kept_lines : Meth K (He.ga K "Kept") "lines" (He.ma K (He.ga K "Kept") "lines")
  d_Kept_pieces : DefF K ("Kept", some "pieces") "pieces" "Kept.pieces" (inClass (top 67) 6)
  m_Kept_pieces : Meth K (He.ga K "Kept") "pieces" (He.ma K (He.ga K "Kept") "pieces")
  d_Kept_put : DefF K ("Kept", some "put") "put" "Kept.put" (inClass (top 67) 11)
  m_Kept_put : Meth K (He.ga K "Kept") "put" (He.ma K (He.ga K "Kept") "put")
  d_Kept_drop : DefF K ("Kept", some "drop") "drop" "Kept.drop" (inClass (top 67) 12)
  m_Kept_drop : Meth K (He.ga K "Kept") "drop" (He.ma K (He.ga K "Kept") "drop")
  d_Kept_change : DefF K ("Kept", some "change") "change" "Kept.change" (inClass (top 67) 13)
  m_Kept_change : Meth K (He.ga K "Kept") "change" (He.ma K (He.ga K "Kept") "change")
  d_Kept_retop : DefF K ("Kept", some "retop") "retop" "Kept.retop" (inClass (top 67) 14)
  m_Kept_retop : Meth K (He.ga K "Kept") "retop" (He.ma K (He.ga K "Kept") "retop")
  d_Kept_note : DefF K ("Kept", some "note") "note" "Kept.note" (inClass (top 67) 15)
  m_Kept_note : Meth K (He.ga K "Kept") "note" (He.ma K (He.ga K "Kept") "note")
  m_Blank_kind : Meth K (He.ga K "Blank") "kind" (He.ma K (He.ga K "Blank") "kind")
  m_One_kind : Meth K (He.ga K "One") "kind" (He.ma K (He.ga K "One") "kind")
  m_Over_kind : Meth K (He.ga K "Over") "kind" (He.ma K (He.ga K "Over") "kind")
  m_Beside_kind : Meth K (He.ga K "Beside") "kind" (He.ma K (He.ga K "Beside") "kind")
  kit_Blank : PySem.W.kitOne K (.ref (He.ga K "Blank")) (.ref (He.ga K "Piece")) = some true
  cl_Blank : PySem.W.findIn K (.ref (He.ga K "Blank")) "__class__" = some (some (.builtin "object.__class__"))
  mo_Blank : PySem.W.mroIn K (He.ga K "Blank") (.type "object") = some true
  kit_One : PySem.W.kitOne K (.ref (He.ga K "One")) (.ref (He.ga K "Piece")) = some true
  cl_One : PySem.W.findIn K (.ref (He.ga K "One")) "__class__" = some (some (.builtin "object.__class__"))
  mo_One : PySem.W.mroIn K (He.ga K "One") (.type "object") = some true
  kit_Over : PySem.W.kitOne K (.ref (He.ga K "Over")) (.ref (He.ga K "Piece")) = some true
  cl_Over : PySem.W.findIn K (.ref (He.ga K "Over")) "__class__" = some (some (.builtin "object.__class__"))
  mo_Over : PySem.W.mroIn K (He.ga K "Over") (.type "object") = some true
  kit_Beside : PySem.W.kitOne K (.ref (He.ga K "Beside")) (.ref (He.ga K "Piece")) = some true
  cl_Beside : PySem.W.findIn K (.ref (He.ga K "Beside")) "__class__" = some (some (.builtin "object.__class__"))
  mo_Beside : PySem.W.mroIn K (He.ga K "Beside") (.type "object") = some true
  og : PySem.W.specialIn K (.builtin "object.__class__") "__get__" = some (some (.builtin "getset_descriptor.__get__"))
  cr_Piece : ClX.CRead K (He.ga K "Piece") (.type "type")
  cv_Piece : ClX.CVal K (He.ga K "Piece") (.type "type") "__init__" (.ref (He.fAd K ("Piece", some "__init__"))) (.ref (He.fAd K ("Piece", some "__init__")))
  ot : PySem.W.takesIn K (.builtin "object.__class__") = some true
end PT
namespace PT
open PySem PySem.Spec PyProof.Rows L2
/-! ### the head -/
abbrev pB : Str × Option Str := ("Board", some "__init__")
abbrev pW : Str × Option Str := ("walked", none)
def faA0 : List He.Fa := [.free "isinstance", .free "len", .free "all", .free "range", .free "list", .free "enumerate", .free "max", .free "min", .free "int", .free "bool", .free "str", .free "tuple", .str "LETTERS" "abcdefghijklmnopqrstuvwxyz", .int "MOST_SIGNS" 48, .int "MOST_ROWS" 48, .int "MOST_LINES" 96, .int "MOST_STEPS" 6000, .glo "is_whole", .glo "is_within", .glo "is_letter", .glo "is_row", .glo "need_row", .glo "need_rows", .glo "led", .glo "are_cells"]
def faA1 : List He.Fa := [.glo "walked", .glo "is_board", .glo "is_turning", .glo "need_turning", .glo "need_place_turnings", .glo "straight", .glo "opposite", .glo "need_steps", .glo "worked_through", .glo "by_steps", .glo "working_steps", .glo "steps_of", .glo "need_alike", .glo "laid", .glo "need_piece", .glo "need_sign_pieces", .glo "strip"]
def faA : List He.Fa := faA0 ++ (faA1)
def faB0 : List He.Fa := [.glo "half_made", .glo "balanced", .glo "need_sign_kept", .glo "need_place_kept", .glo "_law_cell", .glo "_law_mix", .glo "_law_takes", .glo "_law_sign", .glo "_law_base", .glo "_law_text", .glo "_law_whole", .glo "_law_list", .glo "_law_walk", .glo "_law_built", .glo "_law_deeds", .glo "_law_steps", .glo "_law_halves", .glo "_law_one_set", .glo "law", .glo "Board", .cls "Board", .mkr "Board", .noat "Board" "left_row", .noat "Board" "upper_row", .noat "Board" "meetings"]
def faB1 : List He.Fa := [.noat "Board" "signs", .noat "Board" "goals", .glo "Piece", .glo "Blank", .cls "Blank", .mkr "Blank", .noat "Blank" "left_edge", .noat "Blank" "upper_edge", .noat "Blank" "known", .noat "Blank" "made_of", .noat "Blank" "levels", .glo "One", .cls "One", .mkr "One", .noat "One" "left_edge", .noat "One" "upper_edge", .noat "One" "known"]
def faB : List He.Fa := faB0 ++ (faB1)
def faC0 : List He.Fa := [.noat "One" "made_of", .noat "One" "levels", .glo "Over", .cls "Over", .mkr "Over", .noat "Over" "left_edge", .noat "Over" "upper_edge", .noat "Over" "known", .noat "Over" "made_of", .noat "Over" "levels", .glo "Beside", .cls "Beside", .mkr "Beside", .noat "Beside" "left_edge", .noat "Beside" "upper_edge", .noat "Beside" "known", .noat "Beside" "made_of", .noat "Beside" "levels", .glo "Limb", .cls "Limb", .mkr "Limb", .noat "Limb" "number", .noat "Limb" "piece", .noat "Limb" "upper", .noat "Limb" "lower"]
def faC1 : List He.Fa := [.noat "Limb" "many", .noat "Limb" "tall", .glo "Grower", .cls "Grower", .mkr "Grower", .noat "Grower" "against", .noat "Grower" "given", .noat "Grower" "strips", .noat "Grower" "rows_from", .noat "Grower" "kind", .glo "Kept", .cls "Kept", .mkr "Kept", .noat "Kept" "grower", .noat "Kept" "root", .noat "Kept" "fresh", .noat "Kept" "rows_from"]
def faC : List He.Fa := faC0 ++ (faC1)
def faD0 : List He.Fa := [.noat "Kept" "kind", .noat "Kept" "leaf", .meth "Board" "lines", .meth "Board" "cells", .meth "Blank" "side", .meth "Blank" "top", .meth "Blank" "lines", .meth "Blank" "height", .meth "One" "side", .meth "One" "top", .meth "One" "lines", .meth "One" "height", .meth "Over" "side", .meth "Over" "top", .meth "Over" "lines", .meth "Over" "height", .meth "Beside" "side", .meth "Beside" "top", .meth "Beside" "lines", .meth "Beside" "height", .meth "Limb" "rows_from", .meth "Grower" "leaf", .meth "Grower" "knot", .meth "Grower" "joined", .meth "Grower" "grown"]
def faD1 : List He.Fa := [.meth "Grower" "put", .meth "Grower" "drop", .meth "Grower" "change", .meth "Kept" "side", .meth "Kept" "top", .meth "Kept" "lines", .meth "Kept" "pieces", .meth "Kept" "put", .meth "Kept" "drop", .meth "Kept" "change", .meth "Kept" "retop", .meth "Kept" "note", .meth "Blank" "kind", .meth "One" "kind", .meth "Over" "kind", .meth "Beside" "kind"]
def faD : List He.Fa := faD0 ++ (faD1)
def fa : List He.Fa := faA ++ (faB ++ (faC ++ faD))
def d0 : He.DefD := ⟨("is_whole", none), "is_whole", "is_whole", defArgs (top 16), defBody (top 16), defScope (top 16), [], []⟩
def d1 : He.DefD := ⟨("is_within", none), "is_within", "is_within", defArgs (top 17), defBody (top 17), defScope (top 17), [], []⟩
def d2 : He.DefD := ⟨("is_letter", none), "is_letter", "is_letter", defArgs (top 18), defBody (top 18), defScope (top 18), [], []⟩
def d3 : He.DefD := ⟨("is_row", none), "is_row", "is_row", defArgs (top 19), defBody (top 19), defScope (top 19), [], []⟩
def d4 : He.DefD := ⟨("need_row", none), "need_row", "need_row", defArgs (top 20), defBody (top 20), defScope (top 20), [], []⟩
def d5 : He.DefD := ⟨("need_rows", none), "need_rows", "need_rows", defArgs (top 21), defBody (top 21), defScope (top 21), [], []⟩
def d6 : He.DefD := ⟨("led", none), "led", "led", defArgs (top 25), defBody (top 25), defScope (top 25), [], []⟩
def d7 : He.DefD := ⟨("are_cells", none), "are_cells", "are_cells", defArgs (top 27), defBody (top 27), defScope (top 27), [], []⟩
def d8 : He.DefD := ⟨("walked", none), "walked", "walked", defArgs (top 28), defBody (top 28), defScope (top 28), [], []⟩
def d9 : He.DefD := ⟨("is_board", none), "is_board", "is_board", defArgs (top 29), defBody (top 29), defScope (top 29), [], []⟩
def d10 : He.DefD := ⟨("is_turning", none), "is_turning", "is_turning", defArgs (top 32), defBody (top 32), defScope (top 32), [], []⟩
def d11 : He.DefD := ⟨("need_turning", none), "need_turning", "need_turning", defArgs (top 33), defBody (top 33), defScope (top 33), [], []⟩
def d12 : He.DefD := ⟨("need_place_turnings", none), "need_place", "need_place", defArgs (top 34), defBody (top 34), defScope (top 34), [], []⟩
def d13 : He.DefD := ⟨("straight", none), "straight", "straight", defArgs (top 36), defBody (top 36), defScope (top 36), [], []⟩
def d14 : He.DefD := ⟨("opposite", none), "opposite", "opposite", defArgs (top 37), defBody (top 37), defScope (top 37), [], []⟩
def d15 : He.DefD := ⟨("need_steps", none), "need_steps", "need_steps", defArgs (top 40), defBody (top 40), defScope (top 40), [], []⟩
def d16 : He.DefD := ⟨("worked_through", none), "worked_through", "worked_through", defArgs (top 41), defBody (top 41), defScope (top 41), [], []⟩
def d17 : He.DefD := ⟨("by_steps", none), "by_steps", "by_steps", defArgs (top 42), defBody (top 42), defScope (top 42), [], []⟩
def d18 : He.DefD := ⟨("working_steps", none), "working_steps", "working_steps", defArgs (top 43), defBody (top 43), defScope (top 43), [], []⟩
def d19 : He.DefD := ⟨("steps_of", none), "steps_of", "steps_of", defArgs (top 44), defBody (top 44), defScope (top 44), [], []⟩
def d20 : He.DefD := ⟨("need_alike", none), "need_alike", "need_alike", defArgs (top 45), defBody (top 45), defScope (top 45), [], []⟩
def d21 : He.DefD := ⟨("laid", none), "laid", "laid", defArgs (top 46), defBody (top 46), defScope (top 46), [], []⟩
def d22 : He.DefD := ⟨("need_piece", none), "need_piece", "need_piece", defArgs (top 49), defBody (top 49), defScope (top 49), [], []⟩
def d23 : He.DefD := ⟨("need_sign_pieces", none), "need_sign", "need_sign", defArgs (top 50), defBody (top 50), defScope (top 50), [], []⟩
def d24 : He.DefD := ⟨("strip", none), "strip", "strip", defArgs (top 56), defBody (top 56), defScope (top 56), [], []⟩
def d25 : He.DefD := ⟨("half_made", none), "half_made", "half_made", defArgs (top 57), defBody (top 57), defScope (top 57), [], []⟩
def d26 : He.DefD := ⟨("balanced", none), "balanced", "balanced", defArgs (top 58), defBody (top 58), defScope (top 58), [], []⟩
def d27 : He.DefD := ⟨("need_sign_kept", none), "need_sign", "need_sign", defArgs (top 63), defBody (top 63), defScope (top 63), [], []⟩
def d28 : He.DefD := ⟨("need_place_kept", none), "need_place", "need_place", defArgs (top 65), defBody (top 65), defScope (top 65), [], []⟩
def d29 : He.DefD := ⟨("_law_cell", none), "_law_cell", "_law_cell", defArgs (top 69), defBody (top 69), defScope (top 69), [], []⟩
def d30 : He.DefD := ⟨("_law_mix", none), "_law_mix", "_law_mix", defArgs (top 70), defBody (top 70), defScope (top 70), [], []⟩
def d31 : He.DefD := ⟨("_law_takes", none), "_law_takes", "_law_takes", defArgs (top 71), defBody (top 71), defScope (top 71), [], []⟩
def d32 : He.DefD := ⟨("_law_sign", none), "_law_sign", "_law_sign", defArgs (top 72), defBody (top 72), defScope (top 72), [], []⟩
def d33 : He.DefD := ⟨("_law_base", none), "_law_base", "_law_base", defArgs (top 73), defBody (top 73), defScope (top 73), [], []⟩
def d34 : He.DefD := ⟨("_law_text", none), "_law_text", "_law_text", defArgs (top 74), defBody (top 74), defScope (top 74), [], []⟩
def d35 : He.DefD := ⟨("_law_whole", none), "_law_whole", "_law_whole", defArgs (top 75), defBody (top 75), defScope (top 75), [], []⟩
def d36 : He.DefD := ⟨("_law_list", none), "_law_list", "_law_list", defArgs (top 76), defBody (top 76), defScope (top 76), [], []⟩
def d37 : He.DefD := ⟨("_law_walk", none), "_law_walk", "_law_walk", defArgs (top 77), defBody (top 77), defScope (top 77), [], []⟩
def d38 : He.DefD := ⟨("_law_built", none), "_law_built", "_law_built", defArgs (top 78), defBody (top 78), defScope (top 78), [], []⟩
def d39 : He.DefD := ⟨("_law_deeds", none), "_law_deeds", "_law_deeds", defArgs (top 79), defBody (top 79), defScope (top 79), [], []⟩
def d40 : He.DefD := ⟨("_law_steps", none), "_law_steps", "_law_steps", defArgs (top 80), defBody (top 80), defScope (top 80), [], []⟩
def d41 : He.DefD := ⟨("_law_halves", none), "_law_halves", "_law_halves", defArgs (top 81), defBody (top 81), defScope (top 81), [], []⟩
def d42 : He.DefD := ⟨("_law_one_set", none), "_law_one_set", "_law_one_set", defArgs (top 82), defBody (top 82), defScope (top 82), [], []⟩
def d43 : He.DefD := ⟨("law", none), "law", "law", defArgs (top 83), defBody (top 83), defScope (top 83), [], []⟩
def d44 : He.DefD := ⟨("Board", some "__init__"), "__init__", "Board.__init__", defArgs (inClass (top 26) 0), defBody (inClass (top 26) 0), defScope (inClass (top 26) 0), [], []⟩
def d45 : He.DefD := ⟨("Board", some "lines"), "lines", "Board.lines", defArgs (inClass (top 26) 3), defBody (inClass (top 26) 3), defScope (inClass (top 26) 3), [], []⟩
def d46 : He.DefD := ⟨("Board", some "cells"), "cells", "Board.cells", defArgs (inClass (top 26) 4), defBody (inClass (top 26) 4), defScope (inClass (top 26) 4), [], []⟩
def d47 : He.DefD := ⟨("Piece", some "__init__"), "__init__", "Piece.__init__", defArgs (inClass (top 48) 0), defBody (inClass (top 48) 0), defScope (inClass (top 48) 0), [], []⟩
def d48 : He.DefD := ⟨("Blank", some "__init__"), "__init__", "Blank.__init__", defArgs (inClass (top 52) 0), defBody (inClass (top 52) 0), defScope (inClass (top 52) 0), [], []⟩
def d49 : He.DefD := ⟨("Blank", some "side"), "side", "Piece.side", defArgs (inClass (top 48) 1), defBody (inClass (top 48) 1), defScope (inClass (top 48) 1), [], []⟩
def d50 : He.DefD := ⟨("Blank", some "top"), "top", "Piece.top", defArgs (inClass (top 48) 2), defBody (inClass (top 48) 2), defScope (inClass (top 48) 2), [], []⟩
def d51 : He.DefD := ⟨("Blank", some "lines"), "lines", "Piece.lines", defArgs (inClass (top 48) 3), defBody (inClass (top 48) 3), defScope (inClass (top 48) 3), [], []⟩
def d52 : He.DefD := ⟨("Blank", some "height"), "height", "Piece.height", defArgs (inClass (top 48) 5), defBody (inClass (top 48) 5), defScope (inClass (top 48) 5), [], []⟩
def d53 : He.DefD := ⟨("One", some "__init__"), "__init__", "One.__init__", defArgs (inClass (top 53) 0), defBody (inClass (top 53) 0), defScope (inClass (top 53) 0), [], []⟩
def d54 : He.DefD := ⟨("One", some "side"), "side", "Piece.side", defArgs (inClass (top 48) 1), defBody (inClass (top 48) 1), defScope (inClass (top 48) 1), [], []⟩
def d55 : He.DefD := ⟨("One", some "top"), "top", "Piece.top", defArgs (inClass (top 48) 2), defBody (inClass (top 48) 2), defScope (inClass (top 48) 2), [], []⟩
def d56 : He.DefD := ⟨("One", some "lines"), "lines", "Piece.lines", defArgs (inClass (top 48) 3), defBody (inClass (top 48) 3), defScope (inClass (top 48) 3), [], []⟩
def d57 : He.DefD := ⟨("One", some "height"), "height", "Piece.height", defArgs (inClass (top 48) 5), defBody (inClass (top 48) 5), defScope (inClass (top 48) 5), [], []⟩
def d58 : He.DefD := ⟨("Over", some "__init__"), "__init__", "Over.__init__", defArgs (inClass (top 54) 0), defBody (inClass (top 54) 0), defScope (inClass (top 54) 0), [], []⟩
def d59 : He.DefD := ⟨("Over", some "side"), "side", "Piece.side", defArgs (inClass (top 48) 1), defBody (inClass (top 48) 1), defScope (inClass (top 48) 1), [], []⟩
def d60 : He.DefD := ⟨("Over", some "top"), "top", "Piece.top", defArgs (inClass (top 48) 2), defBody (inClass (top 48) 2), defScope (inClass (top 48) 2), [], []⟩
def d61 : He.DefD := ⟨("Over", some "lines"), "lines", "Piece.lines", defArgs (inClass (top 48) 3), defBody (inClass (top 48) 3), defScope (inClass (top 48) 3), [], []⟩
def d62 : He.DefD := ⟨("Over", some "height"), "height", "Piece.height", defArgs (inClass (top 48) 5), defBody (inClass (top 48) 5), defScope (inClass (top 48) 5), [], []⟩
def d63 : He.DefD := ⟨("Beside", some "__init__"), "__init__", "Beside.__init__", defArgs (inClass (top 55) 0), defBody (inClass (top 55) 0), defScope (inClass (top 55) 0), [], []⟩
def d64 : He.DefD := ⟨("Beside", some "side"), "side", "Piece.side", defArgs (inClass (top 48) 1), defBody (inClass (top 48) 1), defScope (inClass (top 48) 1), [], []⟩
def d65 : He.DefD := ⟨("Beside", some "top"), "top", "Piece.top", defArgs (inClass (top 48) 2), defBody (inClass (top 48) 2), defScope (inClass (top 48) 2), [], []⟩
def d66 : He.DefD := ⟨("Beside", some "lines"), "lines", "Piece.lines", defArgs (inClass (top 48) 3), defBody (inClass (top 48) 3), defScope (inClass (top 48) 3), [], []⟩
def d67 : He.DefD := ⟨("Beside", some "height"), "height", "Piece.height", defArgs (inClass (top 48) 5), defBody (inClass (top 48) 5), defScope (inClass (top 48) 5), [], []⟩
def d68 : He.DefD := ⟨("Limb", some "__init__"), "__init__", "Limb.__init__", defArgs (inClass (top 60) 0), defBody (inClass (top 60) 0), defScope (inClass (top 60) 0), [], []⟩
def d69 : He.DefD := ⟨("Limb", some "rows_from"), "rows_from", "Limb.rows_from", defArgs (inClass (top 60) 1), defBody (inClass (top 60) 1), defScope (inClass (top 60) 1), [], []⟩
def d70 : He.DefD := ⟨("Grower", some "__init__"), "__init__", "Grower.__init__", defArgs (inClass (top 61) 0), defBody (inClass (top 61) 0), defScope (inClass (top 61) 0), [], []⟩
def d71 : He.DefD := ⟨("Grower", some "leaf"), "leaf", "Grower.leaf", defArgs (inClass (top 61) 1), defBody (inClass (top 61) 1), defScope (inClass (top 61) 1), [], []⟩
def d72 : He.DefD := ⟨("Grower", some "knot"), "knot", "Grower.knot", defArgs (inClass (top 61) 2), defBody (inClass (top 61) 2), defScope (inClass (top 61) 2), [], []⟩
def d73 : He.DefD := ⟨("Grower", some "joined"), "joined", "Grower.joined", defArgs (inClass (top 61) 3), defBody (inClass (top 61) 3), defScope (inClass (top 61) 3), [], []⟩
def d74 : He.DefD := ⟨("Grower", some "grown"), "grown", "Grower.grown", defArgs (inClass (top 61) 4), defBody (inClass (top 61) 4), defScope (inClass (top 61) 4), [], []⟩
def d75 : He.DefD := ⟨("Grower", some "put"), "put", "Grower.put", defArgs (inClass (top 61) 5), defBody (inClass (top 61) 5), defScope (inClass (top 61) 5), [], []⟩
def d76 : He.DefD := ⟨("Grower", some "drop"), "drop", "Grower.drop", defArgs (inClass (top 61) 6), defBody (inClass (top 61) 6), defScope (inClass (top 61) 6), [], []⟩
def d77 : He.DefD := ⟨("Grower", some "change"), "change", "Grower.change", defArgs (inClass (top 61) 7), defBody (inClass (top 61) 7), defScope (inClass (top 61) 7), [], []⟩
def d78 : He.DefD := ⟨("Kept", some "__init__"), "__init__", "Kept.__init__", defArgs (inClass (top 67) 0), defBody (inClass (top 67) 0), defScope (inClass (top 67) 0), [], []⟩
def d79 : He.DefD := ⟨("Kept", some "side"), "side", "Kept.side", defArgs (inClass (top 67) 1), defBody (inClass (top 67) 1), defScope (inClass (top 67) 1), [], []⟩
def d80 : He.DefD := ⟨("Kept", some "top"), "top", "Kept.top", defArgs (inClass (top 67) 2), defBody (inClass (top 67) 2), defScope (inClass (top 67) 2), [], []⟩
def d81 : He.DefD := ⟨("Kept", some "lines"), "lines", "Kept.lines", defArgs (inClass (top 67) 3), defBody (inClass (top 67) 3), defScope (inClass (top 67) 3), [], []⟩
def d82 : He.DefD := ⟨("Kept", some "pieces"), "pieces", "Kept.pieces", defArgs (inClass (top 67) 6), defBody (inClass (top 67) 6), defScope (inClass (top 67) 6), [], []⟩
def d83 : He.DefD := ⟨("Kept", some "put"), "put", "Kept.put", defArgs (inClass (top 67) 11), defBody (inClass (top 67) 11), defScope (inClass (top 67) 11), [], []⟩
def d84 : He.DefD := ⟨("Kept", some "drop"), "drop", "Kept.drop", defArgs (inClass (top 67) 12), defBody (inClass (top 67) 12), defScope (inClass (top 67) 12), [], []⟩
def d85 : He.DefD := ⟨("Kept", some "change"), "change", "Kept.change", defArgs (inClass (top 67) 13), defBody (inClass (top 67) 13), defScope (inClass (top 67) 13), [], []⟩
def d86 : He.DefD := ⟨("Kept", some "retop"), "retop", "Kept.retop", defArgs (inClass (top 67) 14), defBody (inClass (top 67) 14), defScope (inClass (top 67) 14), [], []⟩
def d87 : He.DefD := ⟨("Kept", some "note"), "note", "Kept.note", defArgs (inClass (top 67) 15), defBody (inClass (top 67) 15), defScope (inClass (top 67) 15), [], []⟩
def fnA0 : List He.DefD := [d0, d1, d2, d3, d4, d5, d6, d7, d8, d9, d10, d11, d12, d13, d14, d15, d16, d17, d18, d19, d20, d21]
def fnA : List He.DefD := fnA0
def fnB0 : List He.DefD := [d22, d23, d24, d25, d26, d27, d28, d29, d30, d31, d32, d33, d34, d35, d36, d37, d38, d39, d40, d41, d42, d43]
def fnB : List He.DefD := fnB0
def fnC0 : List He.DefD := [d44, d45, d46, d47, d48, d49, d50, d51, d52, d53, d54, d55, d56, d57, d58, d59, d60, d61, d62, d63, d64, d65]
def fnC : List He.DefD := fnC0
def fnD0 : List He.DefD := [d66, d67, d68, d69, d70, d71, d72, d73, d74, d75, d76, d77, d78, d79, d80, d81, d82, d83, d84, d85, d86, d87]
def fnD : List He.DefD := fnD0
def fn : List He.DefD := fnA ++ (fnB ++ (fnC ++ fnD))
def x0 : PySem.W.Frag → Bool := fun K => decide (PySem.W.kitOne K (.ref (He.ga K "Blank")) (.ref (He.ga K "Piece")) = some true)
def x1 : PySem.W.Frag → Bool := fun K => He.eqO (PySem.W.findIn K (.ref (He.ga K "Blank")) "__class__") (some (some (.builtin "object.__class__")))
def x2 : PySem.W.Frag → Bool := fun K => decide (PySem.W.mroIn K (He.ga K "Blank") (.type "object") = some true)
def x3 : PySem.W.Frag → Bool := fun K => decide (PySem.W.kitOne K (.ref (He.ga K "One")) (.ref (He.ga K "Piece")) = some true)
def x4 : PySem.W.Frag → Bool := fun K => He.eqO (PySem.W.findIn K (.ref (He.ga K "One")) "__class__") (some (some (.builtin "object.__class__")))
def x5 : PySem.W.Frag → Bool := fun K => decide (PySem.W.mroIn K (He.ga K "One") (.type "object") = some true)
def x6 : PySem.W.Frag → Bool := fun K => decide (PySem.W.kitOne K (.ref (He.ga K "Over")) (.ref (He.ga K "Piece")) = some true)
def x7 : PySem.W.Frag → Bool := fun K => He.eqO (PySem.W.findIn K (.ref (He.ga K "Over")) "__class__") (some (some (.builtin "object.__class__")))
def x8 : PySem.W.Frag → Bool := fun K => decide (PySem.W.mroIn K (He.ga K "Over") (.type "object") = some true)
def x9 : PySem.W.Frag → Bool := fun K => decide (PySem.W.kitOne K (.ref (He.ga K "Beside")) (.ref (He.ga K "Piece")) = some true)
def x10 : PySem.W.Frag → Bool := fun K => He.eqO (PySem.W.findIn K (.ref (He.ga K "Beside")) "__class__") (some (some (.builtin "object.__class__")))
def x11 : PySem.W.Frag → Bool := fun K => decide (PySem.W.mroIn K (He.ga K "Beside") (.type "object") = some true)
def x12 : PySem.W.Frag → Bool := fun K => He.eqO (PySem.W.specialIn K (.builtin "object.__class__") "__get__") (some (some (.builtin "getset_descriptor.__get__")))
def x13 : PySem.W.Frag → Bool := fun K => PySem.W.readsIn K (He.ga K "Piece") (.type "type") && He.eqO (PySem.W.specialIn K (.ref (He.ga K "Piece")) "__getattribute__") (some (some (.builtin "type.__getattribute__")))
def x14 : PySem.W.Frag → Bool := fun K => isValB (PySem.W.findCls K (.ref (He.ga K "Piece")) (.type "type") "__init__") (.ref (He.fAd K ("Piece", some "__init__")))
def x15 : PySem.W.Frag → Bool := fun K => decide (PySem.W.takesIn K (.builtin "object.__class__") = some true)
def x16 : PySem.W.Frag → Bool := fun K => !decide ((He.cT K pB).2 = (He.cT K pW).2)
def xs : List (PySem.W.Frag → Bool) := [x0, x1, x2, x3, x4, x5, x6, x7, x8, x9, x10, x11, x12, x13, x14, x15, x16]
def exF (K : PySem.W.Frag) : Bool := xs.all fun f => f K
theorem exF.fact {K : PySem.W.Frag} (h : exF K = true) (i : Nat) {f : PySem.W.Frag → Bool} (e : xs[i]? = some f) : f K = true := List.all_eq_true.mp h f (List.mem_of_getElem? e)
abbrev Rw : PySem.W.OpenRow := PySem.W.OpenLaw.row PySem.Challenge.rw_panethread_k91_whole_one_set_of_lines
/-- what the names reach in four steps, and the table of the statics, where class reads look -/
def reachY (look : Addr → Option Obj) : List Addr := He.asD look 4 ++ [cStatics]
abbrev partY (look : Addr → Option Obj) : PySem.W.Frag := He.frT look (reachY look)
def seenA (look : Addr → Option Obj) : He.AlD := He.obsD faA fnA (partY look)
def seenB (look : Addr → Option Obj) : He.AlD := He.obsD faB fnB (partY look)
def seenC (look : Addr → Option Obj) : He.AlD := He.obsD faC fnC (partY look)
def seenD (look : Addr → Option Obj) : He.AlD := He.obsD faD fnD (partY look)
def seenE (look : Addr → Option Obj) : Bool := exF (partY look) && He.tabsB look [pB, pW] (partY look)
theorem obs_both {a b : List He.Fa} {c d : List He.DefD} {K : PySem.W.Frag} (one : He.obsD a c K = He.valD c) (two : He.obsD b d K = He.valD d) : He.obsD (a ++ b) (c ++ d) K = He.valD (c ++ d) := by
  have l1 : (a.all (fun f => f.ok K) && c.all fun d => d.ok K) = true := congrArg Prod.fst one
  have l2 : (b.all (fun f => f.ok K) && d.all fun d => d.ok K) = true := congrArg Prod.fst two
  have r1 : c.map (fun d => He.fnW K d.at_) = c.map He.DefD.val := congrArg Prod.snd one
  have r2 : d.map (fun d => He.fnW K d.at_) = d.map He.DefD.val := congrArg Prod.snd two
  rw [Bool.and_eq_true] at l1 l2
  show ((a ++ b).all (fun f => f.ok K) && (c ++ d).all fun d => d.ok K, (c ++ d).map fun d => He.fnW K d.at_) = (true, (c ++ d).map He.DefD.val)
  rw [List.all_append, List.all_append, List.map_append, List.map_append, r1, r2, l1.1, l1.2, l2.1, l2.2]
  rfl
theorem toldY {w : World} {h : Heap} (sameA : seenA h.get? = He.valD fnA) (sameB : seenB h.get? = He.valD fnB) (sameC : seenC h.get? = He.valD fnC) (sameD : seenD h.get? = He.valD fnD) (sameE : seenE h.get? = true) : He.SaysX fa fn [] [pB, pW] exF w h (partY h.get?) := by
  have both : (exF (partY h.get?) && He.tabsB h.get? [pB, pW] (partY h.get?)) = true := sameE
  rw [Bool.and_eq_true] at both
  have each : ∀ p ∈ [pB, pW], PySem.W.codeHdIn (partY h.get?) (He.cT (partY h.get?) p).1 (He.cT (partY h.get?) p).2 = true ∧ ∃ o, h.get? (He.cT (partY h.get?) p).2 = some o ∧ He.emptyTab o = true := by
    intro p hp
    have one := List.all_eq_true.mp both.2 p hp
    rw [Bool.and_eq_true] at one
    refine ⟨one.1, ?_⟩
    generalize h.get? (He.cT (partY h.get?) p).2 = found at one
    cases found with
    | some o => exact ⟨o, rfl, one.2⟩
    | none => exact absurd one.2 Bool.false_ne_true
  constructor
  · exact congrArg (fun z => (z, [])) (obs_both sameA (obs_both sameB (obs_both sameC sameD)))
  · exact both.1
  · exact fun p hp => (each p hp).1
  · intro p hp
    obtain ⟨_, o, at_, none_⟩ := each p hp
    exact He.frT_none at_ none_
  · intro p hp
    obtain ⟨_, o, at_, none_⟩ := each p hp
    rw [at_, He.emptyTab_eq none_]
abbrev AlY : Type := He.AlD × (He.AlD × (He.AlD × (He.AlD × Bool)))
def seenY (look : Addr → Option Obj) : AlY := (seenA look, (seenB look, (seenC look, (seenD look, seenE look))))
def hk : PySem.W.Hook where
  α := AlY
  obs := fun s => seenY s.heap.get?
  val := fun _ => (He.valD fnA, (He.valD fnB, (He.valD fnC, (He.valD fnD, true))))
  says := fun w h => ∃ K : PySem.W.Frag, K.In h ∧ He.SaysX fa fn [] [pB, pW] exF w h K
  of := fun _ _ same => ⟨_, He.frT_in, toldY (congrArg (fun z : AlY => z.1) same) (congrArg (fun z : AlY => z.2.1) same) (congrArg (fun z : AlY => z.2.2.1) same) (congrArg (fun z : AlY => z.2.2.2.1) same) (congrArg (fun z : AlY => z.2.2.2.2) same)⟩
  keeps := fun _ _ _ ⟨K, inK, c⟩ more => ⟨K, PySem.W.Frag.In.keeps inK more, c.t, c.more, c.hd, c.out, fun p hp => more _ _ (c.empty p hp)⟩
def ob (s : PySem.W.SharedT) : AlY := seenY (HandSHeadRun.getT s)
theorem ob_eq (s : PySem.W.SharedT) : ob s = hk.obs s.abs := by
  have e : HandSHeadRun.getT s = s.abs.heap.get? := funext (HandSHeadRun.getT_eq s)
  show seenY (HandSHeadRun.getT s) = seenY s.abs.heap.get?
  rw [e]
def names0 : List PySem.Str := ["_wall", "PaneError", "NoRow", "NoLetter", "NoPlace", "NoSpan", "NoTurning", "NoSteps", "NoCells", "NoPiece", "Unlike", "TooLong", "LETTERS", "MOST_SIGNS", "is_whole", "is_within", "is_letter", "is_row", "need_row", "need_rows", "need_span", "MOST_ROWS", "led", "Board", "are_cells", "walked", "is_board", "MOST_LINES", "is_turning", "need_turning"]
def names1 : List PySem.Str := ["need_place", "need_place_turnings", "straight", "opposite", "MOST_STEPS", "need_steps", "worked_through", "by_steps", "working_steps", "steps_of", "need_alike", "laid", "Piece", "need_piece", "need_sign", "need_sign_pieces", "Blank", "One", "Over", "Beside", "strip", "half_made", "balanced", "Limb", "Grower", "need_sign_kept", "need_place_kept", "Kept", "_law_cell", "_law_mix"]
def names2 : List PySem.Str := ["_law_takes", "_law_sign", "_law_base", "_law_text", "_law_whole", "_law_list", "_law_walk", "_law_built", "_law_deeds", "_law_steps", "_law_halves", "_law_one_set"]
def names : List PySem.Str := names0 ++ names1 ++ names2
/-- the state behind the top -/
noncomputable abbrev endY (w : World) (os : OsState) : Option PySem.W.SharedT := HandSHeadRun.endF (HandSHeadRun.stepQ (HandSHeadRun.denQ HandSHeadRun.tabQ) Rw.prog w) 9000 Rw.prog w os
theorem head_runL (w : World) (os : OsState) : (endY w os).map (fun s => HandSHeadRun.looksF Rw.prog (PySem.W.boot_heap w.params) s.abs) = some true := by
  kernel_rfl
theorem head_runS (w : World) (os : OsState) : (endY w os).map (fun s => HandSHeadRun.seenQ (PySem.W.view Rw.prog [83]) names (importedModules Rw.prog.main.body) (fun s => PySem.W.xlAt (PySem.W.view Rw.prog [83]) [] s && PySem.W.recOk Rw.toRowW.records s) s.abs) = some (PySem.W.openGood (PySem.W.view Rw.prog [83]) names) := by
  kernel_rfl
theorem head_runA (w : World) (os : OsState) : (endY w os).map (fun s => seenA (HandSHeadRun.getT s)) = some (He.valD fnA) := by
  kernel_rfl
theorem head_runB (w : World) (os : OsState) : (endY w os).map (fun s => seenB (HandSHeadRun.getT s)) = some (He.valD fnB) := by
  kernel_rfl
theorem head_runC (w : World) (os : OsState) : (endY w os).map (fun s => seenC (HandSHeadRun.getT s)) = some (He.valD fnC) := by
  kernel_rfl
theorem head_runD (w : World) (os : OsState) : (endY w os).map (fun s => seenD (HandSHeadRun.getT s)) = some (He.valD fnD) := by
  kernel_rfl
theorem head_runE (w : World) (os : OsState) : (endY w os).map (fun s => seenE (HandSHeadRun.getT s)) = some true := by
  kernel_rfl
theorem bothO {α β γ : Type} {o : Option α} {f : α → β} {g : α → γ} {x : β} {y : γ} (h1 : o.map f = some x) (h2 : o.map g = some y) : o.map (fun s => (f s, g s)) = some (x, y) := by
  cases o with
  | none => cases h1
  | some s =>
    have e1 : f s = x := Option.some.inj h1
    have e2 : g s = y := Option.some.inj h2
    show some (f s, g s) = _
    rw [e1, e2]
theorem head_run (w : World) : HandSHeadRun.RunEq Rw (PySem.W.view Rw.prog [83]) hk ob 9000 names w := fun os =>
  bothO (head_runL w os) (bothO (head_runS w os) (bothO (head_runA w os) (bothO (head_runB w os) (bothO (head_runC w os) (bothO (head_runD w os) (head_runE w os))))))
theorem txt_of {w : World} {h : Heap} {K : PySem.W.Frag} {mg : Str → Option Value} (X : K.In h) (G : h.Ns mainGlobals mg) (c0 : He.SaysX fa fn [] [pB, pW] exF w h K) : Txt K mg where
  b_isinstance := He.free_ok X G (c0.t.d.fact 0 (f := .free "isinstance") rfl)
  b_len := He.free_ok X G (c0.t.d.fact 1 (f := .free "len") rfl)
  b_all := He.free_ok X G (c0.t.d.fact 2 (f := .free "all") rfl)
  b_range := He.free_ok X G (c0.t.d.fact 3 (f := .free "range") rfl)
  b_list := He.free_ok X G (c0.t.d.fact 4 (f := .free "list") rfl)
  b_enumerate := He.free_ok X G (c0.t.d.fact 5 (f := .free "enumerate") rfl)
  b_max := He.free_ok X G (c0.t.d.fact 6 (f := .free "max") rfl)
  b_min := He.free_ok X G (c0.t.d.fact 7 (f := .free "min") rfl)
  b_int := He.free_ok X G (c0.t.d.fact 8 (f := .free "int") rfl)
  b_bool := He.free_ok X G (c0.t.d.fact 9 (f := .free "bool") rfl)
  b_str := He.free_ok X G (c0.t.d.fact 10 (f := .free "str") rfl)
  b_tuple := He.free_ok X G (c0.t.d.fact 11 (f := .free "tuple") rfl)
  c_LETTERS := He.str_ok X G (c0.t.d.fact 12 (f := .str "LETTERS" "abcdefghijklmnopqrstuvwxyz") rfl)
  c_MOST_SIGNS := He.int_ok X G (c0.t.d.fact 13 (f := .int "MOST_SIGNS" 48) rfl)
  c_MOST_ROWS := He.int_ok X G (c0.t.d.fact 14 (f := .int "MOST_ROWS" 48) rfl)
  c_MOST_LINES := He.int_ok X G (c0.t.d.fact 15 (f := .int "MOST_LINES" 96) rfl)
  c_MOST_STEPS := He.int_ok X G (c0.t.d.fact 16 (f := .int "MOST_STEPS" 6000) rfl)
  g_is_whole := He.glo_ok X G (c0.t.d.fact 17 (f := .glo "is_whole") rfl)
  d_is_whole := c0.t.d.def_ 0 (d := d0) rfl
  g_is_within := He.glo_ok X G (c0.t.d.fact 18 (f := .glo "is_within") rfl)
  d_is_within := c0.t.d.def_ 1 (d := d1) rfl
  g_is_letter := He.glo_ok X G (c0.t.d.fact 19 (f := .glo "is_letter") rfl)
  d_is_letter := c0.t.d.def_ 2 (d := d2) rfl
  g_is_row := He.glo_ok X G (c0.t.d.fact 20 (f := .glo "is_row") rfl)
  d_is_row := c0.t.d.def_ 3 (d := d3) rfl
  g_need_row := He.glo_ok X G (c0.t.d.fact 21 (f := .glo "need_row") rfl)
  d_need_row := c0.t.d.def_ 4 (d := d4) rfl
  g_need_rows := He.glo_ok X G (c0.t.d.fact 22 (f := .glo "need_rows") rfl)
  d_need_rows := c0.t.d.def_ 5 (d := d5) rfl
  g_led := He.glo_ok X G (c0.t.d.fact 23 (f := .glo "led") rfl)
  d_led := c0.t.d.def_ 6 (d := d6) rfl
  g_are_cells := He.glo_ok X G (c0.t.d.fact 24 (f := .glo "are_cells") rfl)
  d_are_cells := c0.t.d.def_ 7 (d := d7) rfl
  g_walked := He.glo_ok X G (c0.t.d.fact 25 (f := .glo "walked") rfl)
  d_walked := c0.t.d.def_ 8 (d := d8) rfl
  g_is_board := He.glo_ok X G (c0.t.d.fact 26 (f := .glo "is_board") rfl)
  d_is_board := c0.t.d.def_ 9 (d := d9) rfl
  g_is_turning := He.glo_ok X G (c0.t.d.fact 27 (f := .glo "is_turning") rfl)
  d_is_turning := c0.t.d.def_ 10 (d := d10) rfl
  g_need_turning := He.glo_ok X G (c0.t.d.fact 28 (f := .glo "need_turning") rfl)
  d_need_turning := c0.t.d.def_ 11 (d := d11) rfl
  g_need_place_turnings := He.glo_ok X G (c0.t.d.fact 29 (f := .glo "need_place_turnings") rfl)
  d_need_place_turnings := c0.t.d.def_ 12 (d := d12) rfl
  g_straight := He.glo_ok X G (c0.t.d.fact 30 (f := .glo "straight") rfl)
  d_straight := c0.t.d.def_ 13 (d := d13) rfl
  g_opposite := He.glo_ok X G (c0.t.d.fact 31 (f := .glo "opposite") rfl)
  d_opposite := c0.t.d.def_ 14 (d := d14) rfl
  g_need_steps := He.glo_ok X G (c0.t.d.fact 32 (f := .glo "need_steps") rfl)
  d_need_steps := c0.t.d.def_ 15 (d := d15) rfl
  g_worked_through := He.glo_ok X G (c0.t.d.fact 33 (f := .glo "worked_through") rfl)
  d_worked_through := c0.t.d.def_ 16 (d := d16) rfl
  g_by_steps := He.glo_ok X G (c0.t.d.fact 34 (f := .glo "by_steps") rfl)
  d_by_steps := c0.t.d.def_ 17 (d := d17) rfl
  g_working_steps := He.glo_ok X G (c0.t.d.fact 35 (f := .glo "working_steps") rfl)
  d_working_steps := c0.t.d.def_ 18 (d := d18) rfl
  g_steps_of := He.glo_ok X G (c0.t.d.fact 36 (f := .glo "steps_of") rfl)
  d_steps_of := c0.t.d.def_ 19 (d := d19) rfl
  g_need_alike := He.glo_ok X G (c0.t.d.fact 37 (f := .glo "need_alike") rfl)
  d_need_alike := c0.t.d.def_ 20 (d := d20) rfl
  g_laid := He.glo_ok X G (c0.t.d.fact 38 (f := .glo "laid") rfl)
  d_laid := c0.t.d.def_ 21 (d := d21) rfl
  g_need_piece := He.glo_ok X G (c0.t.d.fact 39 (f := .glo "need_piece") rfl)
  d_need_piece := c0.t.d.def_ 22 (d := d22) rfl
  g_need_sign_pieces := He.glo_ok X G (c0.t.d.fact 40 (f := .glo "need_sign_pieces") rfl)
  d_need_sign_pieces := c0.t.d.def_ 23 (d := d23) rfl
  g_strip := He.glo_ok X G (c0.t.d.fact 41 (f := .glo "strip") rfl)
  d_strip := c0.t.d.def_ 24 (d := d24) rfl
  g_half_made := He.glo_ok X G (c0.t.d.fact 42 (f := .glo "half_made") rfl)
  d_half_made := c0.t.d.def_ 25 (d := d25) rfl
  g_balanced := He.glo_ok X G (c0.t.d.fact 43 (f := .glo "balanced") rfl)
  d_balanced := c0.t.d.def_ 26 (d := d26) rfl
  g_need_sign_kept := He.glo_ok X G (c0.t.d.fact 44 (f := .glo "need_sign_kept") rfl)
  d_need_sign_kept := c0.t.d.def_ 27 (d := d27) rfl
  g_need_place_kept := He.glo_ok X G (c0.t.d.fact 45 (f := .glo "need_place_kept") rfl)
  d_need_place_kept := c0.t.d.def_ 28 (d := d28) rfl
  g__law_cell := He.glo_ok X G (c0.t.d.fact 46 (f := .glo "_law_cell") rfl)
  d__law_cell := c0.t.d.def_ 29 (d := d29) rfl
  g__law_mix := He.glo_ok X G (c0.t.d.fact 47 (f := .glo "_law_mix") rfl)
  d__law_mix := c0.t.d.def_ 30 (d := d30) rfl
  g__law_takes := He.glo_ok X G (c0.t.d.fact 48 (f := .glo "_law_takes") rfl)
  d__law_takes := c0.t.d.def_ 31 (d := d31) rfl
  g__law_sign := He.glo_ok X G (c0.t.d.fact 49 (f := .glo "_law_sign") rfl)
  d__law_sign := c0.t.d.def_ 32 (d := d32) rfl
  g__law_base := He.glo_ok X G (c0.t.d.fact 50 (f := .glo "_law_base") rfl)
  d__law_base := c0.t.d.def_ 33 (d := d33) rfl
  g__law_text := He.glo_ok X G (c0.t.d.fact 51 (f := .glo "_law_text") rfl)
  d__law_text := c0.t.d.def_ 34 (d := d34) rfl
  g__law_whole := He.glo_ok X G (c0.t.d.fact 52 (f := .glo "_law_whole") rfl)
  d__law_whole := c0.t.d.def_ 35 (d := d35) rfl
  g__law_list := He.glo_ok X G (c0.t.d.fact 53 (f := .glo "_law_list") rfl)
  d__law_list := c0.t.d.def_ 36 (d := d36) rfl
  g__law_walk := He.glo_ok X G (c0.t.d.fact 54 (f := .glo "_law_walk") rfl)
  d__law_walk := c0.t.d.def_ 37 (d := d37) rfl
  g__law_built := He.glo_ok X G (c0.t.d.fact 55 (f := .glo "_law_built") rfl)
  d__law_built := c0.t.d.def_ 38 (d := d38) rfl
  g__law_deeds := He.glo_ok X G (c0.t.d.fact 56 (f := .glo "_law_deeds") rfl)
  d__law_deeds := c0.t.d.def_ 39 (d := d39) rfl
  g__law_steps := He.glo_ok X G (c0.t.d.fact 57 (f := .glo "_law_steps") rfl)
  d__law_steps := c0.t.d.def_ 40 (d := d40) rfl
  g__law_halves := He.glo_ok X G (c0.t.d.fact 58 (f := .glo "_law_halves") rfl)
  d__law_halves := c0.t.d.def_ 41 (d := d41) rfl
  g__law_one_set := He.glo_ok X G (c0.t.d.fact 59 (f := .glo "_law_one_set") rfl)
  d__law_one_set := c0.t.d.def_ 42 (d := d42) rfl
  g_law := He.glo_ok X G (c0.t.d.fact 60 (f := .glo "law") rfl)
  d_law := c0.t.d.def_ 43 (d := d43) rfl
  g_Board := He.glo_ok X G (c0.t.d.fact 61 (f := .glo "Board") rfl)
  k_Board := He.cls_ok (c0.t.d.fact 62 (f := .cls "Board") rfl)
  mk_Board := He.mkr_ok (c0.t.d.fact 63 (f := .mkr "Board") rfl)
  n_Board_left_row := He.noat_ok (c0.t.d.fact 64 (f := .noat "Board" "left_row") rfl)
  n_Board_upper_row := He.noat_ok (c0.t.d.fact 65 (f := .noat "Board" "upper_row") rfl)
  n_Board_meetings := He.noat_ok (c0.t.d.fact 66 (f := .noat "Board" "meetings") rfl)
  n_Board_signs := He.noat_ok (c0.t.d.fact 67 (f := .noat "Board" "signs") rfl)
  n_Board_goals := He.noat_ok (c0.t.d.fact 68 (f := .noat "Board" "goals") rfl)
  g_Piece := He.glo_ok X G (c0.t.d.fact 69 (f := .glo "Piece") rfl)
  g_Blank := He.glo_ok X G (c0.t.d.fact 70 (f := .glo "Blank") rfl)
  k_Blank := He.cls_ok (c0.t.d.fact 71 (f := .cls "Blank") rfl)
  mk_Blank := He.mkr_ok (c0.t.d.fact 72 (f := .mkr "Blank") rfl)
  n_Blank_left_edge := He.noat_ok (c0.t.d.fact 73 (f := .noat "Blank" "left_edge") rfl)
  n_Blank_upper_edge := He.noat_ok (c0.t.d.fact 74 (f := .noat "Blank" "upper_edge") rfl)
  n_Blank_known := He.noat_ok (c0.t.d.fact 75 (f := .noat "Blank" "known") rfl)
  n_Blank_made_of := He.noat_ok (c0.t.d.fact 76 (f := .noat "Blank" "made_of") rfl)
  n_Blank_levels := He.noat_ok (c0.t.d.fact 77 (f := .noat "Blank" "levels") rfl)
  g_One := He.glo_ok X G (c0.t.d.fact 78 (f := .glo "One") rfl)
  k_One := He.cls_ok (c0.t.d.fact 79 (f := .cls "One") rfl)
  mk_One := He.mkr_ok (c0.t.d.fact 80 (f := .mkr "One") rfl)
  n_One_left_edge := He.noat_ok (c0.t.d.fact 81 (f := .noat "One" "left_edge") rfl)
  n_One_upper_edge := He.noat_ok (c0.t.d.fact 82 (f := .noat "One" "upper_edge") rfl)
  n_One_known := He.noat_ok (c0.t.d.fact 83 (f := .noat "One" "known") rfl)
  n_One_made_of := He.noat_ok (c0.t.d.fact 84 (f := .noat "One" "made_of") rfl)
  n_One_levels := He.noat_ok (c0.t.d.fact 85 (f := .noat "One" "levels") rfl)
  g_Over := He.glo_ok X G (c0.t.d.fact 86 (f := .glo "Over") rfl)
  k_Over := He.cls_ok (c0.t.d.fact 87 (f := .cls "Over") rfl)
  mk_Over := He.mkr_ok (c0.t.d.fact 88 (f := .mkr "Over") rfl)
  n_Over_left_edge := He.noat_ok (c0.t.d.fact 89 (f := .noat "Over" "left_edge") rfl)
  n_Over_upper_edge := He.noat_ok (c0.t.d.fact 90 (f := .noat "Over" "upper_edge") rfl)
  n_Over_known := He.noat_ok (c0.t.d.fact 91 (f := .noat "Over" "known") rfl)
  n_Over_made_of := He.noat_ok (c0.t.d.fact 92 (f := .noat "Over" "made_of") rfl)
  n_Over_levels := He.noat_ok (c0.t.d.fact 93 (f := .noat "Over" "levels") rfl)
  g_Beside := He.glo_ok X G (c0.t.d.fact 94 (f := .glo "Beside") rfl)
  k_Beside := He.cls_ok (c0.t.d.fact 95 (f := .cls "Beside") rfl)
  mk_Beside := He.mkr_ok (c0.t.d.fact 96 (f := .mkr "Beside") rfl)
  n_Beside_left_edge := He.noat_ok (c0.t.d.fact 97 (f := .noat "Beside" "left_edge") rfl)
  n_Beside_upper_edge := He.noat_ok (c0.t.d.fact 98 (f := .noat "Beside" "upper_edge") rfl)
  n_Beside_known := He.noat_ok (c0.t.d.fact 99 (f := .noat "Beside" "known") rfl)
  n_Beside_made_of := He.noat_ok (c0.t.d.fact 100 (f := .noat "Beside" "made_of") rfl)
  n_Beside_levels := He.noat_ok (c0.t.d.fact 101 (f := .noat "Beside" "levels") rfl)
  g_Limb := He.glo_ok X G (c0.t.d.fact 102 (f := .glo "Limb") rfl)
  k_Limb := He.cls_ok (c0.t.d.fact 103 (f := .cls "Limb") rfl)
  mk_Limb := He.mkr_ok (c0.t.d.fact 104 (f := .mkr "Limb") rfl)
  n_Limb_number := He.noat_ok (c0.t.d.fact 105 (f := .noat "Limb" "number") rfl)
  n_Limb_piece := He.noat_ok (c0.t.d.fact 106 (f := .noat "Limb" "piece") rfl)
  n_Limb_upper := He.noat_ok (c0.t.d.fact 107 (f := .noat "Limb" "upper") rfl)
  n_Limb_lower := He.noat_ok (c0.t.d.fact 108 (f := .noat "Limb" "lower") rfl)
  n_Limb_many := He.noat_ok (c0.t.d.fact 109 (f := .noat "Limb" "many") rfl)
  n_Limb_tall := He.noat_ok (c0.t.d.fact 110 (f := .noat "Limb" "tall") rfl)
  g_Grower := He.glo_ok X G (c0.t.d.fact 111 (f := .glo "Grower") rfl)
  k_Grower := He.cls_ok (c0.t.d.fact 112 (f := .cls "Grower") rfl)
  mk_Grower := He.mkr_ok (c0.t.d.fact 113 (f := .mkr "Grower") rfl)
  n_Grower_against := He.noat_ok (c0.t.d.fact 114 (f := .noat "Grower" "against") rfl)
  n_Grower_given := He.noat_ok (c0.t.d.fact 115 (f := .noat "Grower" "given") rfl)
  n_Grower_strips := He.noat_ok (c0.t.d.fact 116 (f := .noat "Grower" "strips") rfl)
  n_Grower_rows_from := He.noat_ok (c0.t.d.fact 117 (f := .noat "Grower" "rows_from") rfl)
  n_Grower_kind := He.noat_ok (c0.t.d.fact 118 (f := .noat "Grower" "kind") rfl)
  g_Kept := He.glo_ok X G (c0.t.d.fact 119 (f := .glo "Kept") rfl)
  k_Kept := He.cls_ok (c0.t.d.fact 120 (f := .cls "Kept") rfl)
  mk_Kept := He.mkr_ok (c0.t.d.fact 121 (f := .mkr "Kept") rfl)
  n_Kept_grower := He.noat_ok (c0.t.d.fact 122 (f := .noat "Kept" "grower") rfl)
  n_Kept_root := He.noat_ok (c0.t.d.fact 123 (f := .noat "Kept" "root") rfl)
  n_Kept_fresh := He.noat_ok (c0.t.d.fact 124 (f := .noat "Kept" "fresh") rfl)
  n_Kept_rows_from := He.noat_ok (c0.t.d.fact 125 (f := .noat "Kept" "rows_from") rfl)
  n_Kept_kind := He.noat_ok (c0.t.d.fact 126 (f := .noat "Kept" "kind") rfl)
  n_Kept_leaf := He.noat_ok (c0.t.d.fact 127 (f := .noat "Kept" "leaf") rfl)
  d_Board___init__ := c0.t.d.def_ 44 (d := d44) rfl
  d_Board_lines := c0.t.d.def_ 45 (d := d45) rfl
  m_Board_lines := He.meth_ok (c0.t.d.fact 128 (f := .meth "Board" "lines") rfl)
  d_Board_cells := c0.t.d.def_ 46 (d := d46) rfl
  m_Board_cells := He.meth_ok (c0.t.d.fact 129 (f := .meth "Board" "cells") rfl)
  d_Piece___init__ := c0.t.d.def_ 47 (d := d47) rfl
  d_Blank___init__ := c0.t.d.def_ 48 (d := d48) rfl
  d_Blank_side := c0.t.d.def_ 49 (d := d49) rfl
  m_Blank_side := He.meth_ok (c0.t.d.fact 130 (f := .meth "Blank" "side") rfl)
  d_Blank_top := c0.t.d.def_ 50 (d := d50) rfl
  m_Blank_top := He.meth_ok (c0.t.d.fact 131 (f := .meth "Blank" "top") rfl)
  d_Blank_lines := c0.t.d.def_ 51 (d := d51) rfl
  m_Blank_lines := He.meth_ok (c0.t.d.fact 132 (f := .meth "Blank" "lines") rfl)
  d_Blank_height := c0.t.d.def_ 52 (d := d52) rfl
  m_Blank_height := He.meth_ok (c0.t.d.fact 133 (f := .meth "Blank" "height") rfl)
  d_One___init__ := c0.t.d.def_ 53 (d := d53) rfl
  d_One_side := c0.t.d.def_ 54 (d := d54) rfl
  m_One_side := He.meth_ok (c0.t.d.fact 134 (f := .meth "One" "side") rfl)
  d_One_top := c0.t.d.def_ 55 (d := d55) rfl
  m_One_top := He.meth_ok (c0.t.d.fact 135 (f := .meth "One" "top") rfl)
  d_One_lines := c0.t.d.def_ 56 (d := d56) rfl
  m_One_lines := He.meth_ok (c0.t.d.fact 136 (f := .meth "One" "lines") rfl)
  d_One_height := c0.t.d.def_ 57 (d := d57) rfl
  m_One_height := He.meth_ok (c0.t.d.fact 137 (f := .meth "One" "height") rfl)
  d_Over___init__ := c0.t.d.def_ 58 (d := d58) rfl
  d_Over_side := c0.t.d.def_ 59 (d := d59) rfl
  m_Over_side := He.meth_ok (c0.t.d.fact 138 (f := .meth "Over" "side") rfl)
  d_Over_top := c0.t.d.def_ 60 (d := d60) rfl
  m_Over_top := He.meth_ok (c0.t.d.fact 139 (f := .meth "Over" "top") rfl)
  d_Over_lines := c0.t.d.def_ 61 (d := d61) rfl
  m_Over_lines := He.meth_ok (c0.t.d.fact 140 (f := .meth "Over" "lines") rfl)
  d_Over_height := c0.t.d.def_ 62 (d := d62) rfl
  m_Over_height := He.meth_ok (c0.t.d.fact 141 (f := .meth "Over" "height") rfl)
  d_Beside___init__ := c0.t.d.def_ 63 (d := d63) rfl
  d_Beside_side := c0.t.d.def_ 64 (d := d64) rfl
  m_Beside_side := He.meth_ok (c0.t.d.fact 142 (f := .meth "Beside" "side") rfl)
  d_Beside_top := c0.t.d.def_ 65 (d := d65) rfl
  m_Beside_top := He.meth_ok (c0.t.d.fact 143 (f := .meth "Beside" "top") rfl)
  d_Beside_lines := c0.t.d.def_ 66 (d := d66) rfl
  m_Beside_lines := He.meth_ok (c0.t.d.fact 144 (f := .meth "Beside" "lines") rfl)
  d_Beside_height := c0.t.d.def_ 67 (d := d67) rfl
  m_Beside_height := He.meth_ok (c0.t.d.fact 145 (f := .meth "Beside" "height") rfl)
  d_Limb___init__ := c0.t.d.def_ 68 (d := d68) rfl
  d_Limb_rows_from := c0.t.d.def_ 69 (d := d69) rfl
  m_Limb_rows_from := He.meth_ok (c0.t.d.fact 146 (f := .meth "Limb" "rows_from") rfl)
  d_Grower___init__ := c0.t.d.def_ 70 (d := d70) rfl
  d_Grower_leaf := c0.t.d.def_ 71 (d := d71) rfl
  m_Grower_leaf := He.meth_ok (c0.t.d.fact 147 (f := .meth "Grower" "leaf") rfl)
  d_Grower_knot := c0.t.d.def_ 72 (d := d72) rfl
  m_Grower_knot := He.meth_ok (c0.t.d.fact 148 (f := .meth "Grower" "knot") rfl)
  d_Grower_joined := c0.t.d.def_ 73 (d := d73) rfl
  m_Grower_joined := He.meth_ok (c0.t.d.fact 149 (f := .meth "Grower" "joined") rfl)
  d_Grower_grown := c0.t.d.def_ 74 (d := d74) rfl
  m_Grower_grown := He.meth_ok (c0.t.d.fact 150 (f := .meth "Grower" "grown") rfl)
  d_Grower_put := c0.t.d.def_ 75 (d := d75) rfl
  m_Grower_put := He.meth_ok (c0.t.d.fact 151 (f := .meth "Grower" "put") rfl)
  d_Grower_drop := c0.t.d.def_ 76 (d := d76) rfl
  m_Grower_drop := He.meth_ok (c0.t.d.fact 152 (f := .meth "Grower" "drop") rfl)
  d_Grower_change := c0.t.d.def_ 77 (d := d77) rfl
  m_Grower_change := He.meth_ok (c0.t.d.fact 153 (f := .meth "Grower" "change") rfl)
  d_Kept___init__ := c0.t.d.def_ 78 (d := d78) rfl
  d_Kept_side := c0.t.d.def_ 79 (d := d79) rfl
  m_Kept_side := He.meth_ok (c0.t.d.fact 154 (f := .meth "Kept" "side") rfl)
  d_Kept_top := c0.t.d.def_ 80 (d := d80) rfl
  m_Kept_top := He.meth_ok (c0.t.d.fact 155 (f := .meth "Kept" "top") rfl)
  d_Kept_lines := c0.t.d.def_ 81 (d := d81) rfl
  m_Kept_lines := He.meth_ok (c0.t.d.fact 156 (f := .meth "Kept" "lines") rfl)
  d_Kept_pieces := c0.t.d.def_ 82 (d := d82) rfl
  m_Kept_pieces := He.meth_ok (c0.t.d.fact 157 (f := .meth "Kept" "pieces") rfl)
  d_Kept_put := c0.t.d.def_ 83 (d := d83) rfl
  m_Kept_put := He.meth_ok (c0.t.d.fact 158 (f := .meth "Kept" "put") rfl)
  d_Kept_drop := c0.t.d.def_ 84 (d := d84) rfl
  m_Kept_drop := He.meth_ok (c0.t.d.fact 159 (f := .meth "Kept" "drop") rfl)
  d_Kept_change := c0.t.d.def_ 85 (d := d85) rfl
  m_Kept_change := He.meth_ok (c0.t.d.fact 160 (f := .meth "Kept" "change") rfl)
  d_Kept_retop := c0.t.d.def_ 86 (d := d86) rfl
  m_Kept_retop := He.meth_ok (c0.t.d.fact 161 (f := .meth "Kept" "retop") rfl)
  d_Kept_note := c0.t.d.def_ 87 (d := d87) rfl
  m_Kept_note := He.meth_ok (c0.t.d.fact 162 (f := .meth "Kept" "note") rfl)
  m_Blank_kind := He.meth_ok (c0.t.d.fact 163 (f := .meth "Blank" "kind") rfl)
  m_One_kind := He.meth_ok (c0.t.d.fact 164 (f := .meth "One" "kind") rfl)
  m_Over_kind := He.meth_ok (c0.t.d.fact 165 (f := .meth "Over" "kind") rfl)
  m_Beside_kind := He.meth_ok (c0.t.d.fact 166 (f := .meth "Beside" "kind") rfl)
  kit_Blank := of_decide_eq_true (exF.fact c0.more 0 rfl)
  cl_Blank := He.eqO_ok (exF.fact c0.more 1 rfl)
  mo_Blank := of_decide_eq_true (exF.fact c0.more 2 rfl)
  kit_One := of_decide_eq_true (exF.fact c0.more 3 rfl)
  cl_One := He.eqO_ok (exF.fact c0.more 4 rfl)
  mo_One := of_decide_eq_true (exF.fact c0.more 5 rfl)
  kit_Over := of_decide_eq_true (exF.fact c0.more 6 rfl)
  cl_Over := He.eqO_ok (exF.fact c0.more 7 rfl)
  mo_Over := of_decide_eq_true (exF.fact c0.more 8 rfl)
  kit_Beside := of_decide_eq_true (exF.fact c0.more 9 rfl)
  cl_Beside := He.eqO_ok (exF.fact c0.more 10 rfl)
  mo_Beside := of_decide_eq_true (exF.fact c0.more 11 rfl)
  og := He.eqO_ok (exF.fact c0.more 12 rfl)
  cr_Piece := (fun z => ⟨(He.ba z).1, He.eqO_ok (He.ba z).2⟩ : _ → ClX.CRead K (He.ga K "Piece") (.type "type")) (exF.fact c0.more 13 rfl)
  cv_Piece := ⟨isValB_ok (exF.fact c0.more 14 rfl), rfl⟩
  ot := of_decide_eq_true (exF.fact c0.more 15 rfl)
theorem ne_tab {w : World} {h : Heap} {K : PySem.W.Frag} (c0 : He.SaysX fa fn [] [pB, pW] exF w h K) : (He.cT K pB).2 ≠ (He.cT K pW).2 := fun e => by
  have := exF.fact c0.more 16 (f := x16) rfl
  unfold x16 at this
  rw [decide_eq_true e] at this
  cases this
end PT
namespace PT
open PySem PySem.Spec PyProof.Rows L2
/-! ### a def by its body -/
abbrev cx (P : Program) (w : World) (K : PySem.W.Frag) (mg : Str → Option Value) (base : Heap) (N : List Str) (q : Str) (st : Stmt) (f : Addr) (cdv : Value) (A : Around) (outer : List Env) (s : Shared) (H : Hp) (E : XK) : Cx := (cxOf CX0 P w K mg base N q (defScope st) f cdv A outer s H E).nox
theorem ok_of {P : Program} {w : World} {K : PySem.W.Frag} {mg : Str → Option Value} {base : Heap} {p : Str × Option Str} {n q : Str} {st : Stmt} {N ps : List Str} {k : Nat} {sp : Sp} (D : DefF K p n q st) (S : FnScope N ps (defScope st))
    (hb : ∀ (kV doc pm : Value) (an : Option Addr) (cdv ct : Value) (us : List Value), us.length = ps.length → bindArgs (PySem.W.fnOf n q (defArgs st) (defBody st) (defScope st) .none kV doc pm an cdv ct) ⟨us, []⟩ = pure (ps.zip us)) (len : ∀ vs H Q E, sp vs H Q E → vs.length = ps.length)
    (body : ∀ (cdv : Value) (A : Around) (outer : List Env) (s : Shared) (H : Hp) (vs : List V) (Q : VK) (E : XK), Room k (A.deeper (envOfC q (defScope st) s.heap.objs.size (He.fAd K p) cdv)) → sp vs H Q E →
      RB (cx P w K mg base N q st (He.fAd K p) cdv A outer s H E) (defBody st) { nx := fun _ H' => Q .non H', rt := Q } (start N vs) H) : Ok P w K mg base (k + 1) (He.fAd K p) ps sp := by
  obtain ⟨fd, F⟩ := D
  exact ⟨⟨fd, F.ok S len fun cdv A outer s H vs Q E hr hsp => ⟨_, pss_RB.nox, body cdv A outer s H vs Q E hr hsp⟩, F.bindsN hb⟩, F.kp⟩
theorem v_tyn {X : Cx} {R : Hp → Hp → Prop} [Rl R] {σ : L2.St} {H : Hp} {pos : Pos} {n : Str} {T : String} (hm : X.mg n = none) (hv : bootBuiltins n = some (.type T)) (hg : Gl X n := by rfl) (hn : n ≠ "__name__" := by decide) (hd : (n == ("__debug__" : Str)) = false := by decide) : EvV X R (.Name n pos) σ H (.ty T) :=
  v_bltn (v := .ty T) hm hv rfl hg hn hd
/-! ### built-ins -/
section
variable {X : Cx} {R : Hp → Hp → Prop} [Rl R] {σ : L2.St} {H H' : Hp} {a b c e : Expr} {es : List Expr} {x y z v : V} {pos p : Pos}
/-- isinstance(x, T) -/
theorem v_isi {n : Str} {ty u : Value} {cv : V} {r : Bool} (hn : n = "isinstance") (hm : X.mg "isinstance" = none) (ha : EvV X R a σ H x) (hb : EvV X R b σ H cv) (hc : ClsV cv u) (ht : Kp R H fun H => TyX X.K H x ty) (hk : PySem.W.kitOne X.K ty u = some r) (hg : Gl X "isinstance" := by rfl)
    (hs : starEach [a, b] X.env = (false, eval a X.env) :: starEach [b] X.env := by rfl) (hs1 : starEach [b] X.env = (false, eval b X.env) :: starEach [] X.env := by rfl) (hpl : (backTo pos (starEach [b] X.env)).any (·.1) = false := by rfl) : EvV X R (.Call (.Name n p) [a, b] [] pos) σ H (.bl r) := by
  subst hn
  refine g_b (PA := fun ws _ => ws = [x, cv]) call_isi hm boot_isinstance (a_v ha (a_1 hb hs1) hs) (fun vs H1 r1 k1 Q q => ?_) hg (by decide) (by decide) hs hpl
  obtain rfl := k1.now
  exact ⟨x, cv, ty, u, r, rfl, hc, ht H1 r1, hk, q H1 (Rl.rfl H1)⟩
theorem v_max {n : Str} {i j : Int} (hn : n = "max") (hm : X.mg "max" = none) (ha : EvV X R a σ H (.int i)) (hb : EvV X R b σ H (.int j)) (hc : X.calm = true := by rfl) (hg : Gl X "max" := by rfl)
    (hs : starEach [a, b] X.env = (false, eval a X.env) :: starEach [b] X.env := by rfl) (hs1 : starEach [b] X.env = (false, eval b X.env) :: starEach [] X.env := by rfl) (hpl : (backTo pos (starEach [b] X.env)).any (·.1) = false := by rfl) : EvV X R (.Call (.Name n p) [a, b] [] pos) σ H (.int (if j > i then j else i)) := by
  subst hn
  refine g_b (PA := fun ws _ => ws = [.int i, .int j]) (call_max2 hc) hm boot_max (a_v ha (a_1 hb hs1) hs) (fun vs H1 r1 k1 Q q => ?_) hg (by decide) (by decide) hs hpl
  obtain rfl := k1.now
  exact ⟨i, j, rfl, q H1 (Rl.rfl H1)⟩
theorem v_min {n : Str} {i j : Int} (hn : n = "min") (hm : X.mg "min" = none) (ha : EvV X R a σ H (.int i)) (hb : EvV X R b σ H (.int j)) (hc : X.calm = true := by rfl) (hg : Gl X "min" := by rfl)
    (hs : starEach [a, b] X.env = (false, eval a X.env) :: starEach [b] X.env := by rfl) (hs1 : starEach [b] X.env = (false, eval b X.env) :: starEach [] X.env := by rfl) (hpl : (backTo pos (starEach [b] X.env)).any (·.1) = false := by rfl) : EvV X R (.Call (.Name n p) [a, b] [] pos) σ H (.int (if j < i then j else i)) := by
  subst hn
  refine g_b (PA := fun ws _ => ws = [.int i, .int j]) (call_min2 hc) hm boot_min (a_v ha (a_1 hb hs1) hs) (fun vs H1 r1 k1 Q q => ?_) hg (by decide) (by decide) hs hpl
  obtain rfl := k1.now
  exact ⟨i, j, rfl, q H1 (Rl.rfl H1)⟩
/-- all(a new list of truths) -/
theorem v_all {n : Str} {bs : List Bool} (hn : n = "all") (hm : X.mg "all" = none) (ha : EvN X R a σ H (bs.map V.bl)) (hc : X.calm = true := by rfl) (hg : Gl X "all" := by rfl)
    (hs : starEach [a] X.env = (false, eval a X.env) :: starEach [] X.env := by rfl) (hpl : (backTo pos (starEach [] X.env)).any (·.1) = false := by rfl) : EvV X R (.Call (.Name n p) [a] [] pos) σ H (.bl (bs.all id)) := by
  subst hn
  refine g_b (cr_all hc) hm boot_all (a_p ha.p (a_nil (PA := fun ws _ => ws = [])) hs) (fun vs H1 r1 k1 Q q => ?_) hg (by decide) (by decide) hs hpl
  obtain ⟨v, r, rfl, ⟨q', rfl, h1⟩, rfl⟩ := k1.now
  exact ⟨q', bs, rfl, SqL.of h1, q H1 (Rl.rfl H1)⟩
/-- list(xs) -/
theorem n_list {n : Str} {q : Addr} {xs : List V} (hn : n = "list") (hm : X.mg "list" = none) (ha : EvV X R a σ H (.ref q)) (h : Kp R H fun H => SqL X.K H q xs) (hg : Gl X "list" := by rfl)
    (hs : starEach [a] X.env = (false, eval a X.env) :: starEach [] X.env := by rfl) (hpl : (backTo pos (starEach [] X.env)).any (·.1) = false := by rfl) : EvN X R (.Call (.Name n p) [a] [] pos) σ H xs := by
  subst hn
  refine g_ty (PA := fun ws _ => ws = [.ref q]) call_list_of hm PyProof.Rows.boot_list (a_1 ha hs) (fun vs H1 r1 k1 Q k => ?_) hg (by decide) (by decide) hs hpl
  obtain rfl := k1.now
  exact ⟨q, xs, rfl, .inl (h H1 r1), fun l hl => k l _ hl (Rl.ex (Ex.nw hl)) upd_same⟩
/-- list(range(n)), list(range(m, n)) -/
theorem rgV_0 (n : Nat) : rgV 0 (n : Int) = intsV n := by
  unfold rgV intsV
  rw [Int.sub_zero, Int.toNat_natCast]
  refine List.map_congr_left fun i _ => ?_
  rw [Int.zero_add]
theorem n_lrg {n m : Str} {i : Nat} {pr p2 : Pos} (hn : n = "list") (hm : m = "range") (hl : X.mg "list" = none) (hr : X.mg "range" = none) (ha : EvV X R a σ H (.int (i : Int))) (hi : i ≤ 100000) (hc : X.calm = true := by rfl) (hg : Gl X "list" := by rfl) (hg2 : Gl X "range" := by rfl)
    (na : starEach [a] X.env = (false, eval a X.env) :: starEach [] X.env := by rfl) (nb : starEach [.Call (.Name m pr) [a] [] p2] X.env = (false, eval (.Call (.Name m pr) [a] [] p2) X.env) :: starEach [] X.env := by rfl) :
    EvN X R (.Call (.Name n p) [.Call (.Name m pr) [a] [] p2] [] pos) σ H (intsV i) := by
  subst hn hm
  intro H1 r1 Q q
  refine RE.of (pe_listRg hc hg hl (prg_1 hg2 hr pe_RE na) nb) (ha H1 r1 _ fun H2 r2 => ⟨(i : Int), rfl, RgOk.of_le (by omega) (by omega) (by omega) (by omega), fun d hd => ?_⟩)
  rw [rgV_0]
  exact q d _ (Rl.back r2 hd) (Rl.trans r2 (Rl.ex (Ex.nw hd))) upd_same
theorem n_lrg2 {n m : Str} {i j : Nat} {pr p2 : Pos} (hn : n = "list") (hm : m = "range") (hl : X.mg "list" = none) (hr : X.mg "range" = none) (ha : EvV X R a σ H (.int (i : Int))) (hb : EvV X R b σ H (.int (j : Int))) (hi : i ≤ 100000 ∧ j ≤ 100000) (hc : X.calm = true := by rfl) (hg : Gl X "list" := by rfl) (hg2 : Gl X "range" := by rfl)
    (na : starEach [a, b] X.env = (false, eval a X.env) :: starEach [b] X.env := by rfl) (na1 : starEach [b] X.env = (false, eval b X.env) :: starEach [] X.env := by rfl)
    (nb : starEach [.Call (.Name m pr) [a, b] [] p2] X.env = (false, eval (.Call (.Name m pr) [a, b] [] p2) X.env) :: starEach [] X.env := by rfl) (np : (backTo p2 (starEach [b] X.env)).any (·.1) = false := by rfl) :
    EvN X R (.Call (.Name n p) [.Call (.Name m pr) [a, b] [] p2] [] pos) σ H ((List.range (j - i)).map fun (k : Nat) => V.int ((i : Int) + (k : Int))) := by
  subst hn hm
  intro H1 r1 Q q
  refine RE.of (pe_listRg hc hg hl (prg_2 hg2 hr pe_RE pe_RE na na1 np) nb) (ha H1 r1 _ fun H2 r2 => hb H2 (Rl.trans r1 r2) _ fun H3 r3 => ⟨(i : Int), (j : Int), rfl, rfl, RgOk.of_le (by omega) (by omega) (by omega) (by omega), fun d hd => ?_⟩)
  have e : rgV (i : Int) (j : Int) = (List.range (j - i)).map fun (k : Nat) => V.int ((i : Int) + (k : Int)) := by
    unfold rgV
    rw [show ((j : Int) - (i : Int)).toNat = j - i by omega]
  rw [e]
  exact q d _ (Rl.back (Rl.trans r2 r3) hd) (Rl.trans (Rl.trans r2 r3) (Rl.ex (Ex.nw hd))) upd_same
end
/-! ### rows -/
abbrev mkS (l : List Nat) : Str := ⟨l.toArray⟩
theorem mkS_len (l : List Nat) : (mkS l).length = l.length := by show l.toArray.size = l.length; simp
theorem mkS_app (a b : List Nat) : mkS a ++ mkS b = mkS (a ++ b) := by
  show (⟨a.toArray ++ b.toArray⟩ : Str) = ⟨(a ++ b).toArray⟩
  rw [List.append_toArray]
theorem mkS_inj {a b : List Nat} (h : mkS a = mkS b) : a = b := by
  have := congrArg (fun s : Str => s.cps.toList) h
  simpa using this
theorem mkS_take (l : List Nat) (k : Nat) : cutS (mkS l) none (some (k : Int)) = mkS (l.take k) := by
  unfold cutS
  rw [HT.sIx_none, HT.sIx_nat, mkS_len]
  show (⟨((l.drop 0).take (min k l.length - 0)).toArray⟩ : Str) = _
  rw [List.drop_zero, Nat.sub_zero, ← List.take_eq_take_min]
theorem mkS_drop (l : List Nat) (k : Nat) : cutS (mkS l) (some (k : Int)) none = mkS (l.drop k) := by
  unfold cutS
  rw [HT.sIx_none, HT.sIx_nat, mkS_len]
  show (⟨((l.drop (min k l.length)).take (l.length - min k l.length)).toArray⟩ : Str) = _
  by_cases h : k ≤ l.length
  · rw [Nat.min_eq_left h, List.take_of_length_le (by rw [List.length_drop]; omega)]
  · rw [Nat.min_eq_right (by omega), List.drop_of_length_le (by omega), List.drop_of_length_le (by omega), List.take_nil]
theorem mkS_nil : (mkS [] : Str) = ("" : Str) := by decide +kernel
theorem mkS_at {l : List Nat} {i : Nat} {k : Nat} (h : l[i]? = some k) : atI (mkS l).cps.toList (i : Int) = some k := by
  show atI l (i : Int) = some k
  exact atI_nat h
theorem signs_mkS (l : List Nat) : signs (mkS l) = l.map fun c => V.str ⟨#[c]⟩ := rfl
abbrev sgn (c : Nat) : V := .str ⟨#[c]⟩
theorem small_line {n : Nat} (h : n ≤ 1000) : n ≤ sizeLine := Nat.le_trans h (by decide)
/-- a letter, a point -/
def isLet (c : Nat) : Bool := decide (97 ≤ c) && decide (c ≤ 122)
def isSg (c : Nat) : Bool := isLet c || decide (c = 46)
def rowOk (l : List Nat) : Prop := l.length ≤ 48 ∧ ∀ c ∈ l, isSg c = true
theorem rowOk.app {a b : List Nat} (ha : rowOk a) (hb : rowOk b) (h : a.length + b.length ≤ 48) : rowOk (a ++ b) := ⟨by rw [List.length_append]; exact h, fun c hc => (List.mem_append.mp hc).elim (ha.2 c) (hb.2 c)⟩
theorem rowOk.take {a : List Nat} (ha : rowOk a) (k : Nat) : rowOk (a.take k) := ⟨by rw [List.length_take]; exact Nat.le_trans (Nat.min_le_right _ _) ha.1, fun c hc => ha.2 c (List.mem_of_mem_take hc)⟩
theorem rowOk.drop {a : List Nat} (ha : rowOk a) (k : Nat) : rowOk (a.drop k) := ⟨by rw [List.length_drop]; exact Nat.le_trans (Nat.sub_le _ _) ha.1, fun c hc => ha.2 c (List.mem_of_mem_drop hc)⟩
theorem rowOk.one {c : Nat} (h : isSg c = true) : rowOk [c] := ⟨by simp, fun d hd => by rw [List.mem_singleton.mp hd]; exact h⟩
def alpha : List Nat := [97, 98, 99, 100, 101, 102, 103, 104, 105, 106, 107, 108, 109, 110, 111, 112, 113, 114, 115, 116, 117, 118, 119, 120, 121, 122]
theorem alpha_eq : ("abcdefghijklmnopqrstuvwxyz" : Str) = mkS alpha := by decide +kernel
theorem mem_alpha (c : Nat) : decide (c ∈ ("abcdefghijklmnopqrstuvwxyz" : Str).cps.toList) = isLet c := by
  rw [alpha_eq]
  show decide (c ∈ alpha) = isLet c
  by_cases h : 97 ≤ c ∧ c ≤ 122
  · have : c ∈ alpha := by
      obtain ⟨h1, h2⟩ := h
      obtain ⟨d, rfl⟩ : ∃ d, c = 97 + d := ⟨c - 97, by omega⟩
      have hd : d < 26 := by omega
      revert h1 h2
      have key : ∀ d : Fin 26, 97 + d.val ∈ alpha := by decide
      exact fun _ _ => key ⟨d, hd⟩
    rw [decide_eq_true this]
    unfold isLet
    rw [decide_eq_true h.1, decide_eq_true h.2]
    rfl
  · have : c ∉ alpha := fun z => by
      have key : ∀ x ∈ alpha, 97 ≤ x ∧ x ≤ 122 := by decide
      exact h (key c z)
    rw [decide_eq_false this]
    unfold isLet
    by_cases h1 : 97 ≤ c
    · rw [decide_eq_true h1, decide_eq_false (fun h2 => h ⟨h1, h2⟩)]
      rfl
    · rw [decide_eq_false h1]
      rfl
theorem sgn_dot (c : Nat) : decide (sgn c = V.str ".") = decide (c = 46) := by
  have e : ("." : Str) = ⟨#[46]⟩ := by decide +kernel
  rw [e]
  by_cases h : c = 46
  · subst h; rfl
  · rw [decide_eq_false h]
    refine decide_eq_false fun z => h ?_
    have z1 := V.str.inj z
    have := congrArg (fun s : Str => s.cps.toList) z1
    simpa using this
/-! ### the promises of small defs -/
abbrev Ret (v : V) (H : Hp) (Q : VK) : Prop := ∀ H', Ex H H' → Q v H'
def spWhole : Sp := fun vs H Q _ => ∃ i : Int, vs = [.int i] ∧ Ret (.bl true) H Q
def spWithin : Sp := fun vs H Q _ => ∃ i lo hi : Int, vs = [.int i, .int lo, .int hi] ∧ lo ≤ i ∧ i ≤ hi ∧ Ret (.bl true) H Q
def spLetter : Sp := fun vs H Q _ => ∃ c : Nat, vs = [sgn c] ∧ Ret (.bl (isLet c)) H Q
def spIsRow : Sp := fun vs H Q _ => ∃ l, vs = [.str (mkS l)] ∧ rowOk l ∧ Ret (.bl true) H Q
def spNeedRow : Sp := fun vs H Q _ => ∃ l, vs = [.str (mkS l)] ∧ rowOk l ∧ Ret .non H Q
def spNeedRows : Sp := fun vs H Q _ => ∃ l m, vs = [.str (mkS l), .str (mkS m)] ∧ rowOk l ∧ rowOk m ∧ Ret .non H Q
theorem kit_int_int {K : PySem.W.Frag} : PySem.W.kitOne K (.type "int") (.type "int") = some true := kit_ty (by decide +kernel)
theorem kit_int_bool {K : PySem.W.Frag} : PySem.W.kitOne K (.type "int") (.type "bool") = some false := kit_ty (by decide +kernel)
theorem kit_str_str {K : PySem.W.Frag} : PySem.W.kitOne K (.type "str") (.type "str") = some true := kit_ty (by decide +kernel)
theorem kit_list_list {K : PySem.W.Frag} : PySem.W.kitOne K (.type "list") (.type "list") = some true := kit_ty (by decide +kernel)
theorem sc_is_whole : FnScope ["thing"] ["thing"] (defScope (top 16)) := ⟨rfl, rfl, rfl, by decide +kernel, rfl, by decide +kernel, by decide +kernel⟩
theorem sc_is_within : FnScope ["thing", "low", "high"] ["thing", "low", "high"] (defScope (top 17)) := ⟨rfl, rfl, rfl, by decide +kernel, rfl, by decide +kernel, by decide +kernel⟩
theorem sc_is_letter : FnScope ["thing"] ["thing"] (defScope (top 18)) := ⟨rfl, rfl, rfl, by decide +kernel, rfl, by decide +kernel, by decide +kernel⟩
theorem sc_is_row : FnScope ["thing", "sign"] ["thing"] (defScope (top 19)) := ⟨rfl, rfl, rfl, by decide +kernel, rfl, by decide +kernel, by decide +kernel⟩
theorem sc_need_row : FnScope ["row"] ["row"] (defScope (top 20)) := ⟨rfl, rfl, rfl, by decide +kernel, rfl, by decide +kernel, by decide +kernel⟩
theorem sc_need_rows : FnScope ["side", "top"] ["side", "top"] (defScope (top 21)) := ⟨rfl, rfl, rfl, by decide +kernel, rfl, by decide +kernel, by decide +kernel⟩
section
variable {P : Program} {w : World} {K : PySem.W.Frag} {mg : Str → Option Value} {base : Heap} (T : Txt K mg)
include T
theorem ok_is_whole : Ok P w K mg base 1 (He.fAd K ("is_whole", none)) ["thing"] spWhole := by
  refine ok_of T.d_is_whole sc_is_whole (fun _ _ _ _ _ _ us hl => match us, hl with | [_], _ => rfl) (fun vs H Q E h => by obtain ⟨i, rfl, _⟩ := h; rfl) (fun cdv A outer s H vs Q E hr h => ?_)
  obtain ⟨i, rfl, k⟩ := h
  exact q_ret (R := Ex) (v_and (v_isi rfl T.b_isinstance (v_name 0 rfl) (v_tyn T.b_int PyProof.Rows.boot_int) (.ty "int") (fun _ _ => .base (.int i)) kit_int_int) fun _ =>
    v_one (v_not (v_isi rfl T.b_isinstance (v_name 0 rfl) (v_tyn T.b_bool PyProof.Rows.boot_bool) (.ty "bool") (fun _ _ => .base (.int i)) kit_int_bool))) fun H1 r1 => k H1 r1
theorem ok_is_within : Ok P w K mg base 2 (He.fAd K ("is_within", none)) ["thing", "low", "high"] spWithin := by
  refine ok_of T.d_is_within sc_is_within (fun _ _ _ _ _ _ us hl => match us, hl with | [_, _, _], _ => rfl) (fun vs H Q E h => by obtain ⟨i, lo, hi, rfl, _⟩ := h; rfl) (fun cdv A outer s H vs Q E hr h => ?_)
  obtain ⟨i, lo, hi, rfl, h1, h2, k⟩ := h
  refine q_ret (R := Ex) (v_and (k := true) (g_call (ok_is_whole T) T.g_is_whole hr (a_1 (v_name 0 rfl)) fun vs H1 r1 k1 Q q => ?_) fun _ => v_one (v_chainLe (v_name 1 rfl) (v_name 0 rfl) (v_name 2 rfl) ⟨h1, h2⟩)) fun H1 r1 => k H1 r1
  obtain rfl := k1.now
  exact ⟨i, rfl, q⟩
theorem ok_is_letter : Ok P w K mg base 1 (He.fAd K ("is_letter", none)) ["thing"] spLetter := by
  refine ok_of T.d_is_letter sc_is_letter (fun _ _ _ _ _ _ us hl => match us, hl with | [_], _ => rfl) (fun vs H Q E h => by obtain ⟨i, rfl, _⟩ := h; rfl) (fun cdv A outer s H vs Q E hr h => ?_)
  obtain ⟨i, rfl, k⟩ := h
  obtain ⟨t, ht⟩ := T.c_LETTERS
  refine q_ret (R := Ex) (v_and (v_isi rfl T.b_isinstance (v_name 0 rfl) (v_tyn T.b_str PyProof.Rows.boot_str) (.ty "str") (fun _ _ => .base (.str _)) kit_str_str) fun _ =>
    v_and (l := isLet i) (v_eq (v_lenS rfl T.b_len (v_name 0 rfl) (by show 1 ≤ sizeLine; decide)) v_int) fun _ => v_one ((v_in (v_name 0 rfl) (v_glob ht ⟨t, rfl⟩)).is (by rw [mem_alpha]))) fun H1 r1 => ?_
  exact k H1 r1
theorem ok_is_row : Ok P w K mg base 1 (He.fAd K ("is_row", none)) ["thing"] spIsRow := by
  refine ok_of T.d_is_row sc_is_row (fun _ _ _ _ _ _ us hl => match us, hl with | [_], _ => rfl) (fun vs H Q E h => by obtain ⟨i, rfl, _⟩ := h; rfl) (fun cdv A outer s H vs Q E hr h => ?_)
  obtain ⟨l, rfl, hl, k⟩ := h
  obtain ⟨t, ht⟩ := T.c_LETTERS
  obtain ⟨t2, ht2⟩ := T.c_MOST_SIGNS
  refine q_no (R := Ex) ((t_w (w_or (t_not (t_val (v_isi rfl T.b_isinstance (v_name 0 rfl) (v_tyn T.b_str PyProof.Rows.boot_str) (.ty "str") (fun _ _ => .base (.str _)) kit_str_str))) fun _ =>
    w_or1 (t_gt (v_lenS rfl T.b_len (v_name 0 rfl) (by rw [mkS_len]; exact small_line (by have := hl.1; omega))) (v_glob ht2 ⟨t2, rfl⟩)))).is (by
      rw [mkS_len]
      have := hl.1
      exact decide_eq_false (by omega))) fun H1 r1 => ?_
  refine q_ret (R := Ex) (v_all (bs := l.map fun _ => true) rfl T.b_all (n_lc 1 (i_str (v_name 0 rfl)) ?_ ?_ (by show 1 < 2; decide) (fun s0 H0 C cl fp i x y H2 r2 hx hy => ?_) sc_is_row.nd (blkOk_by (N := ["thing", "sign"]) (sc := defScope (top 19)) (by decide +kernel)))) fun H2 r2 => ?_
  · simp [signs]
  · simp [signs]; have := hl.1; omega
  · rw [signs_mkS, List.getElem?_map] at hx
    cases e : l[i]? with
    | none => rw [e] at hx; cases hx
    | some c =>
      rw [e] at hx
      obtain rfl : sgn c = x := Option.some.inj hx
      have hy' : y = .bl true := by
        rw [List.getElem?_map, List.getElem?_map, e] at hy
        exact (Option.some.inj hy).symm
      subst hy'
      have hc := hl.2 c (List.mem_of_getElem? e)
      refine (v_or (v_in (v_name 1 rfl) (v_glob ht ⟨t, rfl⟩)) fun _ => v_one (v_eq (v_name 1 rfl) v_str)).is ?_
      rw [mem_alpha]
      show V.bl (isLet c || decide (sgn c = V.str ".")) = .bl true
      rw [sgn_dot]
      exact congrArg V.bl hc
  · have e : (l.map fun _ => true).all id = true := by simp
    rw [e]
    exact k H2 (r1.tr r2)
theorem ok_need_row : Ok P w K mg base 2 (He.fAd K ("need_row", none)) ["row"] spNeedRow := by
  refine ok_of T.d_need_row sc_need_row (fun _ _ _ _ _ _ us hl => match us, hl with | [_], _ => rfl) (fun vs H Q E h => by obtain ⟨i, rfl, _⟩ := h; rfl) (fun cdv A outer s H vs Q E hr h => ?_)
  obtain ⟨l, rfl, hl, k⟩ := h
  refine q_no (R := Ex) (t_not (k := true) (t_val (g_call (ok_is_row T) T.g_is_row hr (a_1 (v_name 0 rfl)) fun vs H1 r1 k1 Q q => ?_))) fun H1 r1 => RB.nil (k H1 r1)
  obtain rfl := k1.now
  exact ⟨l, rfl, hl, q⟩
theorem ok_need_rows : Ok P w K mg base 3 (He.fAd K ("need_rows", none)) ["side", "top"] spNeedRows := by
  refine ok_of T.d_need_rows sc_need_rows (fun _ _ _ _ _ _ us hl => match us, hl with | [_, _], _ => rfl) (fun vs H Q E h => by obtain ⟨i, j, rfl, _⟩ := h; rfl) (fun cdv A outer s H vs Q E hr h => ?_)
  obtain ⟨l, m, rfl, hl, hm, k⟩ := h
  refine q_expr (R := Ex) (g_call (K := KV Ex .non) (ok_need_row T) T.g_need_row hr (a_1 (v_name 0 rfl)) fun vs H1 r1 k1 Q q => ?_) fun H1 r1 => q_expr (R := Ex) (g_call (K := KV Ex .non) (ok_need_row T) T.g_need_row hr (a_1 (v_name 1 rfl)) fun vs H1 r1 k1 Q q => ?_) fun H2 r2 => RB.nil (k H2 (r1.tr r2))
  · obtain rfl := k1.now
    exact ⟨l, rfl, hl, q⟩
  · obtain rfl := k1.now
    exact ⟨m, rfl, hm, q⟩
end
end PT
namespace PT
open PySem PySem.Spec PyProof.Rows L2
/-! ### lists of lines -/
def vL (k : Nat) (f : Nat → Nat) : List V := (List.range k).map fun i => V.int (f i : Int)
theorem vL_len (k : Nat) (f : Nat → Nat) : (vL k f).length = k := by unfold vL; rw [List.length_map, List.length_range]
theorem vL_get {k : Nat} {f : Nat → Nat} {i : Nat} (h : i < k) : (vL k f)[i]? = some (.int (f i : Int)) := by
  unfold vL
  rw [List.getElem?_map, List.getElem?_range h]
  rfl
theorem vL_at {k : Nat} {f : Nat → Nat} {i : Nat} (h : i < k) : atI (vL k f) (i : Int) = some (.int (f i : Int)) := atI_nat (vL_get h)
theorem vL_congr {k : Nat} {f g : Nat → Nat} (h : ∀ i, i < k → f i = g i) : vL k f = vL k g := by
  unfold vL
  exact List.map_congr_left fun i hi => by rw [h i (List.mem_range.mp hi)]
theorem vL_ext {k : Nat} {f : Nat → Nat} {xs : List V} (hl : xs.length = k) (h : ∀ i, i < k → xs[i]? = some (.int (f i : Int))) : xs = vL k f := by
  refine List.ext_getElem? fun i => ?_
  by_cases hi : i < k
  · rw [h i hi, vL_get hi]
  · rw [List.getElem?_eq_none (by omega), List.getElem?_eq_none (by rw [vL_len]; omega)]
theorem intsV_eq (n : Nat) : intsV n = vL n id := rfl
theorem vL_swap {k p : Nat} {f : Nat → Nat} (h : p + 1 < k) : (vL k f).take p ++ [V.int (f (p + 1) : Int), V.int (f p : Int)] ++ (vL k f).drop (p + 2) = vL k (swapF p f) := by
  have l1 : ((vL k f).take p).length = p := by rw [List.length_take, vL_len]; omega
  refine vL_ext ?_ fun i hi => ?_
  · rw [List.length_append, List.length_append, l1, List.length_drop, vL_len]
    show p + 2 + (k - (p + 2)) = k
    omega
  · by_cases h1 : i < p
    · rw [List.append_assoc, List.getElem?_append_left (by omega), List.getElem?_take_of_lt h1, vL_get hi, swap_ne (by omega) (by omega)]
    · by_cases h2 : i = p
      · rw [List.append_assoc, List.getElem?_append_right (by omega), l1, h2, Nat.sub_self, swap_at]
        rfl
      · by_cases h3 : i = p + 1
        · rw [List.append_assoc, List.getElem?_append_right (by omega), l1, h3, show p + 1 - p = 1 by omega, swap_at1]
          rfl
        · rw [List.getElem?_append_right (by rw [List.length_append, l1]; show p + 2 ≤ i; omega), List.length_append, l1, List.getElem?_drop]
          show (vL k f)[p + 2 + (i - (p + 2))]? = _
          rw [show p + 2 + (i - (p + 2)) = i by omega, vL_get hi, swap_ne h2 h3]
theorem vL_two {k p : Nat} {f : Nat → Nat} (h : p + 1 < k) : cutV (vL k f) (some (p : Int)) (some ((p : Int) + 2)) = [V.int (f p : Int), V.int (f (p + 1) : Int)] := by
  unfold cutV
  rw [show ((p : Int) + 2) = ((p + 2 : Nat) : Int) by omega, HT.sIx_nat, HT.sIx_nat, vL_len, Nat.min_eq_left (by omega), Nat.min_eq_left (by omega), show p + 2 - p = 2 by omega]
  refine List.ext_getElem? fun i => ?_
  rw [List.getElem?_take]
  by_cases h2 : i < 2
  · rw [if_pos h2, List.getElem?_drop, vL_get (by omega)]
    have : i = 0 ∨ i = 1 := by omega
    rcases this with rfl | rfl <;> rfl
  · rw [if_neg h2]
    obtain ⟨j, rfl⟩ : ∃ j, i = j + 2 := ⟨i - 2, by omega⟩
    rfl
def vS (w : List Nat) : List V := w.map fun (p : Nat) => V.int (p : Int)
theorem vS_len (w : List Nat) : (vS w).length = w.length := List.length_map _
/-- the places of the steps that do something -/
def wk : List Nat → (Nat → Nat) → Nat → List Nat
  | [], _, _ => []
  | p :: w, f, i => (if f p < f (p + 1) then [i] else []) ++ wk w (stepF p f) (i + 1)
theorem wk_app (p : Nat) : ∀ (v : List Nat) (f : Nat → Nat) (i : Nat), wk (v ++ [p]) f i = wk v f i ++ (if runF v f p < runF v f (p + 1) then [i + v.length] else [])
  | [], f, i => by
    show (if f p < f (p + 1) then [i] else []) ++ [] = [] ++ (if f p < f (p + 1) then [i + 0] else [])
    rw [List.append_nil, List.nil_append]
    rfl
  | q :: v, f, i => by
    show (if f q < f (q + 1) then [i] else []) ++ wk (v ++ [p]) (stepF q f) (i + 1) = ((if f q < f (q + 1) then [i] else []) ++ wk v (stepF q f) (i + 1)) ++ (if runF v (stepF q f) p < runF v (stepF q f) (p + 1) then [i + (v.length + 1)] else [])
    rw [wk_app p v, List.append_assoc, show i + 1 + v.length = i + (v.length + 1) by omega]
theorem wk_len : ∀ (v : List Nat) (f : Nat → Nat) (i : Nat), (wk v f i).length ≤ v.length
  | [], _, _ => Nat.le_refl _
  | q :: v, f, i => by
    show ((if f q < f (q + 1) then [i] else []) ++ wk v (stepF q f) (i + 1)).length ≤ v.length + 1
    rw [List.length_append]
    have := wk_len v (stepF q f) (i + 1)
    split
    · show 1 + _ ≤ _; omega
    · show 0 + _ ≤ _; omega
/-- is j among the first i of g? -/
def sb (g : Nat → Nat) (i j : Nat) : Bool := (List.range i).any fun x => g x == j
theorem sb_succ (g : Nat → Nat) (i j : Nat) : sb g (i + 1) j = (sb g i j || g i == j) := by
  unfold sb
  rw [List.range_succ, List.any_append]
  simp
theorem sb_new {k : Nat} {g f : Nat → Nat} (b : Bij k g f) {i : Nat} (hi : i < k) : sb g i (g i) = false := by
  unfold sb
  rw [List.any_eq_false]
  intro x hx
  have hx := List.mem_range.mp hx
  simp only [beq_iff_eq]
  exact fun e => absurd (b.inj (by omega) hi e) (by omega)
theorem sb_all {k : Nat} {g f : Nat → Nat} (b : Bij k g f) {j : Nat} (hj : j < k) : sb g k j = true := by
  unfold sb
  rw [List.any_eq_true]
  exact ⟨f j, List.mem_range.mpr (b.gl j hj), by simp [b.fg j hj]⟩
def seenL (k : Nat) (g : Nat → Nat) (i : Nat) : List V := (List.range k).map fun j => V.bl (sb g i j)
theorem seenL_len (k : Nat) (g : Nat → Nat) (i : Nat) : (seenL k g i).length = k := by unfold seenL; rw [List.length_map, List.length_range]
theorem seenL_get {k : Nat} {g : Nat → Nat} {i j : Nat} (h : j < k) : (seenL k g i)[j]? = some (.bl (sb g i j)) := by
  unfold seenL
  rw [List.getElem?_map, List.getElem?_range h]
  rfl
theorem seenL_set {k : Nat} {g : Nat → Nat} {i : Nat} (h : g i < k) : (seenL k g i).set (g i) (.bl true) = seenL k g (i + 1) := by
  refine List.ext_getElem? fun j => ?_
  by_cases hj : j < k
  · rw [seenL_get hj, sb_succ]
    by_cases e : j = g i
    · subst e
      rw [List.getElem?_set_self (by rw [seenL_len]; exact h)]
      simp
    · rw [List.getElem?_set_ne (Ne.symm e), seenL_get hj]
      have : (g i == j) = false := by simp [Ne.symm e]
      rw [this, Bool.or_false]
  · rw [List.getElem?_eq_none (by rw [List.length_set, seenL_len]; omega), List.getElem?_eq_none (by rw [seenL_len]; omega)]
theorem rep_flat {α : Type} (x : α) (n : Nat) : (List.replicate n [x]).flatten = List.replicate n x := by
  induction n with
  | zero => rfl
  | succ n ih => rw [List.replicate_succ, List.flatten_cons, ih, List.replicate_succ]; rfl
theorem seenL_0 (k : Nat) (g : Nat → Nat) : List.replicate k (V.bl false) = seenL k g 0 := by
  refine List.ext_getElem? fun j => ?_
  by_cases hj : j < k
  · rw [seenL_get hj, List.getElem?_replicate, if_pos hj]
    rfl
  · rw [List.getElem?_eq_none (by rw [List.length_replicate]; omega), List.getElem?_eq_none (by rw [seenL_len]; omega)]
theorem ixN_nat {n i : Nat} (h : i < n) : ixN n (i : Int) = some i := by
  unfold ixN
  rw [if_pos (by omega), if_pos (by omega)]
  rfl
/-- what has been found of the opposite -/
def opL (k : Nat) (g f : Nat → Nat) (i : Nat) : List V := vL k fun j => if sb g i j = true then f j else 0
theorem opL_0 (k : Nat) (g f : Nat → Nat) : List.replicate k (V.int 0) = opL k g f 0 := by
  unfold opL
  refine vL_ext (List.length_replicate) fun j hj => ?_
  rw [List.getElem?_replicate, if_pos hj]
  rfl
theorem opL_set {k : Nat} {g f : Nat → Nat} (b : Bij k g f) {i : Nat} (h : i < k) : (opL k g f i).set (g i) (.int (i : Int)) = opL k g f (i + 1) := by
  refine vL_ext (by rw [List.length_set]; exact vL_len _ _) fun j hj => ?_
  rw [sb_succ]
  by_cases e : j = g i
  · subst e
    rw [List.getElem?_set_self (by unfold opL; rw [vL_len]; exact b.fl i h)]
    simp [b.gf i h]
  · rw [List.getElem?_set_ne (Ne.symm e)]
    unfold opL
    rw [vL_get hj]
    have : (g i == j) = false := by simp [Ne.symm e]
    rw [this, Bool.or_false]
theorem opL_all {k : Nat} {g f : Nat → Nat} (b : Bij k g f) : opL k g f k = vL k f := vL_congr fun j hj => by rw [sb_all b hj, if_pos rfl]
/-! ### promises -/
abbrev RetN (xs : List V) (H : Hp) (Q : VK) : Prop := ∀ p H', H p = none → Ex H H' → H' p = some (.lst xs) → Q (.ref p) H'
def spTurn (v : V) : Sp := fun vs H Q _ => ∃ a k g f, vs = [.ref a] ∧ H a = some (.lst (vL k g)) ∧ Bij k g f ∧ k ≤ 96 ∧ Ret v H Q
def spPlace : Sp := fun vs H Q _ => ∃ i n : Int, vs = [.int i, .int n] ∧ 0 ≤ i ∧ i ≤ n ∧ Ret .non H Q
def spStraight : Sp := fun vs H Q _ => ∃ n : Nat, vs = [.int (n : Int)] ∧ n ≤ 96 ∧ RetN (vL n id) H Q
def spOpposite : Sp := fun vs H Q _ => ∃ a k g f, vs = [.ref a] ∧ H a = some (.lst (vL k g)) ∧ Bij k g f ∧ k ≤ 96 ∧ RetN (vL k f) H Q
theorem sc_is_turning : FnScope ["thing", "seen", "goal"] ["thing"] (defScope (top 32)) := ⟨rfl, rfl, rfl, by decide +kernel, rfl, by decide +kernel, by decide +kernel⟩
theorem sc_need_turning : FnScope ["turning"] ["turning"] (defScope (top 33)) := ⟨rfl, rfl, rfl, by decide +kernel, rfl, by decide +kernel, by decide +kernel⟩
theorem sc_need_place : FnScope ["place", "most"] ["place", "most"] (defScope (top 34)) := ⟨rfl, rfl, rfl, by decide +kernel, rfl, by decide +kernel, by decide +kernel⟩
theorem sc_straight : FnScope ["many"] ["many"] (defScope (top 36)) := ⟨rfl, rfl, rfl, by decide +kernel, rfl, by decide +kernel, by decide +kernel⟩
theorem sc_opposite : FnScope ["turning", "found", "start", "goal"] ["turning"] (defScope (top 37)) := ⟨rfl, rfl, rfl, by decide +kernel, rfl, by decide +kernel, by decide +kernel⟩
section
variable {P : Program} {w : World} {K : PySem.W.Frag} {mg : Str → Option Value} {base : Heap} (T : Txt K mg)
include T
theorem ok_is_turning : Ok P w K mg base 3 (He.fAd K ("is_turning", none)) ["thing"] (spTurn (.bl true)) := by
  refine ok_of T.d_is_turning sc_is_turning (fun _ _ _ _ _ _ us hl => match us, hl with | [_], _ => rfl) (fun vs H Q E h => by obtain ⟨_, _, _, _, rfl, _⟩ := h; rfl) (fun cdv A outer s H vs Q E hr h => ?_)
  obtain ⟨a, k, g, f, rfl, ha, b, hk, kq⟩ := h
  obtain ⟨t, ht⟩ := T.c_MOST_LINES
  have nd := sc_is_turning.nd
  have hL : ∀ {H1}, Ex H H1 → Kp Ex H1 fun H => SqL K H a (vL k g) := fun r H2 r2 => SqL.of (r2 _ _ (r _ _ ha))
  -- isinstance(thing, (list, tuple)), len
  refine q_no (R := Ex) ((t_w (w_or (k := false) (t_not (k := true) (t_val (g_b (K := KV Ex (.bl true)) call_isiT T.b_isinstance boot_isinstance (a_p ((v_name 0 rfl).p (P := fun v _ => v = .ref a) (kp_true rfl)) (a_p (p_tup (a_v (v_tyn T.b_list PyProof.Rows.boot_list) (a_1 (v_tyn T.b_tuple PyProof.Rows.boot_tuple))) (fun vs _ e => by rw [e]; show 2 ≤ sizeLine; decide)) (a_nil (PA := fun ws _ => ws = [])))) fun vs H1 r1 k1 Q q => ?_)))
    fun _ => w_or1 (t_gt (v_len rfl T.b_len (v_name 0 rfl) (hL (Ex.rf H))) (v_glob ht ⟨t, rfl⟩)))).is (by rw [vL_len]; exact decide_eq_false (by omega))) fun H1 r1 => ?_
  · obtain ⟨v, r, rfl, rfl, v2, r2, rfl, ⟨p, vs2, rfl, hp, rfl⟩, rfl⟩ := k1.now
    refine ⟨.ref a, p, _, .type "list", [.type "list", .type "tuple"], true, rfl, hp, .cons (.ty _) (.cons (.ty _) .nil), .base (.lst (r1 _ _ ha)), ?_, q H1 (Ex.rf H1)⟩
    exact kitAny_cons (b := true) (kit_ty (by decide +kernel)) (fun e => nomatch e) fun _ => rfl
  -- seen = [False] * len(thing)
  refine q_set 1 (n_rep (n_lst (a_1 v_bl) (by show 1 ≤ sizeLine; decide)) (v_len rfl T.b_len (v_name 0 rfl) (hL r1)) (by rw [vL_len]; omega) (by rw [vL_len]; omega) (by rw [vL_len, Int.toNat_natCast]; exact small_line (by show 1 * k ≤ 1000; omega))) ?_ nd
  intro p H2 np r2 hp
  rw [rep_flat, vL_len, Int.toNat_natCast, seenL_0 k g] at hp
  have hpH : H p = none := none_back r1 np
  have pa : p ≠ a := (ne_of_none (r1 _ _ ha) np).symm
  -- for goal in thing
  refine q_forL (R := Ex) 2 (fun i σ' H' => ∃ v, σ' = [some (.ref a), some (.ref p), v] ∧ Ex H H' ∧ H' p = some (.lst (seenL k g i))) (v_name 0 rfl) (hL (r1.tr r2)) (fun H3 r3 => ⟨none, rfl, (r1.tr r2).tr r3, r3 _ _ hp⟩) (fun i σ' H' _ p' => by obtain ⟨_, _, e, _⟩ := p'; exact SqL.of (e _ _ ha)) ?_ ?_ nd
  · rintro i x σ' H' hi ⟨v, rfl, e, hp'⟩
    have hik : i < k := by
      have := (List.getElem?_eq_some_iff.mp hi).1
      rw [vL_len] at this
      exact this
    rw [vL_get hik] at hi
    obtain rfl := Option.some.inj hi
    have hg := b.fl i hik
    refine q_no (R := Ex) ((t_w (w_or (k := false) (t_not (k := true) (t_val (g_call (ok_is_within T) T.g_is_within hr (a_v (v_name 2 rfl) (a_v v_int (a_1 (v_sub (v_len rfl T.b_len (v_name 0 rfl) (hL e)) v_int)))) fun vs H1 r1 k1 Q q => ?_))) fun _ =>
      w_or1 (t_val (v_ixL (v_name 1 rfl) (v_name 2 rfl) (fun H4 r4 => SqL.of (r4 _ _ hp')) (atI_nat (seenL_get hg)))))).is (by rw [sb_new b hik]; rfl)) fun H4 r4 => ?_
    · obtain rfl := k1.now
      exact ⟨_, _, _, rfl, by omega, by rw [vL_len]; omega, q⟩
    refine q_setL (v_bl : EvV _ Ex _ _ _ _) (fun H5 r5 => ⟨p, seenL k g i, _, g i, x_name 1 rfl, x_name 2 rfl, r5 _ _ (r4 _ _ hp'), ixN_nat (by rw [seenL_len]; exact hg), ?_⟩) kV_mono
    refine RB.nil ?_
    refine ⟨_, rfl, ((e.tr r4).tr r5).mu hpH, ?_⟩
    rw [seenL_set hg]
    exact upd_same
  · rintro σ' H' ⟨v, rfl, e, hp'⟩
    exact q_ret (R := Ex) v_bl fun H5 r5 => kq H5 (e.tr r5)
theorem ok_need_turning : Ok P w K mg base 4 (He.fAd K ("need_turning", none)) ["turning"] (spTurn .non) := by
  refine ok_of T.d_need_turning sc_need_turning (fun _ _ _ _ _ _ us hl => match us, hl with | [_], _ => rfl) (fun vs H Q E h => by obtain ⟨_, _, _, _, rfl, _⟩ := h; rfl) (fun cdv A outer s H vs Q E hr h => ?_)
  obtain ⟨a, k, g, f, rfl, ha, b, hk, kq⟩ := h
  refine q_no (R := Ex) (t_not (k := true) (t_val (g_call (ok_is_turning T) T.g_is_turning hr (a_1 (v_name 0 rfl)) fun vs H1 r1 k1 Q q => ?_))) fun H1 r1 => RB.nil (kq H1 r1)
  obtain rfl := k1.now
  exact ⟨a, k, g, f, rfl, r1 _ _ ha, b, hk, q⟩
theorem ok_need_place_turnings : Ok P w K mg base 3 (He.fAd K ("need_place_turnings", none)) ["place", "most"] spPlace := by
  refine ok_of T.d_need_place_turnings sc_need_place (fun _ _ _ _ _ _ us hl => match us, hl with | [_, _], _ => rfl) (fun vs H Q E h => by obtain ⟨_, _, rfl, _⟩ := h; rfl) (fun cdv A outer s H vs Q E hr h => ?_)
  obtain ⟨i, n, rfl, h1, h2, kq⟩ := h
  refine q_no (R := Ex) (t_not (k := true) (t_val (g_call (ok_is_within T) T.g_is_within hr (a_v (v_name 0 rfl) (a_v v_int (a_1 (v_name 1 rfl)))) fun vs H1 r1 k1 Q q => ?_))) fun H1 r1 => RB.nil (kq H1 r1)
  obtain rfl := k1.now
  exact ⟨i, 0, n, rfl, h1, h2, q⟩
theorem ok_straight : Ok P w K mg base 4 (He.fAd K ("straight", none)) ["many"] spStraight := by
  refine ok_of T.d_straight sc_straight (fun _ _ _ _ _ _ us hl => match us, hl with | [_], _ => rfl) (fun vs H Q E h => by obtain ⟨_, rfl, _⟩ := h; rfl) (fun cdv A outer s H vs Q E hr h => ?_)
  obtain ⟨n, rfl, hn, kq⟩ := h
  obtain ⟨t, ht⟩ := T.c_MOST_LINES
  refine q_expr (R := Ex) (g_call (K := KV Ex .non) (ok_need_place_turnings T) T.g_need_place_turnings hr (a_v (v_name 0 rfl) (a_1 (v_glob (v := .int 96) ht ⟨t, rfl⟩))) fun vs H1 r1 k1 Q q => ?_) fun H1 r1 => q_ret (R := Ex) (n_lrg rfl rfl T.b_list T.b_range (v_name 0 rfl) (by omega)) fun p H2 np r2 hp => kq p H2 (none_back r1 np) (r1.tr r2) hp
  obtain rfl := k1.now
  exact ⟨_, _, rfl, by omega, by omega, q⟩
theorem ok_opposite : Ok P w K mg base 5 (He.fAd K ("opposite", none)) ["turning"] spOpposite := by
  refine ok_of T.d_opposite sc_opposite (fun _ _ _ _ _ _ us hl => match us, hl with | [_], _ => rfl) (fun vs H Q E h => by obtain ⟨_, _, _, _, rfl, _⟩ := h; rfl) (fun cdv A outer s H vs Q E hr h => ?_)
  obtain ⟨a, k, g, f, rfl, ha, b, hk, kq⟩ := h
  have nd := sc_opposite.nd
  have hL : ∀ {H1}, Ex H H1 → Kp Ex H1 fun H => SqL K H a (vL k g) := fun r H2 r2 => SqL.of (r2 _ _ (r _ _ ha))
  refine q_expr (R := Ex) (g_call (K := KV Ex .non) (ok_need_turning T) T.g_need_turning hr (a_1 (v_name 0 rfl)) fun vs H1 r1 k1 Q q => ?_) fun H1 r1 => ?_
  · obtain rfl := k1.now
    exact ⟨a, k, g, f, rfl, r1 _ _ ha, b, hk, q⟩
  refine q_set 1 (n_rep (n_lst (a_1 v_int) (by show 1 ≤ sizeLine; decide)) (v_len rfl T.b_len (v_name 0 rfl) (hL r1)) (by rw [vL_len]; omega) (by rw [vL_len]; omega) (by rw [vL_len, Int.toNat_natCast]; exact small_line (by show 1 * k ≤ 1000; omega))) ?_ nd
  intro p H2 np r2 hp
  rw [rep_flat, vL_len, Int.toNat_natCast, opL_0 k g f] at hp
  have hpH : H p = none := none_back r1 np
  refine q_forE (R := Ex) 2 3 (fun q i σ' H' => ∃ v v', q = a ∧ σ' = [some (.ref a), some (.ref p), v, v'] ∧ Ex H H' ∧ H' p = some (.lst (opL k g f i))) ((v_name 0 rfl).p fun H3 r3 => ⟨a, rfl, (rfl : a = a), hL (r1.tr r2) H3 r3⟩) (fun q H3 r3 hq h3 => ⟨none, none, hq.symm, rfl, (r1.tr r2).tr r3, r3 _ _ hp⟩) (fun q i σ' H' _ p' => by obtain ⟨_, _, rfl, _, e, _⟩ := p'; exact SqL.of (e _ _ ha)) ?_ ?_ T.b_enumerate nd
  · rintro q i x σ' H' T' hi ⟨v, v', rfl, rfl, e, hp'⟩ hT
    have hik : i < k := by
      have := (List.getElem?_eq_some_iff.mp hi).1
      rw [vL_len] at this
      exact this
    rw [vL_get hik] at hi
    obtain rfl := Option.some.inj hi
    have hg := b.fl i hik
    have e2 := e.tr (Ex.nw (o := .tup [.int (i : Int), .int (g i : Int)]) hT)
    have hp2 := Ex.nw (o := .tup [.int (i : Int), .int (g i : Int)]) hT _ _ hp'
    refine q_setL (v_name 2 rfl : EvV _ Ex _ _ _ _) (fun H5 r5 => ⟨p, opL k g f i, _, g i, x_name 1 rfl, x_name 3 rfl, r5 _ _ hp2, ixN_nat (by unfold opL; rw [vL_len]; exact hg), ?_⟩) kV_mono
    refine RB.nil ⟨_, _, rfl, rfl, (e2.tr r5).mu hpH, ?_⟩
    rw [opL_set b hik]
    exact upd_same
  · rintro q σ' H' ⟨v, v', rfl, rfl, e, hp'⟩
    rw [vL_len, opL_all b] at hp'
    exact q_ret (R := Ex) (v_name 1 rfl) fun H5 r5 => kq p H5 hpH (e.tr r5) (r5 _ _ hp')
end
end PT
namespace PT
open PySem PySem.Spec PyProof.Rows L2
def stepsOk (k : Nat) (w : List Nat) : Prop := ∀ p ∈ w, p + 1 < k
theorem vS_get {w : List Nat} {i : Nat} {x : V} (h : (vS w)[i]? = some x) : ∃ p, w[i]? = some p ∧ x = .int (p : Int) := by
  unfold vS at h
  rw [List.getElem?_map] at h
  cases e : w[i]? with
  | none => rw [e] at h; cases h
  | some p => rw [e] at h; exact ⟨p, rfl, (Option.some.inj h).symm⟩
theorem take_snoc {α : Type} {w : List α} {i : Nat} {p : α} (h : w[i]? = some p) : w.take (i + 1) = w.take i ++ [p] := by
  rw [List.take_succ, h]
  rfl
/-- steps_of: where the sorting stands (cur), what it has done (R, the last one first), where it began (f) -/
structure Srt (k : Nat) (f : Nat → Nat) (cur : Nat → Nat) (R : List Nat) : Prop where
  bij : ∃ g, Bij k cur g
  ok : stepsOk k R
  run : runF R cur = f
theorem Srt.swap {k p : Nat} {f cur : Nat → Nat} {R : List Nat} (s : Srt k f cur R) (hp : p + 1 < k) (h : cur (p + 1) < cur p) : Srt k f (swapF p cur) (p :: R) := by
  obtain ⟨g, b⟩ := s.bij
  refine ⟨b.swap hp, fun q hq => ?_, ?_⟩
  · rcases List.mem_cons.mp hq with e | hq
    · rw [e]; exact hp
    · exact s.ok q hq
  · show runF R (stepF p (swapF p cur)) = f
    rw [step_back h]
    exact s.run
/-- within the while: all but the one at a stand right, up to stop -/
structure Mid (k : Nat) (f : Nat → Nat) (stop a : Nat) (cur : Nat → Nat) (R : List Nat) : Prop where
  s : Srt k f cur R
  le : a ≤ stop
  lt : stop < k
  asc : ∀ i, i + 1 ≤ stop → i + 1 ≠ a → cur i ≤ cur (i + 1)
  over : 0 < a → a < stop → cur (a - 1) ≤ cur (a + 1)
theorem Mid.swap {k stop p : Nat} {f cur : Nat → Nat} {R : List Nat} (m : Mid k f stop (p + 1) cur R) (h : cur (p + 1) < cur p) : Mid k f stop p (swapF p cur) (p :: R) := by
  have hl := m.le
  have hk := m.lt
  refine ⟨m.s.swap (by omega) h, by omega, hk, fun i hi hne => ?_, fun h0 h1 => ?_⟩
  · by_cases e1 : i = p
    · rw [e1, swap_at, swap_at1]; omega
    · by_cases e2 : i = p + 1
      · rw [e2, swap_at1, swap_ne (by omega) (by omega)]
        have := m.over (by omega) (by omega)
        rw [Nat.add_sub_cancel] at this
        exact this
      · rw [swap_ne e1 e2, swap_ne (by omega) (by omega)]
        exact m.asc i hi (by omega)
  · rw [swap_ne (by omega) (by omega), swap_at1]
    have := m.asc (p - 1) (by omega) (by omega)
    rw [show p - 1 + 1 = p by omega] at this
    exact this
/-- ahead of stop all stand right -/
structure Out (k : Nat) (f : Nat → Nat) (stop : Nat) (cur : Nat → Nat) (R : List Nat) : Prop where
  s : Srt k f cur R
  asc : ∀ i, i + 1 < stop → cur i ≤ cur (i + 1)
theorem Out.start {k : Nat} {f g : Nat → Nat} (b : Bij k f g) : Out k f 0 f [] := ⟨⟨⟨g, b⟩, fun _ h => absurd h (by simp), rfl⟩, fun i hi => by omega⟩
theorem Out.mid {k stop : Nat} {f cur : Nat → Nat} {R : List Nat} (o : Out k f stop cur R) (h : stop < k) : Mid k f stop stop cur R := ⟨o.s, Nat.le_refl _, h, fun i hi hne => o.asc i (by omega), fun _ h => absurd h (Nat.lt_irrefl _)⟩
theorem Mid.out {k stop a : Nat} {f cur : Nat → Nat} {R : List Nat} (m : Mid k f stop a cur R) (h : a = 0 ∨ cur (a - 1) ≤ cur a) : Out k f (stop + 1) cur R := by
  refine ⟨m.s, fun i hi => ?_⟩
  by_cases e : i + 1 = a
  · rcases h with h | h
    · omega
    · rw [← e, Nat.add_sub_cancel] at h
      rw [e] at h ⊢
      exact h
  · exact m.asc i (by omega) e
theorem Out.done {k : Nat} {f cur : Nat → Nat} {R : List Nat} (o : Out k f k cur R) : stepsOk k R ∧ ∀ i, i < k → runF R id i = f i := by
  obtain ⟨g, b⟩ := o.s.bij
  refine ⟨o.s.ok, fun i hi => ?_⟩
  rw [← o.s.run]
  exact run_congr o.s.ok (fun j hj => (straight_of b (fun i hi => o.asc i hi) j hj).symm) i hi
/-! ### promises -/
def spNeedSteps : Sp := fun vs H Q _ => ∃ (a : Addr) (k : Nat) (ws : List Nat), vs = [.int (k : Int), .ref a] ∧ H a = some (.lst (vS ws)) ∧ stepsOk k ws ∧ ws.length ≤ 6000 ∧ Ret .non H Q
def spThrough : Sp := fun vs H Q _ => ∃ e a k f ws, vs = [.ref e, .ref a] ∧ e ≠ a ∧ H e = some (.lst (vL k f)) ∧ H a = some (.lst (vS ws)) ∧ stepsOk k ws ∧ k ≤ 96 ∧ ws.length ≤ 100000 ∧
  ∀ p H', H p = none → (∀ b o, H b = some o → b ≠ e → H' b = some o) → H' e = some (.lst (vL k (runF ws f))) → H' p = some (.lst (vS (wk ws f 0))) → Q (.ref p) H'
def spBySteps : Sp := fun vs H Q _ => ∃ (a : Addr) (k : Nat) (ws : List Nat), vs = [.int (k : Int), .ref a] ∧ H a = some (.lst (vS ws)) ∧ stepsOk k ws ∧ ws.length ≤ 6000 ∧ k ≤ 96 ∧ RetN (vL k (invF k (runF ws id))) H Q
def spWorking : Sp := fun vs H Q _ => ∃ (a : Addr) (k : Nat) (ws : List Nat), vs = [.int (k : Int), .ref a] ∧ H a = some (.lst (vS ws)) ∧ stepsOk k ws ∧ ws.length ≤ 6000 ∧ k ≤ 96 ∧ RetN (vS (wk ws id 0)) H Q
def spStepsOf : Sp := fun vs H Q _ => ∃ a k g f, vs = [.ref a] ∧ H a = some (.lst (vL k g)) ∧ Bij k g f ∧ k ≤ 96 ∧ ∀ ws, stepsOk k ws → (∀ i, i < k → runF ws id i = f i) → ws.length ≤ 10000 → RetN (vS ws) H Q
def spAlike : Sp := fun vs H Q _ => ∃ a b k g1 f1 g2 f2, vs = [.ref a, .ref b] ∧ H a = some (.lst (vL k g1)) ∧ H b = some (.lst (vL k g2)) ∧ Bij k g1 f1 ∧ Bij k g2 f2 ∧ k ≤ 96 ∧ Ret .non H Q
def spLaid : Sp := fun vs H Q _ => ∃ a b k g1 f1 g2 ws, vs = [.ref a, .ref b] ∧ H a = some (.lst (vL k g1)) ∧ H b = some (.lst (vL k g2)) ∧ Bij k g1 f1 ∧ Bij k g2 (runF ws id) ∧ stepsOk k ws ∧ k ≤ 96 ∧ RetN (vL k (lay k f1 ws)) H Q
theorem sc_need_steps : FnScope ["many", "steps", "step"] ["many", "steps"] (defScope (top 40)) := ⟨rfl, rfl, rfl, by decide +kernel, rfl, by decide +kernel, by decide +kernel⟩
theorem sc_worked_through : FnScope ["ending", "steps", "found", "at", "step", "left", "right"] ["ending", "steps"] (defScope (top 41)) := ⟨rfl, rfl, rfl, by decide +kernel, rfl, by decide +kernel, by decide +kernel⟩
theorem sc_by_steps : FnScope ["many", "steps", "ending"] ["many", "steps"] (defScope (top 42)) := ⟨rfl, rfl, rfl, by decide +kernel, rfl, by decide +kernel, by decide +kernel⟩
theorem sc_working_steps : FnScope ["many", "steps", "ending"] ["many", "steps"] (defScope (top 43)) := ⟨rfl, rfl, rfl, by decide +kernel, rfl, by decide +kernel, by decide +kernel⟩
theorem sc_steps_of : FnScope ["turning", "ending", "found", "stop", "at"] ["turning"] (defScope (top 44)) := ⟨rfl, rfl, rfl, by decide +kernel, rfl, by decide +kernel, by decide +kernel⟩
theorem sc_need_alike : FnScope ["one", "other"] ["one", "other"] (defScope (top 45)) := ⟨rfl, rfl, rfl, by decide +kernel, rfl, by decide +kernel, by decide +kernel⟩
theorem sc_laid : FnScope ["one", "other", "ending"] ["one", "other"] (defScope (top 46)) := ⟨rfl, rfl, rfl, by decide +kernel, rfl, by decide +kernel, by decide +kernel⟩
section
variable {P : Program} {w : World} {K : PySem.W.Frag} {mg : Str → Option Value} {base : Heap} (T : Txt K mg)
include T
theorem ok_need_steps : Ok P w K mg base 3 (He.fAd K ("need_steps", none)) ["many", "steps"] spNeedSteps := by
  refine ok_of T.d_need_steps sc_need_steps (fun _ _ _ _ _ _ us hl => match us, hl with | [_, _], _ => rfl) (fun vs H Q E h => by obtain ⟨_, _, _, rfl, _⟩ := h; rfl) (fun cdv A outer s H vs Q E hr h => ?_)
  obtain ⟨a, k, ws, rfl, ha, hw, hl, kq⟩ := h
  obtain ⟨t, ht⟩ := T.c_MOST_STEPS
  have hL : ∀ {H1}, Ex H H1 → Kp Ex H1 fun H => SqL K H a (vS ws) := fun r H2 r2 => SqL.of (r2 _ _ (r _ _ ha))
  refine q_no (R := Ex) ((t_w (w_or (k := false) (t_not (k := true) (t_val (v_isi rfl T.b_isinstance (v_name 1 rfl) (v_tyn T.b_list PyProof.Rows.boot_list) (.ty "list") (fun H2 r2 => .base (.lst (r2 _ _ ha))) kit_list_list))) fun _ =>
    w_or1 (t_gt (v_len rfl T.b_len (v_name 1 rfl) (hL (Ex.rf H))) (v_glob (v := .int 6000) ht ⟨t, rfl⟩)))).is (by rw [vS_len]; exact decide_eq_false (by omega))) fun H1 r1 => ?_
  refine q_forL (R := Ex) 2 (fun i σ' H' => ∃ v, σ' = [some (.int (k : Int)), some (.ref a), v] ∧ Ex H H') (v_name 1 rfl) (hL r1) (fun H3 r3 => ⟨none, rfl, r1.tr r3⟩) (fun i σ' H' _ p' => by obtain ⟨_, _, e⟩ := p'; exact SqL.of (e _ _ ha)) ?_ ?_ sc_need_steps.nd
  · rintro i x σ' H' hi ⟨v, rfl, e⟩
    obtain ⟨p, hp, rfl⟩ := vS_get hi
    have hpk := hw p (List.mem_of_getElem? hp)
    refine q_no (R := Ex) (t_not (k := true) (t_val (g_call (ok_is_within T) T.g_is_within hr (a_v (v_name 2 rfl) (a_v v_int (a_1 (v_sub (v_name 0 rfl) v_int)))) fun vs H1 r1 k1 Q q => ?_))) fun H1 r1 => RB.nil ⟨_, rfl, e.tr r1⟩
    obtain rfl := k1.now
    exact ⟨_, _, _, rfl, by omega, by omega, q⟩
  · rintro σ' H' ⟨v, rfl, e⟩
    exact RB.nil (kq H' e)
theorem ok_worked_through : Ok P w K mg base 1 (He.fAd K ("worked_through", none)) ["ending", "steps"] spThrough := by
  refine ok_of T.d_worked_through sc_worked_through (fun _ _ _ _ _ _ us hl => match us, hl with | [_, _], _ => rfl) (fun vs H Q E h => by obtain ⟨_, _, _, _, _, rfl, _⟩ := h; rfl) (fun cdv A outer s H vs Q E hr h => ?_)
  obtain ⟨e, a, k, f, ws, rfl, hea, he, ha, hw, hk, hz, kq⟩ := h
  have nd := sc_worked_through.nd
  refine q_set (R := Ex) 2 (n_lst a_nil (Nat.zero_le _)) ?_ nd
  intro p H1 np r1 hp
  have pe : p ≠ e := (ne_of_none he np).symm
  have pa : p ≠ a := (ne_of_none ha np).symm
  refine q_forE (R := Ex) 3 4 (fun q i σ' H' => ∃ v3 v4 v5 v6, q = a ∧ σ' = [some (.ref e), some (.ref a), some (.ref p), v3, v4, v5, v6] ∧ (∀ b o, H b = some o → b ≠ e → H' b = some o) ∧ H' e = some (.lst (vL k (runF (ws.take i) f))) ∧ H' p = some (.lst (vS (wk (ws.take i) f 0))))
    ((v_name 1 rfl).p fun H3 r3 => ⟨a, rfl, (rfl : a = a), SqL.of (r3 _ _ (r1 _ _ ha))⟩) (fun q H3 r3 hq _ => ⟨none, none, none, none, hq.symm, rfl, fun b o hb _ => r3 _ _ (r1 _ _ hb), r3 _ _ (r1 _ _ he), r3 _ _ hp⟩) (fun q i σ' H' _ p' => by obtain ⟨_, _, _, _, rfl, _, e', _⟩ := p'; exact SqL.of (e' _ _ ha hea.symm)) ?_ ?_ T.b_enumerate nd
  · rintro q i x σ' H' U hi ⟨v3, v4, v5, v6, rfl, rfl, e', he', hp'⟩ hU
    obtain ⟨st, hst, rfl⟩ := vS_get hi
    have hstk := hw st (List.mem_of_getElem? hst)
    have il : i < ws.length := (List.getElem?_eq_some_iff.mp hst).1
    have tk : (ws.take i).length = i := by rw [List.length_take]; omega
    have en := Ex.nw (o := .tup [.int (i : Int), .int (st : Int)]) hU
    -- left, right = ending[step:step + 2]
    refine q_tgt (R := Ex) (pg_unl rfl (pgs_cons (pg_name (i := 5) nd rfl (.inl rfl)) (pgs_cons (pg_name (i := 6) nd rfl (.inl rfl)) pgs_nil))) (n_slL (v_name 0 rfl) (o_some (v_name 4 rfl)) (o_some (v_add (v_name 4 rfl) v_int)) fun H3 r3 => SqL.of (r3 _ _ (en _ _ he'))) ?_
    intro d H2 nd2 r2 hd
    rw [vL_two hstk] at hd
    refine ⟨d, _, rfl, SqL.of hd, rfl, _, _, rfl, _, _, rfl, rfl, ?_⟩
    refine q_if (R := Ex) (t_lt (v_name 5 rfl) (v_name 6 rfl)) (fun hlt H3 r3 => ?_) (fun hlt H3 r3 => ?_)
    · have hlt : runF (ws.take i) f st < runF (ws.take i) f (st + 1) := by have := of_decide_eq_true hlt; omega
      have all : Ex H' H3 := en.tr (r2.tr r3)
      refine q_slc (R := Ex) (n_lst (a_v (v_name 6 rfl) (a_1 (v_name 5 rfl))) (by show 2 ≤ sizeLine; decide)) ?_ kN_mono
      intro b H4 nb r4 hb
      refine ⟨e, b, _, _, _, _, rfl, x_name 0 rfl, x_name 4 rfl, x_add (x_name 4 rfl) x_int, r4 _ _ (all _ _ he'), hb, ?_, by omega, by omega, by rw [vL_len]; omega, by rw [vL_len]; exact small_line (by show k + 2 ≤ 1000; omega), ?_⟩
      · exact ne_of_none (all _ _ he') nb
      rw [Int.toNat_natCast, show ((st : Int) + 2).toNat = st + 2 by omega, vL_swap hstk]
      have hbe : ∀ {b' o}, H' b' = some o → b' ≠ e → (upd H4 e (.lst (vL k (swapF st (runF (ws.take i) f))))) b' = some o := fun h1 h2 => by
        rw [upd_ne h2]
        exact r4 _ _ (all _ _ h1)
      refine q_app (R := Ex) (x_name 2 rfl) (hbe hp' pe) (v_name 3 rfl) (fun H5 r5 => ⟨_, r5 _ _ (hbe hp' pe), ?_, ?_⟩) kV_mono
      · rw [vS_len]
        have := wk_len (ws.take i) f 0
        exact Nat.lt_of_le_of_lt (show _ ≤ 100000 by omega) (by decide)
      refine RB.nil (RB.nil ⟨_, _, _, _, rfl, rfl, fun b' o h1 h2 => ?_, ?_, ?_⟩)
      · have hne : b' ≠ p := ne_of_none h1 np
        rw [upd_ne hne]
        exact r5 _ _ (hbe (e' _ _ h1 h2) h2)
      · rw [upd_ne pe.symm]
        refine r5 _ _ ?_
        rw [upd_same, take_snoc hst, runF_snoc]
        unfold stepF
        rw [if_pos hlt]
      · rw [upd_same, take_snoc hst, wk_app, if_pos hlt, tk, Nat.zero_add]
        unfold vS
        rw [List.map_append]
        rfl
    · have hlt : ¬ runF (ws.take i) f st < runF (ws.take i) f (st + 1) := by have := of_decide_eq_false hlt; omega
      have all : Ex H' H3 := en.tr (r2.tr r3)
      refine RB.nil (RB.nil ⟨_, _, _, _, rfl, rfl, fun b' o h1 h2 => all _ _ (e' _ _ h1 h2), ?_, ?_⟩)
      · rw [all _ _ he', take_snoc hst, runF_snoc]
        unfold stepF
        rw [if_neg hlt]
      · rw [all _ _ hp', take_snoc hst, wk_app, if_neg hlt, List.append_nil]
  · rintro q σ' H' ⟨v3, v4, v5, v6, rfl, rfl, e', he', hp'⟩
    rw [vS_len, List.take_length] at he' hp'
    refine q_ret (R := Ex) (v_name 2 rfl) fun H5 r5 => kq p H5 np (fun b o h1 h2 => r5 _ _ (e' _ _ h1 h2)) (r5 _ _ he') (r5 _ _ hp')
theorem ok_by_steps : Ok P w K mg base 6 (He.fAd K ("by_steps", none)) ["many", "steps"] spBySteps := by
  refine ok_of T.d_by_steps sc_by_steps (fun _ _ _ _ _ _ us hl => match us, hl with | [_, _], _ => rfl) (fun vs H Q E h => by obtain ⟨_, _, _, rfl, _⟩ := h; rfl) (fun cdv A outer s H vs Q E hr h => ?_)
  obtain ⟨a, k, ws, rfl, ha, hw, hl, hk, kq⟩ := h
  have nd := sc_by_steps.nd
  refine q_set (R := Ex) 2 (g_call (K := KN Ex (vL k id)) (ok_straight T) T.g_straight (hr.mono (by decide)) (a_1 (v_name 0 rfl)) fun vs H1 r1 k1 Q q => ?_) ?_ nd
  · obtain rfl := k1.now
    exact ⟨k, rfl, hk, q⟩
  intro p H1 np r1 hp
  have pa : p ≠ a := (ne_of_none ha np).symm
  refine q_expr (R := Ex) (g_call (K := KV Ex .non) (ok_need_steps T) T.g_need_steps (hr.mono (by decide)) (a_v (v_name 0 rfl) (a_1 (v_name 1 rfl))) fun vs H2 r2 k2 Q q => ?_) fun H2 r2 => ?_
  · obtain rfl := k2.now
    exact ⟨a, k, ws, rfl, r2 _ _ (r1 _ _ ha), hw, hl, q⟩
  -- worked_through(ending, steps): ending changes
  refine q_exprX (re_call (R := Ex) (ok_worked_through T) T.g_worked_through (hr.mono (by decide)) (a_v (v_name 2 rfl) (a_1 (v_name 1 rfl))) fun vs H3' r3 k3 => ?_)
  obtain rfl := k3.now
  refine ⟨p, a, k, id, ws, rfl, pa, r3 _ _ (r2 _ _ hp), r3 _ _ (r2 _ _ (r1 _ _ ha)), hw, hk, by omega, fun d H3 _ h1' h2 _ => ?_⟩
  have h1 : ∀ b o, H2 b = some o → b ≠ p → H3 b = some o := fun b o hb hne => h1' b o (r3 _ _ hb) hne
  obtain ⟨g, b⟩ := Bij.run (Bij.id (k := k)) hw
  refine q_ret (R := Ex) (g_call (K := KN Ex (vL k (invF k (runF ws id)))) (ok_opposite T) T.g_opposite (hr.mono (by decide)) (a_1 (v_name 2 rfl)) fun vs H4 r4 k4 Q q => ?_) fun d H4 nd' r4 hd => kq d H4 ?_ ?_ hd
  · obtain rfl := k4.now
    exact ⟨p, k, _, _, rfl, r4 _ _ h2, b.inv, hk, q⟩
  · refine none_back (fun b o hb => ?_) nd'
    exact h1 _ _ (r2 _ _ (r1 _ _ hb)) (ne_of_none hb np)
  · intro b o hb
    exact r4 _ _ (h1 _ _ (r2 _ _ (r1 _ _ hb)) (ne_of_none hb np))
theorem ok_working_steps : Ok P w K mg base 6 (He.fAd K ("working_steps", none)) ["many", "steps"] spWorking := by
  refine ok_of T.d_working_steps sc_working_steps (fun _ _ _ _ _ _ us hl => match us, hl with | [_, _], _ => rfl) (fun vs H Q E h => by obtain ⟨_, _, _, rfl, _⟩ := h; rfl) (fun cdv A outer s H vs Q E hr h => ?_)
  obtain ⟨a, k, ws, rfl, ha, hw, hl, hk, kq⟩ := h
  have nd := sc_working_steps.nd
  refine q_set (R := Ex) 2 (g_call (K := KN Ex (vL k id)) (ok_straight T) T.g_straight (hr.mono (by decide)) (a_1 (v_name 0 rfl)) fun vs H1 r1 k1 Q q => ?_) ?_ nd
  · obtain rfl := k1.now
    exact ⟨k, rfl, hk, q⟩
  intro p H1 np r1 hp
  have pa : p ≠ a := (ne_of_none ha np).symm
  refine q_expr (R := Ex) (g_call (K := KV Ex .non) (ok_need_steps T) T.g_need_steps (hr.mono (by decide)) (a_v (v_name 0 rfl) (a_1 (v_name 1 rfl))) fun vs H2 r2 k2 Q q => ?_) fun H2 r2 => ?_
  · obtain rfl := k2.now
    exact ⟨a, k, ws, rfl, r2 _ _ (r1 _ _ ha), hw, hl, q⟩
  refine q_retX (re_call (R := Ex) (ok_worked_through T) T.g_worked_through (hr.mono (by decide)) (a_v (v_name 2 rfl) (a_1 (v_name 1 rfl))) fun vs H3' r3 k3 => ?_)
  obtain rfl := k3.now
  have e3 : Ex H H3' := r1.tr (r2.tr r3)
  exact ⟨p, a, k, id, ws, rfl, pa, r3 _ _ (r2 _ _ hp), e3 _ _ ha, hw, hk, by omega, fun d H3 h0 h1 _ h3 => kq d H3 (none_back e3 h0) (fun b o hb => h1 _ _ (e3 _ _ hb) (ne_of_none hb np)) h3⟩
theorem ok_steps_of : Ok P w K mg base 6 (He.fAd K ("steps_of", none)) ["turning"] spStepsOf := by
  refine ok_of T.d_steps_of sc_steps_of (fun _ _ _ _ _ _ us hl => match us, hl with | [_], _ => rfl) (fun vs H Q E h => by obtain ⟨_, _, _, _, rfl, _⟩ := h; rfl) (fun cdv A outer s H vs Q E hr h => ?_)
  obtain ⟨a, k, g, f, rfl, ha, b, hk, kq⟩ := h
  have nd := sc_steps_of.nd
  refine q_set (R := Ex) 1 (g_call (K := KN Ex (vL k f)) (ok_opposite T) T.g_opposite hr (a_1 (v_name 0 rfl)) fun vs H1 r1 k1 Q q => ?_) ?_ nd
  · obtain rfl := k1.now
    exact ⟨a, k, g, f, rfl, r1 _ _ ha, b, hk, q⟩
  intro p H1 np r1 hp
  refine q_set (R := Ex) 2 (n_lst a_nil (Nat.zero_le _)) ?_ nd
  intro d H2 nd2 r2 hd
  have pd : p ≠ d := ne_of_none hp nd2
  have nd1 : H d = none := none_back r1 nd2
  have hp2 := r2 _ _ hp
  refine q_forR (R := Ex) 3 (fun i σ' H' => ∃ v3 v4 cur Rs, σ' = [some (.ref a), some (.ref p), some (.ref d), v3, v4] ∧ Ex H H' ∧ Out k f i cur Rs ∧ Rs.length ≤ i * 96 ∧ H' p = some (.lst (vL k cur)) ∧ H' d = some (.lst (vS Rs.reverse))) (v_len rfl T.b_len (v_name 1 rfl) fun H3 r3 => SqL.of (r3 _ _ hp2)) (by rw [vL_len]; omega)
    (fun H3 r3 => ⟨none, none, f, [], rfl, (r1.tr r2).tr r3, Out.start b.symm, Nat.zero_le _, r3 _ _ hp2, r3 _ _ hd⟩) ?_ ?_ T.b_range nd
  · rintro i σ' H' hi ⟨v3, v4, cur, Rs, rfl, e, o, hl, hp', hd'⟩
    rw [vL_len] at hi
    have hik : i < k := by omega
    refine q_set (R := Ex) 4 (v_name 3 rfl) (fun H3 r3 => ?_) nd
    refine q_while (R := Ex) (fun m σ2 H2 => ∃ cur Rs, σ2 = [some (.ref a), some (.ref p), some (.ref d), some (.int (i : Int)), some (.int (m : Int))] ∧ Ex H H2 ∧ Mid k f i m cur Rs ∧ Rs.length + m ≤ i * 96 + i ∧ H2 p = some (.lst (vL k cur)) ∧ H2 d = some (.lst (vS Rs.reverse))) i
      ⟨cur, Rs, rfl, e.tr r3, o.mid hik, by omega, r3 _ _ hp', r3 _ _ hd'⟩ ?_
    rintro m σ2 H4 ⟨cur, Rs, rfl, e4, md, hl4, hp4, hd4⟩
    have hm := md.le
    refine ⟨decide (0 < m) && decide (cur m < cur (m - 1)), (t_w (w_and (t_gt (v_name 4 rfl) v_int) fun h0 => w_and1 (t_gt (i := (cur (m - 1) : Int)) (j := (cur m : Int)) (v_ixL (v_name 1 rfl) (v_sub (v_name 4 rfl) v_int) (fun H5 r5 => SqL.of (r5 _ _ hp4)) ?_) (v_ixL (v_name 1 rfl) (v_name 4 rfl) (fun H5 r5 => SqL.of (r5 _ _ hp4)) (vL_at (by omega)))))).is ?_, fun hb H5 r5 => ?_, fun hb H5 r5 => ?_⟩
    · have h0 := of_decide_eq_true h0
      rw [show (m : Int) - 1 = ((m - 1 : Nat) : Int) by omega]
      exact vL_at (by omega)
    · have e1 : decide ((0 : Int) < (m : Int)) = decide (0 < m) := decide_eq_decide.mpr (by omega)
      have e2 : decide ((cur m : Int) < (cur (m - 1) : Int)) = decide (cur m < cur (m - 1)) := decide_eq_decide.mpr (by omega)
      rw [e1, e2]
    · have hb := Bool.and_eq_true_iff.mp hb
      have h0 := of_decide_eq_true hb.1
      have h1 := of_decide_eq_true hb.2
      obtain ⟨q, rfl⟩ : ∃ q, m = q + 1 := ⟨m - 1, by omega⟩
      rw [Nat.add_sub_cancel] at h1
      refine ⟨fun σ6 H6 => ∃ cur Rs, σ6 = [some (.ref a), some (.ref p), some (.ref d), some (.int (i : Int)), some (.int (q : Int))] ∧ Ex H H6 ∧ Mid k f i q cur Rs ∧ Rs.length + q ≤ i * 96 + i ∧ H6 p = some (.lst (vL k cur)) ∧ H6 d = some (.lst (vS Rs.reverse)), fun σ6 H6 hN => ⟨q, by omega, hN⟩, ?_⟩
      -- ending[at - 1:at + 1] = [ending[at], ending[at - 1]]
      refine q_slc (R := Ex) (n_lst (a_v (v_ixL (v_name 1 rfl) (v_name 4 rfl) (fun H6 r6 => SqL.of (r6 _ _ (r5 _ _ hp4))) (vL_at (f := cur) (show q + 1 < k by have := md.lt; omega))) (a_1 (v_ixL (v := .int (cur q : Int)) (v_name 1 rfl) (v_sub (v_name 4 rfl) v_int) (fun H6 r6 => SqL.of (r6 _ _ (r5 _ _ hp4))) ?_))) (by show 2 ≤ sizeLine; decide)) ?_ kN_mono
      · rw [show ((q + 1 : Nat) : Int) - 1 = (q : Int) by omega]
        exact vL_at (by have := md.lt; omega)
      intro u H6 nu r6 hu
      have hp6 := r6 _ _ (r5 _ _ hp4)
      refine ⟨p, u, _, _, _, _, rfl, x_name 1 rfl, x_sub (x_name 4 rfl) x_int, x_add (x_name 4 rfl) x_int, hp6, hu, ne_of_none (r5 _ _ hp4) nu, by omega, by omega, by rw [vL_len]; have := md.lt; omega, by rw [vL_len]; exact small_line (by show k + 2 ≤ 1000; omega), ?_⟩
      rw [show (((q + 1 : Nat) : Int) - 1).toNat = q by omega, show (((q + 1 : Nat) : Int) + 1).toNat = q + 2 by omega, vL_swap (by have := md.lt; omega)]
      have up : ∀ {b' o}, H4 b' = some o → b' ≠ p → (upd H6 p (.lst (vL k (swapF q cur)))) b' = some o := fun h1 h2 => by
        rw [upd_ne h2]
        exact r6 _ _ (r5 _ _ h1)
      refine q_augM (R := Ex) 4 rfl v_int (fun H7 r7 => ?_) nd
      rw [show ((q + 1 : Nat) : Int) - 1 = (q : Int) by omega]
      have hd7 := r7 _ _ (up hd4 pd.symm)
      refine q_app (R := Ex) (x_name 2 rfl) hd7 (v_name 4 rfl) (fun H8 r8 => ⟨_, r8 _ _ hd7, ?_, ?_⟩) kV_mono
      · rw [vS_len, List.length_reverse]
        have : i * 96 ≤ 96 * 96 := Nat.mul_le_mul_right 96 (by omega)
        exact Nat.lt_of_le_of_lt (show _ ≤ 100000 by omega) (by decide)
      refine RB.nil ⟨swapF q cur, q :: Rs, rfl, ?_, md.swap h1, by show Rs.length + 1 + q ≤ _; omega, ?_, ?_⟩
      · refine Ex.mu (fun b' o h1 => r8 _ _ (r7 _ _ ?_)) nd1
        exact up (e4 _ _ h1) (ne_of_none h1 np)
      · rw [upd_ne pd]
        exact r8 _ _ (r7 _ _ upd_same)
      · rw [upd_same, List.reverse_cons]
        unfold vS
        rw [List.map_append]
        rfl
    · refine RB.nil ⟨_, _, cur, Rs, rfl, e4.tr r5, md.out ?_, ?_, r5 _ _ hp4, r5 _ _ hd4⟩
      · by_cases h0 : 0 < m
        · rw [decide_eq_true h0, Bool.true_and] at hb
          have := of_decide_eq_false hb
          exact .inr (by omega)
        · exact .inl (by omega)
      · have : (i + 1) * 96 = i * 96 + 96 := by omega
        omega
  · rintro σ' H' ⟨v3, v4, cur, Rs, rfl, e, o, hl, hp', hd'⟩
    rw [vL_len, Int.toNat_natCast] at o hl
    obtain ⟨h1, h2⟩ := o.done
    refine q_ret (R := Ex) (n_rev (v_name 2 rfl) fun H3 r3 => SqL.of (r3 _ _ hd')) fun u H3 nu r3 hu => kq Rs h1 h2 ?_ u H3 (none_back e nu) (e.tr r3) ?_
    · have : k * 96 ≤ 96 * 96 := Nat.mul_le_mul_right 96 (by omega)
      omega
    · rw [hu]
      unfold vS
      rw [← List.map_reverse, List.reverse_reverse]
theorem ok_need_alike : Ok P w K mg base 5 (He.fAd K ("need_alike", none)) ["one", "other"] spAlike := by
  refine ok_of T.d_need_alike sc_need_alike (fun _ _ _ _ _ _ us hl => match us, hl with | [_, _], _ => rfl) (fun vs H Q E h => by obtain ⟨_, _, _, _, _, _, _, rfl, _⟩ := h; rfl) (fun cdv A outer s H vs Q E hr h => ?_)
  obtain ⟨a, b, k, g1, f1, g2, f2, rfl, ha, hb, b1, b2, hk, kq⟩ := h
  refine q_expr (R := Ex) (g_call (K := KV Ex .non) (ok_need_turning T) T.g_need_turning hr (a_1 (v_name 0 rfl)) fun vs H1 r1 k1 Q q => ?_) fun H1 r1 => q_expr (R := Ex) (g_call (K := KV Ex .non) (ok_need_turning T) T.g_need_turning hr (a_1 (v_name 1 rfl)) fun vs H2 r2 k2 Q q => ?_) fun H2 r2 =>
    q_no (R := Ex) ((t_ne (v_len rfl T.b_len (v_name 0 rfl) fun H3 r3 => SqL.of (r3 _ _ (r2 _ _ (r1 _ _ ha)))) (v_len rfl T.b_len (v_name 1 rfl) fun H3 r3 => SqL.of (r3 _ _ (r2 _ _ (r1 _ _ hb))))).is (by rw [vL_len, vL_len]; simp)) fun H3 r3 => RB.nil (kq H3 (r1.tr (r2.tr r3)))
  · obtain rfl := k1.now
    exact ⟨a, k, g1, f1, rfl, r1 _ _ ha, b1, hk, q⟩
  · obtain rfl := k2.now
    exact ⟨b, k, g2, f2, rfl, r2 _ _ (r1 _ _ hb), b2, hk, q⟩
theorem ok_laid : Ok P w K mg base 7 (He.fAd K ("laid", none)) ["one", "other"] spLaid := by
  refine ok_of T.d_laid sc_laid (fun _ _ _ _ _ _ us hl => match us, hl with | [_, _], _ => rfl) (fun vs H Q E h => by obtain ⟨_, _, _, _, _, _, _, rfl, _⟩ := h; rfl) (fun cdv A outer s H vs Q E hr h => ?_)
  obtain ⟨a, b, k, g1, f1, g2, ws, rfl, ha, hb, b1, b2, hw, hk, kq⟩ := h
  have nd := sc_laid.nd
  refine q_expr (R := Ex) (g_call (K := KV Ex .non) (ok_need_alike T) T.g_need_alike (hr.mono (by decide)) (a_v (v_name 0 rfl) (a_1 (v_name 1 rfl))) fun vs H1 r1 k1 Q q => ?_) fun H1 r1 => ?_
  · obtain rfl := k1.now
    exact ⟨a, b, k, g1, f1, g2, runF ws id, rfl, r1 _ _ ha, r1 _ _ hb, b1, b2, hk, q⟩
  refine q_set (R := Ex) 2 (g_call (K := KN Ex (vL k f1)) (ok_opposite T) T.g_opposite (hr.mono (by decide)) (a_1 (v_name 0 rfl)) fun vs H2 r2 k2 Q q => ?_) ?_ nd
  · obtain rfl := k2.now
    exact ⟨a, k, g1, f1, rfl, r2 _ _ (r1 _ _ ha), b1, hk, q⟩
  intro p H2 np r2 hp
  -- worked_through(ending, steps_of(other))
  refine q_exprX (re_call (R := Ex) (ok_worked_through T) T.g_worked_through (hr.mono (by decide)) (a_p ((v_name 2 rfl).p (P := fun v _ => v = .ref p) (kp_true rfl)) (a_p (P := fun v H => ∃ q vs, v = .ref q ∧ q ≠ p ∧ stepsOk k vs ∧ (∀ i, i < k → runF vs id i = runF ws id i) ∧ vs.length ≤ 10000 ∧ H q = some (.lst (vS vs)))
    (g_call (ok_steps_of T) T.g_steps_of (hr.mono (by decide)) (a_1 (v_name 1 rfl)) fun vs H3 r3 k3 Q q => ?_) (a_nil (PA := fun ws _ => ws = [])))) fun vs H3 r3 k3 => ?_)
  · obtain rfl := k3.now
    refine ⟨b, k, g2, runF ws id, rfl, r3 _ _ (r2 _ _ (r1 _ _ hb)), b2, hk, fun vs h1 h2 h3 d H4 nd4 r4 hd => q (.ref d) H4 r4 fun H5 r5 => ⟨d, vs, rfl, ?_, h1, h2, h3, r5 _ _ hd⟩⟩
    exact (ne_of_none (r3 _ _ hp) nd4).symm
  · obtain ⟨v, r, rfl, rfl, v2, r2', rfl, ⟨q, vs, rfl, qp, h1, h2, h3, hq⟩, rfl⟩ := k3.now
    have e3 : Ex H H3 := r1.tr (r2.tr r3)
    refine ⟨p, q, k, f1, vs, rfl, qp.symm, r3 _ _ hp, hq, h1, hk, by omega, fun d H4 _ h4 h5 _ => ?_⟩
    obtain ⟨g, bj⟩ := Bij.run b1.symm h1
    refine q_ret (R := Ex) (g_call (K := KN Ex (vL k (invF k (runF vs f1)))) (ok_opposite T) T.g_opposite (hr.mono (by decide)) (a_1 (v_name 2 rfl)) fun vs5 H5 r5 k5 Q q' => ?_) fun u H5 nu r5 hu => kq u H5 ?_ ?_ ?_
    · obtain rfl := k5.now
      exact ⟨p, k, _, _, rfl, r5 _ _ h5, bj.inv, hk, q'⟩
    · exact none_back (fun b' o hb' => h4 _ _ (e3 _ _ hb') (ne_of_none (r1 _ _ hb') np)) nu
    · exact fun b' o hb' => r5 _ _ (h4 _ _ (e3 _ _ hb') (ne_of_none (r1 _ _ hb') np))
    · rw [hu, show vL k (invF k (runF vs f1)) = vL k (lay k f1 ws) from vL_congr fun i _ => lay_det h1 hw h2 i]
end
end PT
namespace PT
open PySem PySem.Spec PyProof.Rows L2
/-! ### C.f(..), C a class, f a plain def of it -/
section
variable {X : Cx} {R : Hp → Hp → Prop} [Rl R] {σ : L2.St} {H H' : Hp} {o e : Expr} {es : List Expr} {pos apos : Pos} {PB : List V → Hp → Prop} {m : Str} {C f : Addr} {mc : Value} {k : Nat} {ps : List Str} {sp : Sp} {ta : TE} {t : TA}
theorem x_glob {n : Str} {v : V} {u : Value} (hm : X.mg n = some u) (r : RelV v u) (hg : Gl X n := by rfl) (hd : (n == ("__debug__" : Str)) = false := by decide) : Vl X (.Name n pos) σ H v := fun Q q => RE.of (pe_glob hg hm r hd) q
theorem pe_clsfn {pl : Sem Bool} {fd : FuncData} (he : PE X o ta) (r : ClX.CRead X.K C mc) (c : ClX.CVal X.K C mc m (.ref f) (.ref f)) (F : FnOk X.prog X.w X.K X.mg X.base CX0 k f fd ps sp) (b : Binds X.K fd ps []) (hk : PySem.W.keepIn X.K (.ref f) = true) (hr : Room k X.A) (ha : PA X (e :: es) t)
    (hst : starEach (e :: es) X.env = (false, eval e X.env) :: starEach es X.env := by rfl) (hpl : (backTo pos (starEach es X.env)).any (·.1) = false := by rfl)
    (ht : eval (.Call (.Attribute o m apos) (e :: es) [] pos) X.env = (do
      let ov ← eval o X.env
      standAt apos.atName
      let (f, first) ← holding [ov] (getMethod ov m pl)
      callWith pos f first (backTo pos (starEach (e :: es) X.env)) (backToKw pos (keywordEach [] X.env))) := by rfl) :
    PE X (.Call (.Attribute o m apos) (e :: es) [] pos) (fun σ H Q => ta σ H fun x H1 => x = .ref C ∧ t σ H1 fun vs H2 => sp vs H2 Q E0) := by
  refine ⟨fun pins s σ H Q I h => ?_⟩
  refine PySem.W.methodCall_KW (pl := pl) (thn (he.run pins s σ H _ I h) fun u s1 ⟨x, H1, I1, rx, ex, q⟩ => ?_) ht
  subst ex
  obtain rfl : u = Value.ref C := rx
  refine PySem.W.method_cls I1.kIn r.ga (ClX.getcval_ok I1 r c fun s2 I2 => ?_)
  refine PySem.W.callWith_K (first := []) (h₀ := X.base) I2.ok.mod.kin hk (thn (ha.run pos pins s2 σ H1 _ I2 q) fun us s3 ⟨vs, H2, I3, rv, q2⟩ => ⟨I3.kIn, ?_⟩) hst hpl
  refine run_fn (vs := vs) (us := us) F hr b .nil pass0 I3 rv ?_
  rw [List.append_nil]
  exact q2
theorem re_clsfn {Q : VK} (ho : Vl X o σ H (.ref C)) (r : ClX.CRead X.K C mc) (c : ClX.CVal X.K C mc m (.ref f) (.ref f)) (O : Ok X.prog X.w X.K X.mg X.base k f ps sp) (hr : Room k X.A) (ha : EvA X R (e :: es) σ H PB) (hs : ∀ vs H1, R H H1 → Kp R H1 (PB vs) → sp vs H1 Q E0) {pl : Sem Bool}
    (hst : starEach (e :: es) X.env = (false, eval e X.env) :: starEach es X.env := by rfl) (hpl : (backTo pos (starEach es X.env)).any (·.1) = false := by rfl)
    (ht : eval (.Call (.Attribute o m apos) (e :: es) [] pos) X.env = (do
      let ov ← eval o X.env
      standAt apos.atName
      let (f, first) ← holding [ov] (getMethod ov m pl)
      callWith pos f first (backTo pos (starEach (e :: es) X.env)) (backToKw pos (keywordEach [] X.env))) := by rfl) :
    RE X (.Call (.Attribute o m apos) (e :: es) [] pos) σ H Q := by
  obtain ⟨fd, F, b⟩ := O.ex
  exact RE.of (pe_clsfn (pl := pl) pe_RE r c F b O.kp hr pa_RA hst hpl ht) (ho _ ⟨rfl, ha H (Rl.rfl H) _ fun vs H2 r2 k2 => hs vs H2 r2 k2⟩)
end
end PT
namespace PT
open PySem PySem.Spec PyProof.Rows L2
local macro_rules | `(tactic| walk_at "lk") => `(tactic| (repeat (first | rw [L2.lookup_putF, if_pos rfl] | rw [L2.lookup_putF, if_neg (by decide +kernel)])) <;> first | rfl | assumption | done)
/-! ### pieces -/
def isPC (c : Str) : Prop := c = "Blank" ∨ c = "One" ∨ c = "Over" ∨ c = "Beside"
/-- a piece stands at p: its rows, its lines are those of their board -/
structure PcAt (K : PySem.W.Frag) (c : Str) (dx kn : Addr) (lv : Int) (fs : List (Str × V)) (p : Addr) (s t : List Nat) (H : Hp) : Prop where
  pc : isPC c
  at_ : H p = some (.ins (He.ga K c) dx fs)
  l1 : fs.lookup ("left_edge" : Str) = some (.str (mkS s))
  l2 : fs.lookup ("upper_edge" : Str) = some (.str (mkS t))
  l3 : fs.lookup ("known" : Str) = some (.ref kn)
  l4 : fs.lookup ("levels" : Str) = some (.int lv)
  kn_ : H kn = some (.lst (vL (s.length + t.length) (LN s t)))
  m1 : fs.lookup ("side" : Str) = none
  m2 : fs.lookup ("top" : Str) = none
  m3 : fs.lookup ("lines" : Str) = none
  m4 : fs.lookup ("height" : Str) = none
  r1 : rowOk s
  r2 : rowOk t
def PcK (K : PySem.W.Frag) (p : Addr) (s t : List Nat) (H : Hp) : Prop := ∃ c dx kn lv fs, PcAt K c dx kn lv fs p s t H
theorem PcAt.keep {K : PySem.W.Frag} {c : Str} {dx kn : Addr} {lv : Int} {fs : List (Str × V)} {p : Addr} {s t : List Nat} {H H' : Hp} (a : PcAt K c dx kn lv fs p s t H) (h1 : H' p = H p) (h2 : H' kn = H kn) : PcAt K c dx kn lv fs p s t H' :=
  ⟨a.pc, h1.trans a.at_, a.l1, a.l2, a.l3, a.l4, h2.trans a.kn_, a.m1, a.m2, a.m3, a.m4, a.r1, a.r2⟩
theorem PcK.ex {K : PySem.W.Frag} {p : Addr} {s t : List Nat} {H H' : Hp} (a : PcK K p s t H) (e : Ex H H') : PcK K p s t H' := by
  obtain ⟨c, dx, kn, lv, fs, a⟩ := a
  exact ⟨c, dx, kn, lv, fs, a.keep (by rw [e _ _ a.at_, a.at_]) (by rw [e _ _ a.kn_, a.kn_])⟩
/-- .. whose lines' list is new since H0 -/
def PcF (K : PySem.W.Frag) (H0 : Hp) (p : Addr) (s t : List Nat) (H : Hp) : Prop := ∃ c dx kn lv fs, PcAt K c dx kn lv fs p s t H ∧ H0 kn = none
theorem PcF.k {K : PySem.W.Frag} {H0 H : Hp} {p : Addr} {s t : List Nat} (a : PcF K H0 p s t H) : PcK K p s t H := by
  obtain ⟨c, dx, kn, lv, fs, a, _⟩ := a
  exact ⟨c, dx, kn, lv, fs, a⟩
theorem PcF.ex {K : PySem.W.Frag} {H0 H H' : Hp} {p : Addr} {s t : List Nat} (a : PcF K H0 p s t H) (e : Ex H H') : PcF K H0 p s t H' := by
  obtain ⟨c, dx, kn, lv, fs, a, n⟩ := a
  exact ⟨c, dx, kn, lv, fs, a.keep (by rw [e _ _ a.at_, a.at_]) (by rw [e _ _ a.kn_, a.kn_]), n⟩
theorem PcF.back {K : PySem.W.Frag} {H0 H1 H : Hp} {p : Addr} {s t : List Nat} (a : PcF K H1 p s t H) (e : Ex H0 H1) : PcF K H0 p s t H := by
  obtain ⟨c, dx, kn, lv, fs, a, n⟩ := a
  exact ⟨c, dx, kn, lv, fs, a, none_back e n⟩
theorem PcK.kp {K : PySem.W.Frag} {p : Addr} {s t : List Nat} {H : Hp} (a : PcK K p s t H) : Kp Ex H (PcK K p s t) := fun _ e => a.ex e
section
variable {K : PySem.W.Frag} {mg : Str → Option Value} (T : Txt K mg) {c : Str} (h : isPC c)
include T h
theorem pc_k : Cls K (He.ga K c) := by
  rcases h with rfl | rfl | rfl | rfl
  · exact T.k_Blank
  · exact T.k_One
  · exact T.k_Over
  · exact T.k_Beside
theorem pc_n1 : NoAttr K (He.ga K c) "left_edge" := by
  rcases h with rfl | rfl | rfl | rfl
  · exact T.n_Blank_left_edge
  · exact T.n_One_left_edge
  · exact T.n_Over_left_edge
  · exact T.n_Beside_left_edge
theorem pc_n2 : NoAttr K (He.ga K c) "upper_edge" := by
  rcases h with rfl | rfl | rfl | rfl
  · exact T.n_Blank_upper_edge
  · exact T.n_One_upper_edge
  · exact T.n_Over_upper_edge
  · exact T.n_Beside_upper_edge
theorem pc_n3 : NoAttr K (He.ga K c) "known" := by
  rcases h with rfl | rfl | rfl | rfl
  · exact T.n_Blank_known
  · exact T.n_One_known
  · exact T.n_Over_known
  · exact T.n_Beside_known
theorem pc_n4 : NoAttr K (He.ga K c) "levels" := by
  rcases h with rfl | rfl | rfl | rfl
  · exact T.n_Blank_levels
  · exact T.n_One_levels
  · exact T.n_Over_levels
  · exact T.n_Beside_levels
theorem pc_n5 : NoAttr K (He.ga K c) "made_of" := by
  rcases h with rfl | rfl | rfl | rfl
  · exact T.n_Blank_made_of
  · exact T.n_One_made_of
  · exact T.n_Over_made_of
  · exact T.n_Beside_made_of
theorem pc_m1 : Meth K (He.ga K c) "side" (He.fAd K (c, some "side")) := by
  rcases h with rfl | rfl | rfl | rfl
  · exact T.m_Blank_side
  · exact T.m_One_side
  · exact T.m_Over_side
  · exact T.m_Beside_side
theorem pc_m2 : Meth K (He.ga K c) "top" (He.fAd K (c, some "top")) := by
  rcases h with rfl | rfl | rfl | rfl
  · exact T.m_Blank_top
  · exact T.m_One_top
  · exact T.m_Over_top
  · exact T.m_Beside_top
theorem pc_m3 : Meth K (He.ga K c) "lines" (He.fAd K (c, some "lines")) := by
  rcases h with rfl | rfl | rfl | rfl
  · exact T.m_Blank_lines
  · exact T.m_One_lines
  · exact T.m_Over_lines
  · exact T.m_Beside_lines
theorem pc_m4 : Meth K (He.ga K c) "height" (He.fAd K (c, some "height")) := by
  rcases h with rfl | rfl | rfl | rfl
  · exact T.m_Blank_height
  · exact T.m_One_height
  · exact T.m_Over_height
  · exact T.m_Beside_height
theorem pc_d1 : DefF K (c, some "side") "side" "Piece.side" (inClass (top 48) 1) := by
  rcases h with rfl | rfl | rfl | rfl
  · exact T.d_Blank_side
  · exact T.d_One_side
  · exact T.d_Over_side
  · exact T.d_Beside_side
theorem pc_d2 : DefF K (c, some "top") "top" "Piece.top" (inClass (top 48) 2) := by
  rcases h with rfl | rfl | rfl | rfl
  · exact T.d_Blank_top
  · exact T.d_One_top
  · exact T.d_Over_top
  · exact T.d_Beside_top
theorem pc_d3 : DefF K (c, some "lines") "lines" "Piece.lines" (inClass (top 48) 3) := by
  rcases h with rfl | rfl | rfl | rfl
  · exact T.d_Blank_lines
  · exact T.d_One_lines
  · exact T.d_Over_lines
  · exact T.d_Beside_lines
theorem pc_d4 : DefF K (c, some "height") "height" "Piece.height" (inClass (top 48) 5) := by
  rcases h with rfl | rfl | rfl | rfl
  · exact T.d_Blank_height
  · exact T.d_One_height
  · exact T.d_Over_height
  · exact T.d_Beside_height
theorem pc_kit : PySem.W.kitOne K (.ref (He.ga K c)) (.ref (He.ga K "Piece")) = some true := by
  rcases h with rfl | rfl | rfl | rfl
  · exact T.kit_Blank
  · exact T.kit_One
  · exact T.kit_Over
  · exact T.kit_Beside
theorem pc_ty {H : Hp} {p dx : Addr} {fs : List (Str × V)} (e : H p = some (.ins (He.ga K c) dx fs)) : TyOf K H (.ref p) (.ref (He.ga K c)) := by
  rcases h with rfl | rfl | rfl | rfl
  · exact .ins e T.k_Blank T.cl_Blank T.og T.ot T.mo_Blank
  · exact .ins e T.k_One T.cl_One T.og T.ot T.mo_One
  · exact .ins e T.k_Over T.cl_Over T.og T.ot T.mo_Over
  · exact .ins e T.k_Beside T.cl_Beside T.og T.ot T.mo_Beside
end
/-! ### their methods -/
def spGet (f : Str) (K : PySem.W.Frag) : Sp := fun vs H Q _ => ∃ p v, vs = [.ref p] ∧ Fld K p f v H ∧ Ret v H Q
def spCopy (f : Str) (K : PySem.W.Frag) : Sp := fun vs H Q _ => ∃ p kn xs, vs = [.ref p] ∧ Fld K p f (.ref kn) H ∧ H kn = some (.lst xs) ∧ RetN xs H Q
theorem Fld.ex {K : PySem.W.Frag} {p : Addr} {f : Str} {v : V} {H : Hp} (h : Fld K p f v H) : Kp Ex H (Fld K p f v) := fun H1 r => by
  obtain ⟨C, dx, fs, h1, h2⟩ := h
  exact ⟨C, dx, fs, r _ _ h1, h2⟩
theorem sc_p1 : FnScope ["self"] ["self"] (defScope (inClass (top 48) 1)) := ⟨rfl, rfl, rfl, by decide +kernel, rfl, by decide +kernel, by decide +kernel⟩
theorem sc_p2 : FnScope ["self"] ["self"] (defScope (inClass (top 48) 2)) := ⟨rfl, rfl, rfl, by decide +kernel, rfl, by decide +kernel, by decide +kernel⟩
theorem sc_p3 : FnScope ["self"] ["self"] (defScope (inClass (top 48) 3)) := ⟨rfl, rfl, rfl, by decide +kernel, rfl, by decide +kernel, by decide +kernel⟩
theorem sc_p4 : FnScope ["self"] ["self"] (defScope (inClass (top 48) 5)) := ⟨rfl, rfl, rfl, by decide +kernel, rfl, by decide +kernel, by decide +kernel⟩
section
variable {P : Program} {w : World} {K : PySem.W.Frag} {mg : Str → Option Value} {base : Heap} (T : Txt K mg)
include T
theorem ok_pside {c : Str} (h : isPC c) : Ok P w K mg base 1 (He.fAd K (c, some "side")) ["self"] (spGet "left_edge" K) := by
  refine ok_of (pc_d1 T h) sc_p1 (fun _ _ _ _ _ _ us hl => match us, hl with | [_], _ => rfl) (fun vs H Q E h => by obtain ⟨_, _, rfl, _⟩ := h; rfl) (fun cdv A outer s H vs Q E hr h => ?_)
  obtain ⟨p, v, rfl, hf, kq⟩ := h
  exact q_ret (R := Ex) (v_fld (v_name 0 rfl) hf.ex) kq
theorem ok_ptop {c : Str} (h : isPC c) : Ok P w K mg base 1 (He.fAd K (c, some "top")) ["self"] (spGet "upper_edge" K) := by
  refine ok_of (pc_d2 T h) sc_p2 (fun _ _ _ _ _ _ us hl => match us, hl with | [_], _ => rfl) (fun vs H Q E h => by obtain ⟨_, _, rfl, _⟩ := h; rfl) (fun cdv A outer s H vs Q E hr h => ?_)
  obtain ⟨p, v, rfl, hf, kq⟩ := h
  exact q_ret (R := Ex) (v_fld (v_name 0 rfl) hf.ex) kq
theorem ok_plines {c : Str} (h : isPC c) : Ok P w K mg base 1 (He.fAd K (c, some "lines")) ["self"] (spCopy "known" K) := by
  refine ok_of (pc_d3 T h) sc_p3 (fun _ _ _ _ _ _ us hl => match us, hl with | [_], _ => rfl) (fun vs H Q E h => by obtain ⟨_, _, _, rfl, _⟩ := h; rfl) (fun cdv A outer s H vs Q E hr h => ?_)
  obtain ⟨p, kn, xs, rfl, hf, hk, kq⟩ := h
  exact q_ret (R := Ex) (n_list rfl T.b_list (v_fld (v_name 0 rfl) hf.ex) fun H1 r1 => SqL.of (r1 _ _ hk)) kq
theorem ok_pheight {c : Str} (h : isPC c) : Ok P w K mg base 1 (He.fAd K (c, some "height")) ["self"] (spGet "levels" K) := by
  refine ok_of (pc_d4 T h) sc_p4 (fun _ _ _ _ _ _ us hl => match us, hl with | [_], _ => rfl) (fun vs H Q E h => by obtain ⟨_, _, rfl, _⟩ := h; rfl) (fun cdv A outer s H vs Q E hr h => ?_)
  obtain ⟨p, v, rfl, hf, kq⟩ := h
  exact q_ret (R := Ex) (v_fld (v_name 0 rfl) hf.ex) kq
end
section
variable {X : Cx} {σ : L2.St} {H : Hp} {o : Expr} {pos apos : Pos} {p : Addr} {s t : List Nat} (T : Txt X.K X.mg)
include T
theorem v_pside (ho : EvV X Ex o σ H (.ref p)) (hp : PcK X.K p s t H) (hr : Room 1 X.A) {pl : Sem Bool}
    (ht : eval (.Call (.Attribute o "side" apos) [] [] pos) X.env = (do
      let ov ← eval o X.env
      standAt apos.atName
      let (f, first) ← holding [ov] (getMethod ov "side" pl)
      callWith pos f first (backTo pos (starEach [] X.env)) (backToKw pos (keywordEach [] X.env))) := by rfl) : EvV X Ex (.Call (.Attribute o "side" apos) [] [] pos) σ H (.str (mkS s)) := by
  obtain ⟨c, dx, kn, lv, fs, a⟩ := hp
  refine g_meth0 (pc_k T a.pc) (pc_m1 T a.pc) (ok_pside T a.pc) hr ho (fun H1 r1 => ⟨dx, fs, r1 _ _ a.at_, a.m1⟩) (fun H1 r1 Q q => ⟨p, _, rfl, ⟨_, dx, fs, r1 _ _ a.at_, pc_k T a.pc, pc_n1 T a.pc, a.l1⟩, q⟩) ht
theorem v_ptop (ho : EvV X Ex o σ H (.ref p)) (hp : PcK X.K p s t H) (hr : Room 1 X.A) {pl : Sem Bool}
    (ht : eval (.Call (.Attribute o "top" apos) [] [] pos) X.env = (do
      let ov ← eval o X.env
      standAt apos.atName
      let (f, first) ← holding [ov] (getMethod ov "top" pl)
      callWith pos f first (backTo pos (starEach [] X.env)) (backToKw pos (keywordEach [] X.env))) := by rfl) : EvV X Ex (.Call (.Attribute o "top" apos) [] [] pos) σ H (.str (mkS t)) := by
  obtain ⟨c, dx, kn, lv, fs, a⟩ := hp
  refine g_meth0 (pc_k T a.pc) (pc_m2 T a.pc) (ok_ptop T a.pc) hr ho (fun H1 r1 => ⟨dx, fs, r1 _ _ a.at_, a.m2⟩) (fun H1 r1 Q q => ⟨p, _, rfl, ⟨_, dx, fs, r1 _ _ a.at_, pc_k T a.pc, pc_n2 T a.pc, a.l2⟩, q⟩) ht
theorem n_plines (ho : EvV X Ex o σ H (.ref p)) (hp : PcK X.K p s t H) (hr : Room 1 X.A) {pl : Sem Bool}
    (ht : eval (.Call (.Attribute o "lines" apos) [] [] pos) X.env = (do
      let ov ← eval o X.env
      standAt apos.atName
      let (f, first) ← holding [ov] (getMethod ov "lines" pl)
      callWith pos f first (backTo pos (starEach [] X.env)) (backToKw pos (keywordEach [] X.env))) := by rfl) : EvN X Ex (.Call (.Attribute o "lines" apos) [] [] pos) σ H (vL (s.length + t.length) (LN s t)) := by
  obtain ⟨c, dx, kn, lv, fs, a⟩ := hp
  refine g_meth0 (pc_k T a.pc) (pc_m3 T a.pc) (ok_plines T a.pc) hr ho (fun H1 r1 => ⟨dx, fs, r1 _ _ a.at_, a.m3⟩) (fun H1 r1 Q q => ⟨p, kn, _, rfl, ⟨_, dx, fs, r1 _ _ a.at_, pc_k T a.pc, pc_n3 T a.pc, a.l3⟩, r1 _ _ a.kn_, q⟩) ht
end
end PT
namespace PT
open PySem PySem.Spec PyProof.Rows L2
local macro_rules | `(tactic| walk_at "lk") => `(tactic| (repeat (first | rw [L2.lookup_putF, if_pos rfl] | rw [L2.lookup_putF, if_neg (by decide +kernel)])) <;> first | rfl | assumption | done)
/-- all but x stays -/
def Kx (x : Addr) (H H' : Hp) : Prop := ∀ b o, H b = some o → b ≠ x → H' b = some o
theorem Kx.set {x : Addr} {H H' : Hp} {o : HO} (k : Kx x H H') : Kx x H (upd H' x o) := fun b u h hb => by rw [upd_ne hb]; exact k b u h hb
theorem Kx.ex {x : Addr} {H H' H2 : Hp} (k : Kx x H H') (e : Ex H' H2) : Kx x H H2 := fun b u h hb => e _ _ (k b u h hb)
theorem Kx.of {x : Addr} {H H' : Hp} (e : Ex H H') : Kx x H H' := fun b u h _ => e _ _ h
theorem Kx.exx {x : Addr} {H H1 H' : Hp} (e : Ex H H1) (k : Kx x H1 H') : Kx x H H' := fun b u h hb => k _ _ (e _ _ h) hb
theorem PcK.kx {K : PySem.W.Frag} {p x : Addr} {s t : List Nat} {H H' : Hp} (a : PcK K p s t H) (k : Kx x H H') (h1 : p ≠ x) (h2 : ∀ xs, H x ≠ some (.lst xs)) : PcK K p s t H' := by
  obtain ⟨c, dx, kn, lv, fs, a⟩ := a
  have n2 : kn ≠ x := fun e => h2 _ (by rw [← e]; exact a.kn_)
  exact ⟨c, dx, kn, lv, fs, a.keep (by rw [k _ _ a.at_ h1, a.at_]) (by rw [k _ _ a.kn_ n2, a.kn_])⟩
theorem PcK.ne {K : PySem.W.Frag} {p x C dx : Addr} {s t : List Nat} {H : Hp} (a : PcK K p s t H) (h : H x = some (.ins C dx [])) : p ≠ x := fun e => by
  obtain ⟨c, d, kn, lv, fs, a⟩ := a
  have h1 := a.at_
  rw [e, h] at h1
  cases h1
  have l := a.l3
  cases l
def spPInit (K : PySem.W.Frag) : Sp := fun vs H Q _ => ∃ c x dx rw tu mo s t k g its, vs = [.ref x, .ref rw, .ref tu, .ref mo] ∧ isPC c ∧ H x = some (.ins (He.ga K c) dx []) ∧ H rw = some (.tup [.str (mkS s), .str (mkS t)]) ∧ H tu = some (.lst (vL k g)) ∧ H mo = some (.lst its) ∧
  (∀ v ∈ its, ∃ p s' t', v = .ref p ∧ PcK K p s' t' H) ∧ its.length ≤ 10 ∧ k = s.length + t.length ∧ (∀ i, i < k → g i = LN s t i) ∧ rowOk s ∧ rowOk t ∧ ∀ H', Kx x H H' → PcF K H x s t H' → Q .non H'
theorem sc_pinit : FnScope ["self", "rows", "turning", "made_of", "piece"] ["self", "rows", "turning", "made_of"] (defScope (inClass (top 48) 0)) := ⟨rfl, rfl, rfl, by decide +kernel, rfl, by decide +kernel, by decide +kernel⟩
theorem sc_need_piece : FnScope ["thing"] ["thing"] (defScope (top 49)) := ⟨rfl, rfl, rfl, by decide +kernel, rfl, by decide +kernel, by decide +kernel⟩
theorem sc_need_sign : FnScope ["sign"] ["sign"] (defScope (top 50)) := ⟨rfl, rfl, rfl, by decide +kernel, rfl, by decide +kernel, by decide +kernel⟩
def spNeedPiece (K : PySem.W.Frag) : Sp := fun vs H Q _ => ∃ p s t, vs = [.ref p] ∧ PcK K p s t H ∧ Ret .non H Q
def spNeedSign : Sp := fun vs H Q _ => ∃ c : Nat, vs = [sgn c] ∧ isSg c = true ∧ Ret .non H Q
section
variable {P : Program} {w : World} {K : PySem.W.Frag} {mg : Str → Option Value} {base : Heap} (T : Txt K mg)
include T
theorem ok_pinit : Ok P w K mg base 3 (He.fAd K ("Piece", some "__init__")) ["self", "rows", "turning", "made_of"] (spPInit K) := by
  refine ok_of T.d_Piece___init__ sc_pinit (fun _ _ _ _ _ _ us hl => match us, hl with | [_, _, _, _], _ => rfl) (fun vs H Q E h => by obtain ⟨_, _, _, _, _, _, _, _, _, _, _, rfl, _⟩ := h; rfl) (fun cdv A outer s0 H vs Q E hr h => ?_)
  obtain ⟨c, x, dx, rw, tu, mo, s, t, k, g, its, rfl, hc, hx, hrw, htu, hmo, hits, hil, hk, hg, hs, ht, kq⟩ := h
  have nd := sc_pinit.nd
  have n1 : rw ≠ x := ne_of hrw hx (by intro z; cases z)
  have n2 : tu ≠ x := ne_of htu hx (by intro z; cases z)
  have n3 : mo ≠ x := ne_of hmo hx (by intro z; cases z)
  refine q_fld (R := Ex) (v_ixT (v_name 1 rfl) v_int (fun H1 r1 => SqT.of (r1 _ _ hrw)) (v := .str (mkS s)) rfl) (fun H1 r1 => ⟨x, He.ga K c, dx, [], x_name 0 rfl, r1 _ _ hx, pc_k T hc, pc_n1 T hc, by decide, ?_⟩) kV_mono
  have e1 : Kx x H (upd H1 x (.ins (He.ga K c) dx (putF "left_edge" (.str (mkS s)) []))) := (Kx.of r1).set
  refine q_fld (R := Ex) (v_ixT (v_name 1 rfl) v_int (fun H2 r2 => SqT.of (r2 _ _ (e1 _ _ hrw n1))) (v := .str (mkS t)) rfl) (fun H2 r2 => ⟨x, He.ga K c, dx, _, x_name 0 rfl, r2 _ _ upd_same, pc_k T hc, pc_n2 T hc, ?_, ?_⟩) kV_mono
  · exact Nat.lt_of_le_of_lt (length_putF _ _ _) (by decide)
  have e2 : Kx x H (upd H2 x (.ins (He.ga K c) dx (putF "upper_edge" (.str (mkS t)) (putF "left_edge" (.str (mkS s)) [])))) := (e1.ex r2).set
  refine q_fld (R := Ex) (n_list rfl T.b_list (v_name 2 rfl) (fun H3 r3 => SqL.of (r3 _ _ (e2 _ _ htu n2)))) (fun kn H3 nk r3 hkn => ⟨x, He.ga K c, dx, _, x_name 0 rfl, r3 _ _ upd_same, pc_k T hc, pc_n3 T hc, ?_, ?_⟩) kN_mono
  · exact Nat.lt_of_le_of_lt (Nat.le_trans (length_putF _ _ _) (Nat.succ_le_succ (length_putF _ _ _))) (by decide)
  have kx : kn ≠ x := fun e => by rw [e, upd_same] at nk; cases nk
  have hk0 : H kn = none := by
    cases z : H kn with
    | none => rfl
    | some o =>
      rw [e2 _ _ z kx] at nk
      cases nk
  have e3 : Kx x H (upd H3 x (.ins (He.ga K c) dx (putF "known" (.ref kn) (putF "upper_edge" (.str (mkS t)) (putF "left_edge" (.str (mkS s)) []))))) := (e2.ex r3).set
  have hkn3 : (upd H3 x (.ins (He.ga K c) dx (putF "known" (.ref kn) (putF "upper_edge" (.str (mkS t)) (putF "left_edge" (.str (mkS s)) []))))) kn = some (.lst (vL k g)) := by rw [upd_ne kx]; exact hkn
  refine q_fld (R := Ex) (n_list rfl T.b_list (v_name 3 rfl) (fun H4 r4 => SqL.of (r4 _ _ (e3 _ _ hmo n3)))) (fun mo' H4 nmo r4 hmo' => ⟨x, He.ga K c, dx, _, x_name 0 rfl, r4 _ _ upd_same, pc_k T hc, pc_n5 T hc, ?_, ?_⟩) kN_mono
  · exact Nat.lt_of_le_of_lt (Nat.le_trans (length_putF _ _ _) (Nat.succ_le_succ (Nat.le_trans (length_putF _ _ _) (Nat.succ_le_succ (length_putF _ _ _))))) (by decide)
  have e4 : Kx x H (upd H4 x (.ins (He.ga K c) dx (putF "made_of" (.ref mo') (putF "known" (.ref kn) (putF "upper_edge" (.str (mkS t)) (putF "left_edge" (.str (mkS s)) [])))))) := (e3.ex r4).set
  have hkn4 : (upd H4 x (.ins (He.ga K c) dx (putF "made_of" (.ref mo') (putF "known" (.ref kn) (putF "upper_edge" (.str (mkS t)) (putF "left_edge" (.str (mkS s)) [])))))) kn = some (.lst (vL k g)) := by rw [upd_ne kx]; exact r4 _ _ hkn3
  refine q_fld (R := Ex) v_int (fun H5 r5 => ⟨x, He.ga K c, dx, _, x_name 0 rfl, r5 _ _ upd_same, pc_k T hc, pc_n4 T hc, ?_, ?_⟩) kV_mono
  · exact Nat.lt_of_le_of_lt (Nat.le_trans (length_putF _ _ _) (Nat.succ_le_succ (Nat.le_trans (length_putF _ _ _) (Nat.succ_le_succ (Nat.le_trans (length_putF _ _ _) (Nat.succ_le_succ (length_putF _ _ _))))))) (by decide)
  -- the loop: all but x stays, x has its five attributes
  let fs0 := putF "made_of" (.ref mo') (putF "known" (.ref kn) (putF "upper_edge" (.str (mkS t)) (putF "left_edge" (.str (mkS s)) [])))
  have done : ∀ H6 fs (lv : Int), Kx x H H6 → H6 x = some (.ins (He.ga K c) dx fs) → (∀ f : Str, f ≠ "levels" → fs.lookup f = fs0.lookup f) → fs.lookup ("levels" : Str) = some (.int lv) → H6 kn = some (.lst (vL k g)) → PcF K H x s t H6 := fun H6 fs lv h1 h2 h3 h4 h5 =>
    ⟨c, dx, kn, lv, fs, ⟨hc, h2, by rw [h3 _ (by decide +kernel)]; walk_at "lk", by rw [h3 _ (by decide +kernel)]; walk_at "lk", by rw [h3 _ (by decide +kernel)]; walk_at "lk", h4, by rw [h5, hk]; exact congrArg (fun l => some (HO.lst l)) (vL_congr fun i hi => hg i (by omega)),
      by rw [h3 _ (by decide +kernel)]; walk_at "lk", by rw [h3 _ (by decide +kernel)]; walk_at "lk", by rw [h3 _ (by decide +kernel)]; walk_at "lk", by rw [h3 _ (by decide +kernel)]; walk_at "lk", hs, ht⟩, hk0⟩
  refine q_forL (R := Ex) 4 (fun i σ' H' => ∃ v fs, ∃ lv : Int, σ' = [some (.ref x), some (.ref rw), some (.ref tu), some (.ref mo), v] ∧ Kx x H H' ∧ H' x = some (.ins (He.ga K c) dx fs) ∧ (∀ f : Str, f ≠ "levels" → fs.lookup f = fs0.lookup f) ∧ fs.lookup ("levels" : Str) = some (.int lv) ∧ fs.length ≤ 5 + i ∧ H' kn = some (.lst (vL k g)))
    (v_name 3 rfl) (fun H6 r6 => SqL.of (r6 _ _ ((e4.ex r5).set _ _ hmo n3))) (fun H6 r6 => ⟨none, _, 0, rfl, ((e4.ex r5).set).ex r6, r6 _ _ upd_same, fun f hf => by rw [lookup_putF, if_neg hf], by walk_at "lk", ?_, r6 _ _ (by rw [upd_ne kx]; exact r5 _ _ hkn4)⟩)
    (fun i σ' H' _ p' => by obtain ⟨_, _, _, _, e, _⟩ := p'; exact SqL.of (e _ _ hmo n3)) ?_ ?_ nd
  · exact Nat.le_trans (length_putF _ _ _) (Nat.succ_le_succ (Nat.le_trans (length_putF _ _ _) (Nat.succ_le_succ (Nat.le_trans (length_putF _ _ _) (Nat.succ_le_succ (Nat.le_trans (length_putF _ _ _) (Nat.succ_le_succ (length_putF _ _ _))))))))
  · rintro i v σ' H' hi ⟨v', fs, lv, rfl, e, hx', hf, hlv, hl, hkn'⟩
    obtain ⟨p, s', t', rfl, hp⟩ := hits v (List.mem_of_getElem? hi)
    have il := (List.getElem?_eq_some_iff.mp hi).1
    have px := hp.ne hx
    obtain ⟨c', dx', kn', lv', fs', a⟩ := hp
    have ha' := e _ _ a.at_ px
    refine q_fld (R := Ex) (v_max rfl T.b_max (v_fld (v_name 0 rfl) fun H6 r6 => ⟨He.ga K c, dx, fs, r6 _ _ hx', pc_k T hc, pc_n4 T hc, hlv⟩) (v_add (i := lv') (g_meth0 (pc_k T a.pc) (pc_m4 T a.pc) (ok_pheight T a.pc) (hr.mono (by decide)) (v_name 4 rfl) (fun H6 r6 => ⟨dx', fs', r6 _ _ ha', a.m4⟩)
      (fun H6 r6 Q q => ⟨p, _, rfl, ⟨_, dx', fs', r6 _ _ ha', pc_k T a.pc, pc_n4 T a.pc, a.l4⟩, q⟩)) v_int)) (fun H6 r6 => ⟨x, He.ga K c, dx, fs, x_name 0 rfl, r6 _ _ hx', pc_k T hc, pc_n4 T hc, by omega, ?_⟩) kV_mono
    refine RB.nil ⟨_, _, _, rfl, (e.ex r6).set, upd_same, fun f hf' => by rw [lookup_putF, if_neg hf']; exact hf f hf', by rw [lookup_putF, if_pos rfl], ?_, by rw [upd_ne kx]; exact r6 _ _ hkn'⟩
    have := length_putF ("levels" : Str) (.int (if lv' + 1 > lv then lv' + 1 else lv)) fs
    omega
  · rintro σ' H' ⟨v', fs, lv, rfl, e, hx', hf, hlv, hl, hkn'⟩
    exact RB.nil (kq H' e (done H' fs lv e hx' hf hlv hkn'))
theorem ok_need_piece : Ok P w K mg base 1 (He.fAd K ("need_piece", none)) ["thing"] (spNeedPiece K) := by
  refine ok_of T.d_need_piece sc_need_piece (fun _ _ _ _ _ _ us hl => match us, hl with | [_], _ => rfl) (fun vs H Q E h => by obtain ⟨_, _, _, rfl, _⟩ := h; rfl) (fun cdv A outer s0 H vs Q E hr h => ?_)
  obtain ⟨p, s, t, rfl, ⟨c, dx, kn, lv, fs, a⟩, kq⟩ := h
  exact q_no (R := Ex) (t_not (k := true) (t_val (v_isi rfl T.b_isinstance (v_name 0 rfl) (v_glob (v := .ref (He.ga K "Piece")) T.g_Piece rfl) (.own _) (fun H1 r1 => .base (pc_ty T a.pc (r1 _ _ a.at_))) (pc_kit T a.pc)))) fun H1 r1 => RB.nil (kq H1 r1)
theorem ok_need_sign : Ok P w K mg base 2 (He.fAd K ("need_sign_pieces", none)) ["sign"] spNeedSign := by
  refine ok_of T.d_need_sign_pieces sc_need_sign (fun _ _ _ _ _ _ us hl => match us, hl with | [_], _ => rfl) (fun vs H Q E h => by obtain ⟨_, rfl, _⟩ := h; rfl) (fun cdv A outer s0 H vs Q E hr h => ?_)
  obtain ⟨c, rfl, hc, kq⟩ := h
  refine q_no (R := Ex) ((t_w (w_and (t_not (t_val (g_call (K := KV Ex (.bl (isLet c))) (ok_is_letter T) T.g_is_letter hr (a_1 (v_name 0 rfl)) fun vs H1 r1 k1 Q q => ?_))) fun _ => w_and1 (t_ne (v_name 0 rfl) v_str))).is ?_) fun H1 r1 => RB.nil (kq H1 r1)
  · obtain rfl := k1.now
    exact ⟨c, rfl, q⟩
  · show (!isLet c && !decide (sgn c = V.str ".")) = false
    rw [sgn_dot]
    unfold isSg at hc
    cases h1 : isLet c
    · rw [h1, Bool.false_or] at hc
      rw [hc]
      rfl
    · rfl
end
end PT
namespace PT
open PySem PySem.Spec PyProof.Rows L2
theorem vL_app (a b : Nat) (f g : Nat → Nat) : vL a f ++ vL b g = vL (a + b) (fun i => if i < a then f i else g (i - a)) := by
  refine vL_ext (by rw [List.length_append, vL_len, vL_len]) fun i hi => ?_
  by_cases h : i < a
  · rw [List.getElem?_append_left (by rw [vL_len]; exact h), vL_get h]
    simp only [if_pos h]
  · rw [List.getElem?_append_right (by rw [vL_len]; omega), vL_len, vL_get (by omega)]
    simp only [if_neg h]
theorem vL_from (i n : Nat) : ((List.range n).map fun (k : Nat) => V.int ((i : Int) + (k : Int))) = vL n (fun k => i + k) := by
  unfold vL
  exact List.map_congr_left fun k _ => by rw [Int.natCast_add]
theorem vL_first (m2 a : Nat) (f : Nat → Nat) : vL m2 id ++ vL a (fun i => m2 + f i) = vL (m2 + a) (sh m2 f) := vL_app m2 a id _
theorem vL_second (n a : Nat) (f : Nat → Nat) (k : Nat) (h : n + a = k) : vL n f ++ vL a (fun i => n + i) = vL k (ext n f) := by
  rw [vL_app, h]
  refine vL_congr fun i hi => ?_
  unfold ext
  split
  · rfl
  · omega
/-! ### a new piece -/
theorem made_ex {H1 : Hp} {x dx C : Addr} (nx : H1 x = none) (nd : H1 dx = none) : Ex H1 (upd (upd H1 dx (.own x)) x (.ins C dx [])) := fun b o h => by
  rw [upd_ne (ne_of_none h nx), upd_ne (ne_of_none h nd)]
  exact h
theorem made_kx {H1 H2 : Hp} {x dx C : Addr} (nx : H1 x = none) (nd : H1 dx = none) (k : Kx x (upd (upd H1 dx (.own x)) x (.ins C dx [])) H2) : Ex H1 H2 := fun b o h => k b o (made_ex nx nd b o h) (ne_of_none h nx)
/-- what a piece's __init__ is to do -/
def spNew (c : Str) (K : PySem.W.Frag) (Pre : List V → List Nat → List Nat → Hp → Prop) : Sp := fun vs H Q _ => ∃ x dx ws s t, vs = .ref x :: ws ∧ ws.length = 2 ∧ H x = some (.ins (He.ga K c) dx []) ∧ Pre ws s t H ∧ ∀ H', Kx x H H' → PcF K H x s t H' → Q .non H'
def preBlank (ws : List V) (s t : List Nat) (_ : Hp) : Prop := ws = [.str (mkS s), .str (mkS t)] ∧ rowOk s ∧ rowOk t ∧ (s = [] ∨ t = [])
def preOne (ws : List V) (s t : List Nat) (_ : Hp) : Prop := ∃ a b, s = [a] ∧ t = [b] ∧ ws = [sgn a, sgn b] ∧ isSg a = true ∧ isSg b = true
def preOver (K : PySem.W.Frag) (ws : List V) (s t : List Nat) (H : Hp) : Prop := ∃ p q s1 s2, s = s1 ++ s2 ∧ ws = [.ref p, .ref q] ∧ PcK K p s1 t H ∧ PcK K q s2 t H ∧ s1.length + s2.length ≤ 48
def preBeside (K : PySem.W.Frag) (ws : List V) (s t : List Nat) (H : Hp) : Prop := ∃ p q t1 t2, t = t1 ++ t2 ∧ ws = [.ref p, .ref q] ∧ PcK K p s t1 H ∧ PcK K q s t2 H ∧ t1.length + t2.length ≤ 48
theorem rows_of {K : PySem.W.Frag} {p : Addr} {s t : List Nat} {H : Hp} (a : PcK K p s t H) : rowOk s ∧ rowOk t := by
  obtain ⟨c, dx, kn, lv, fs, a⟩ := a
  exact ⟨a.r1, a.r2⟩
theorem sc_blank : FnScope ["self", "side", "top"] ["self", "side", "top"] (defScope (inClass (top 52) 0)) := ⟨rfl, rfl, rfl, by decide +kernel, rfl, by decide +kernel, by decide +kernel⟩
theorem sc_one : FnScope ["self", "letter", "sign", "turning"] ["self", "letter", "sign"] (defScope (inClass (top 53) 0)) := ⟨rfl, rfl, rfl, by decide +kernel, rfl, by decide +kernel, by decide +kernel⟩
theorem sc_over : FnScope ["self", "upper", "lower", "side", "shift", "first", "second", "goal"] ["self", "upper", "lower"] (defScope (inClass (top 54) 0)) := ⟨rfl, rfl, rfl, by decide +kernel, rfl, by decide +kernel, by decide +kernel⟩
theorem sc_beside : FnScope ["self", "left", "right", "top", "shift", "second", "first", "goal"] ["self", "left", "right"] (defScope (inClass (top 55) 0)) := ⟨rfl, rfl, rfl, by decide +kernel, rfl, by decide +kernel, by decide +kernel⟩
theorem str_nil (s : List Nat) : decide (V.str (mkS s) = V.str "") = decide (s = []) := by
  rw [← mkS_nil]
  by_cases h : s = []
  · subst h; rfl
  · rw [decide_eq_false h]
    exact decide_eq_false fun z => h (mkS_inj (V.str.inj z))
theorem sgn_eq (a b : Nat) : decide (sgn a = sgn b) = decide (a = b) := by
  by_cases h : a = b
  · subst h; simp
  · rw [decide_eq_false h]
    refine decide_eq_false fun z => h ?_
    have := congrArg (fun s : Str => s.cps.toList) (V.str.inj z)
    simpa using this
theorem sgn_mkS (a : Nat) : sgn a = .str (mkS [a]) := rfl
section
variable {P : Program} {w : World} {K : PySem.W.Frag} {mg : Str → Option Value} {base : Heap} (T : Txt K mg)
include T
theorem ok_blank : Ok P w K mg base 6 (He.fAd K ("Blank", some "__init__")) ["self", "side", "top"] (spNew "Blank" K preBlank) := by
  refine ok_of T.d_Blank___init__ sc_blank (fun _ _ _ _ _ _ us hl => match us, hl with | [_, _, _], _ => rfl) (fun vs H Q E h => by obtain ⟨_, _, _, _, _, rfl, h2, _⟩ := h; rw [List.length_cons, h2]; rfl) (fun cdv A outer s0 H vs Q E hr h => ?_)
  obtain ⟨x, dx, ws, s, t, rfl, _, hx, ⟨rfl, hs, ht, hst⟩, kq⟩ := h
  refine q_expr (R := Ex) (g_call (K := KV Ex .non) (ok_need_rows T) T.g_need_rows (hr.mono (by decide)) (a_v (v_name 1 rfl) (a_1 (v_name 2 rfl))) fun vs H1 r1 k1 Q q => ?_) fun H1 r1 => ?_
  · obtain rfl := k1.now
    exact ⟨s, t, rfl, hs, ht, q⟩
  refine q_no (R := Ex) ((t_w (w_and (t_ne (v_name 1 rfl) v_str) fun _ => w_and1 (t_ne (v_name 2 rfl) v_str))).is (by
    rw [str_nil, str_nil]
    rcases hst with h | h
    · rw [decide_eq_true h]; rfl
    · rw [decide_eq_true h]
      cases decide (s = []) <;> rfl)) fun H2 r2 => ?_
  have e2 : Ex H H2 := r1.tr r2
  refine q_exprX (re_clsfn (R := Ex) (x_glob T.g_Piece rfl) T.cr_Piece T.cv_Piece (ok_pinit T) (hr.mono (by decide)) (a_p ((v_name 0 rfl).p (P := fun v _ => v = .ref x) (kp_true rfl)) (a_p (p_tup (a_v (v_name 1 rfl) (a_1 (v_name 2 rfl))) (fun vs _ e => by rw [e]; show 2 ≤ sizeLine; decide))
    (a_p (EvN.p (xs := vL (s.length + t.length) id) (g_call (ok_straight T) T.g_straight (hr.mono (by decide)) (a_1 (v_add (v_lenS rfl T.b_len (v_name 1 rfl) (by rw [mkS_len]; exact small_line (by have := hs.1; omega))) (v_lenS rfl T.b_len (v_name 2 rfl) (by rw [mkS_len]; exact small_line (by have := ht.1; omega))))) fun vs H3 r3 k3 Q q => ?_))
    (a_p (n_lst a_nil (Nat.zero_le _)).p (a_nil (PA := fun ws _ => ws = [])))))) fun vs H3 r3 k3 => ?_)
  · obtain rfl := k3.now
    rw [mkS_len, mkS_len]
    have h1 := hs.1
    have h2 := ht.1
    exact ⟨s.length + t.length, by rw [Int.natCast_add], by omega, q⟩
  · obtain ⟨_, _, rfl, rfl, _, _, rfl, ⟨rw', _, rfl, hrw, rfl⟩, _, _, rfl, ⟨tu, rfl, htu⟩, _, _, rfl, ⟨mo, rfl, hmo⟩, rfl⟩ := k3.now
    refine ⟨"Blank", x, dx, rw', tu, mo, s, t, s.length + t.length, id, [], rfl, .inl rfl, r3 _ _ (e2 _ _ hx), hrw, htu, hmo, fun v hv => absurd hv (by simp), Nat.zero_le _, rfl, fun i hi => (LN_blank hst i hi).symm, hs, ht, fun H' k1 k2 => RB.nil (kq H' (Kx.exx (e2.tr r3) k1) (k2.back (e2.tr r3)))⟩
theorem ok_one : Ok P w K mg base 4 (He.fAd K ("One", some "__init__")) ["self", "letter", "sign"] (spNew "One" K preOne) := by
  refine ok_of T.d_One___init__ sc_one (fun _ _ _ _ _ _ us hl => match us, hl with | [_, _, _], _ => rfl) (fun vs H Q E h => by obtain ⟨_, _, _, _, _, rfl, h2, _⟩ := h; rw [List.length_cons, h2]; rfl) (fun cdv A outer s0 H vs Q E hr h => ?_)
  obtain ⟨x, dx, ws, s, t, rfl, _, hx, ⟨a, b, rfl, rfl, rfl, ha, hb⟩, kq⟩ := h
  have nd := sc_one.nd
  refine q_expr (R := Ex) (g_call (K := KV Ex .non) (ok_need_sign T) T.g_need_sign_pieces (hr.mono (by decide)) (a_1 (v_name 1 rfl)) fun vs H1 r1 k1 Q q => ?_) fun H1 r1 => q_expr (R := Ex) (g_call (K := KV Ex .non) (ok_need_sign T) T.g_need_sign_pieces (hr.mono (by decide)) (a_1 (v_name 2 rfl)) fun vs H2 r2 k2 Q q => ?_) fun H2 r2 => ?_
  · obtain rfl := k1.now
    exact ⟨a, rfl, ha, q⟩
  · obtain rfl := k2.now
    exact ⟨b, rfl, hb, q⟩
  refine q_set (R := Ex) 3 (n_lst (a_v v_int (a_1 v_int)) (by show 2 ≤ sizeLine; decide)) (fun q H3 nq r3 hq => ?_) nd
  have e3 : Ex H H3 := r1.tr (r2.tr r3)
  -- what follows, from either list
  have fin : ∀ q' H4, Ex H H4 → H4 q' = some (.lst (vL 2 (LN [a] [b]))) → RB (cx P w K mg base ["self", "letter", "sign", "turning"] "One.__init__" (inClass (top 53) 0) (He.fAd K ("One", some "__init__")) cdv A outer s0 H E) [(defBody (inClass (top 53) 0)).getD 4 (.Pass ⟨0, 0, 0, 0⟩)] { nx := fun _ H' => Q .non H', rt := Q } [some (.ref x), some (sgn a), some (sgn b), some (.ref q')] H4 := fun q' H4 e4 hq' => by
    refine q_exprX (re_clsfn (R := Ex) (x_glob T.g_Piece rfl) T.cr_Piece T.cv_Piece (ok_pinit T) hr (a_p ((v_name 0 rfl).p (P := fun v _ => v = .ref x) (kp_true rfl)) (a_p (p_tup (a_v (v_name 1 rfl) (a_1 (v_name 2 rfl))) (fun vs _ e => by rw [e]; show 2 ≤ sizeLine; decide))
      (a_p ((v_name 3 rfl).p (P := fun v _ => v = .ref q') (kp_true rfl)) (a_p (n_lst a_nil (Nat.zero_le _)).p (a_nil (PA := fun ws _ => ws = [])))))) fun vs H5 r5 k5 => ?_)
    obtain ⟨_, _, rfl, rfl, _, _, rfl, ⟨rw', _, rfl, hrw, rfl⟩, _, _, rfl, rfl, _, _, rfl, ⟨mo, rfl, hmo⟩, rfl⟩ := k5.now
    exact ⟨"One", x, dx, rw', q', mo, [a], [b], 2, LN [a] [b], [], rfl, .inr (.inl rfl), r5 _ _ (e4 _ _ hx), hrw, r5 _ _ hq', hmo, fun v hv => absurd hv (by simp), Nat.zero_le _, rfl, fun _ _ => rfl, rowOk.one ha, rowOk.one hb, fun H' k1 k2 => RB.nil (kq H' (Kx.exx (e4.tr r5) k1) (k2.back (e4.tr r5)))⟩
  refine q_if (R := Ex) ((t_eq (v_name 1 rfl) (v_name 2 rfl)).is (sgn_eq a b)) (fun hab H4 r4 => ?_) (fun hab H4 r4 => ?_)
  · refine q_set (R := Ex) 3 (n_lst (a_v v_int (a_1 v_int)) (by show 2 ≤ sizeLine; decide)) (fun q' H5 nq' r5 hq' => RB.nil (fin q' H5 (e3.tr (r4.tr r5)) ?_)) nd
    rw [hq']
    refine congrArg (fun l => some (HO.lst l)) (vL_ext rfl fun i hi => ?_)
    rw [LN_one a b i hi, if_pos (of_decide_eq_true hab)]
    have : i = 0 ∨ i = 1 := by omega
    rcases this with rfl | rfl <;> rfl
  · refine RB.nil (fin q H4 (e3.tr r4) ?_)
    rw [r4 _ _ hq]
    refine congrArg (fun l => some (HO.lst l)) (vL_ext rfl fun i hi => ?_)
    rw [LN_one a b i hi, if_neg (of_decide_eq_false hab)]
    have : i = 0 ∨ i = 1 := by omega
    rcases this with rfl | rfl <;> rfl
theorem ok_over : Ok P w K mg base 8 (He.fAd K ("Over", some "__init__")) ["self", "upper", "lower"] (spNew "Over" K (preOver K)) := by
  refine ok_of T.d_Over___init__ sc_over (fun _ _ _ _ _ _ us hl => match us, hl with | [_, _, _], _ => rfl) (fun vs H Q E h => by obtain ⟨_, _, _, _, _, rfl, h2, _⟩ := h; rw [List.length_cons, h2]; rfl) (fun cdv A outer s0 H vs Q E hr h => ?_)
  obtain ⟨x, dx, ws, s, t, rfl, _, hx, ⟨p, q, s1, s2, rfl, rfl, hp, hq, hl⟩, kq⟩ := h
  have nd := sc_over.nd
  have h1 := rows_of hp
  have h2 := rows_of hq
  have hr1 : Room 1 _ := hr.mono (by decide)
  obtain ⟨tk, htk⟩ := T.c_MOST_SIGNS
  have tl := h1.2.1
  refine q_expr (R := Ex) (g_call (K := KV Ex .non) (ok_need_piece T) T.g_need_piece hr1 (a_1 (v_name 1 rfl)) fun vs H1 r1 k1 Q k => ?_) fun H1 r1 => q_expr (R := Ex) (g_call (K := KV Ex .non) (ok_need_piece T) T.g_need_piece hr1 (a_1 (v_name 2 rfl)) fun vs H2 r2 k2 Q k => ?_) fun H2 r2 => ?_
  · obtain rfl := k1.now
    exact ⟨p, s1, t, rfl, hp.ex r1, k⟩
  · obtain rfl := k2.now
    exact ⟨q, s2, t, rfl, hq.ex (r1.tr r2), k⟩
  have e2 : Ex H H2 := r1.tr r2
  refine q_no (R := Ex) ((t_ne (v_ptop T (v_name 1 rfl) (hp.ex e2) hr1) (v_ptop T (v_name 2 rfl) (hq.ex e2) hr1)).is (by simp)) fun H3 r3 => ?_
  have e3 : Ex H H3 := e2.tr r3
  refine q_set (R := Ex) 3 (v_cat (v_pside T (v_name 1 rfl) (hp.ex e3) hr1) (v_pside T (v_name 2 rfl) (hq.ex e3) hr1) (by rw [mkS_len, mkS_len]; exact small_line (by omega))) (fun H4 r4 => ?_) nd
  rw [mkS_app]
  have e4 : Ex H H4 := e3.tr r4
  refine q_no (R := Ex) ((t_gt (v_lenS rfl T.b_len (v_name 3 rfl) (by rw [mkS_len, List.length_append]; exact small_line (by omega))) (v_glob (v := .int 48) htk ⟨tk, rfl⟩)).is (by rw [mkS_len, List.length_append]; exact decide_eq_false (by omega))) fun H5 r5 => ?_
  have e5 : Ex H H5 := e4.tr r5
  refine q_set (R := Ex) 4 (v_lenS rfl T.b_len (v_pside T (v_name 2 rfl) (hq.ex e5) hr1) (by rw [mkS_len]; exact small_line (by omega))) (fun H6 r6 => ?_) nd
  rw [mkS_len]
  have e6 : Ex H H6 := e5.tr r6
  -- first
  refine q_set (R := Ex) 5 (n_cat (n_lrg rfl rfl T.b_list T.b_range (v_name 4 rfl) (by omega)).p (n_lc (ys := vL (s1.length + t.length) (fun i => s2.length + LN s1 t i)) 7 (i_list ((n_plines T (v_name 1 rfl) (hp.ex e6) hr1).p.imp fun v H7 r7 k => k.imp fun H8 _ ⟨u, e, hu⟩ => ⟨u, e, SqL.of hu⟩)) (by rw [vL_len, vL_len]) (by rw [vL_len]; omega) (by show 7 < 8; decide)
    (fun s0 H0 C cl fp i y z H7 r7 hy hz => ?_) nd (blkOk_by (N := ["self", "upper", "lower", "side", "shift", "first", "second", "goal"]) (sc := defScope (inClass (top 54) 0)) (by decide +kernel))).p (by rw [intsV_eq, vL_len, vL_len]; exact small_line (by omega))) (fun fi H7 nf r7 hf => ?_) nd
  · have hi : i < s1.length + t.length := by
      have := (List.getElem?_eq_some_iff.mp hy).1
      rw [vL_len] at this
      exact this
    rw [vL_get hi] at hy hz
    obtain rfl := Option.some.inj hy
    obtain rfl := Option.some.inj hz
    exact (v_add (v_name 4 rfl) (v_name 7 rfl)).is (by rw [Int.natCast_add])
  rw [intsV_eq, vL_first] at hf
  have e7 : Ex H H7 := e6.tr r7
  -- second
  refine q_set (R := Ex) 6 (n_cat (n_plines T (v_name 2 rfl) (hq.ex e7) hr1).p (n_lrg2 (i := s2.length + t.length) (j := s2.length + (s1.length + t.length)) rfl rfl T.b_list T.b_range ?_ ((v_len rfl T.b_len (v_name 5 rfl) fun H8 r8 => SqL.of (r8 _ _ hf)).is (by rw [vL_len])) (by omega)).p (by rw [vL_len, List.length_map, List.length_range]; exact small_line (by omega))) (fun se H8 ns r8 hse => ?_) nd
  · refine g_b (K := KV Ex _) call_len_seq T.b_len PySem.boot_len (a_p (n_plines T (v_name 2 rfl) (hq.ex e7) hr1).p (a_nil (PA := fun ws _ => ws = []))) fun vs H8 r8 k8 Q k => ?_
    obtain ⟨_, _, rfl, ⟨u, rfl, hu⟩, rfl⟩ := k8.now
    exact ⟨u, _, rfl, .inl (SqL.of hu), by rw [vL_len]; exact k H8 (Ex.rf H8)⟩
  rw [vL_from, vL_second _ _ _ (s2.length + (s1.length + t.length)) (by omega)] at hse
  have e8 : Ex H H8 := e7.tr r8
  -- Piece.__init__
  refine q_exprX (re_clsfn (R := Ex) (x_glob T.g_Piece rfl) T.cr_Piece T.cv_Piece (ok_pinit T) (hr.mono (by decide)) (a_p ((v_name 0 rfl).p (P := fun v _ => v = .ref x) (kp_true rfl)) (a_p (p_tup (a_v (v_name 3 rfl) (a_1 (v_ptop T (v_name 1 rfl) (hp.ex e8) hr1))) (fun vs _ e => by rw [e]; show 2 ≤ sizeLine; decide))
    (a_p (EvN.p (xs := vL (s2.length + (s1.length + t.length)) (lay (s2.length + (s1.length + t.length)) (sh s2.length (runF (W s1 t) id)) (W s2 t))) (g_call (ok_laid T) T.g_laid (hr.mono (by decide)) (a_v (v_name 5 rfl) (a_1 (v_name 6 rfl))) fun vs H9 r9 k9 Q k => ?_))
    (a_p (n_lst (a_v (v_name 1 rfl) (a_1 (v_name 2 rfl))) (by show 2 ≤ sizeLine; decide)).p (a_nil (PA := fun ws _ => ws = [])))))) fun vs H9 r9 k9 => ?_)
  · obtain rfl := k9.now
    exact ⟨fi, se, _, _, _, _, W s2 t, rfl, r9 _ _ (r8 _ _ hf), r9 _ _ hse, (over_first s1 s2 t).symm, (over_second s1 s2 t).symm, fun p' hp' => by have := W_in s2 t p' hp'; omega, by omega, k⟩
  · obtain ⟨_, _, rfl, rfl, _, _, rfl, ⟨rw', _, rfl, hrw, rfl⟩, _, _, rfl, ⟨tu, rfl, htu⟩, _, _, rfl, ⟨mo, rfl, hmo⟩, rfl⟩ := k9.now
    have e9 : Ex H H9 := e8.tr r9
    refine ⟨"Over", x, dx, rw', tu, mo, s1 ++ s2, t, _, _, _, rfl, .inr (.inr (.inl rfl)), e9 _ _ hx, hrw, htu, hmo, fun v hv => ?_, by show 2 ≤ 10; decide, by rw [List.length_append]; omega, fun i _ => over_lay s1 s2 t i, h1.1.app h2.1 hl, h1.2, fun H' k1 k2 => RB.nil (kq H' (Kx.exx e9 k1) (k2.back e9))⟩
    rcases List.mem_cons.mp hv with e | hv
    · exact ⟨p, s1, t, e, hp.ex e9⟩
    · exact ⟨q, s2, t, List.mem_singleton.mp hv, hq.ex e9⟩
end
end PT
namespace PT
open PySem PySem.Spec PyProof.Rows L2
abbrev RetP (K : PySem.W.Frag) (s t : List Nat) (H : Hp) (Q : VK) : Prop := ∀ p H', Ex H H' → PcF K H p s t H' → Q (.ref p) H'
abbrev IsP (K : PySem.W.Frag) (s t : List Nat) (v : V) (H : Hp) : Prop := ∃ p, v = .ref p ∧ PcK K p s t H
abbrev IsPf (K : PySem.W.Frag) (H0 : Hp) (s t : List Nat) (v : V) (H : Hp) : Prop := ∃ p, v = .ref p ∧ PcF K H0 p s t H
section
variable {X : Cx} {σ : L2.St} {H : Hp} {e : Expr} {es : List Expr} {pos p' : Pos}
/-- a new piece made -/
theorem p_new {c n : Str} {k : Nat} {ps : List Str} {Pre : List V → List Nat → List Nat → Hp → Prop} {PB : List V → Hp → Prop} {s t : List Nat} (M : Mk X.K (He.ga X.K c) (He.fAd X.K (c, some "__init__"))) (O : Ok X.prog X.w X.K X.mg X.base k (He.fAd X.K (c, some "__init__")) ps (spNew c X.K Pre)) (hm : X.mg n = some (.ref (He.ga X.K c)))
    (hr : Room (k + 1) X.A) (ha : EvA X Ex (e :: es) σ H PB) (hp : ∀ vs H1, Ex H H1 → PB vs H1 → vs.length = 2 ∧ Pre vs s t H1) (hg : Gl X n := by rfl)
    (hdb : (n == ("__debug__" : Str)) = false := by decide) (he : starEach (e :: es) X.env = (false, eval e X.env) :: starEach es X.env := by rfl) (hpl : (backTo pos (starEach es X.env)).any (·.1) = false := by rfl) :
    EvP X Ex (.Call (.Name n p') (e :: es) [] pos) σ H (IsPf X.K H s t) := g_make M O hm hr ha (fun vs H1 r1 k1 x dx nx nd ne Q q => by
  have e1 := made_ex (C := He.ga X.K c) nx nd
  obtain ⟨h1, h2⟩ := hp vs _ (r1.tr e1) (k1 _ e1)
  exact ⟨x, dx, vs, s, t, rfl, h1, upd_same, h2, fun H' k1 k2 => ⟨rfl, q (.ref x) H' (made_kx nx nd k1) fun H3 r3 => ⟨x, rfl, (k2.back (r1.tr e1)).ex r3⟩⟩⟩) hg hdb he hpl
end
theorem fdiv2 (n : Nat) : ((n : Int)).fdiv 2 = ((n / 2 : Nat) : Int) := by
  rw [Int.fdiv_eq_ediv_of_nonneg _ (by decide)]
  rfl
/-- a cut row -/
theorem v_take {X : Cx} {R : Hp → Hp → Prop} [Rl R] {σ : L2.St} {H : Hp} {a b : Expr} {s : List Nat} {k : Nat} {pos p2 : Pos} (ha : EvV X R a σ H (.str (mkS s))) (hb : EvV X R b σ H (.int (k : Int))) (hs : s.length ≤ 48) : EvV X R (.Subscript a (.Slice none (some b) none p2) pos) σ H (.str (mkS (s.take k))) :=
  (v_slS ha o_none (o_some hb) (by rw [mkS_len]; exact small_line (by omega))).is (congrArg V.str (mkS_take s k))
theorem v_drop {X : Cx} {R : Hp → Hp → Prop} [Rl R] {σ : L2.St} {H : Hp} {a b : Expr} {s : List Nat} {k : Nat} {pos p2 : Pos} (ha : EvV X R a σ H (.str (mkS s))) (hb : EvV X R b σ H (.int (k : Int))) (hs : s.length ≤ 48) : EvV X R (.Subscript a (.Slice (some b) none none p2) pos) σ H (.str (mkS (s.drop k))) :=
  (v_slS ha (o_some hb) o_none (by rw [mkS_len]; exact small_line (by omega))).is (congrArg V.str (mkS_drop s k))
theorem v_lenM {X : Cx} {R : Hp → Hp → Prop} [Rl R] {σ : L2.St} {H : Hp} {a : Expr} {s : List Nat} {n : Str} {pos p : Pos} (hn : n = "len") (hm : X.mg "len" = none) (ha : EvV X R a σ H (.str (mkS s))) (hs : s.length ≤ 48) (hg : Gl X "len" := by rfl) (he : starEach [a] X.env = (false, eval a X.env) :: starEach [] X.env := by rfl) (hpl : (backTo pos (starEach [] X.env)).any (·.1) = false := by rfl) :
    EvV X R (.Call (.Name n p) [a] [] pos) σ H (.int (s.length : Int)) := (v_lenS hn hm ha (by rw [mkS_len]; exact small_line (by omega)) hg he hpl).is (by rw [mkS_len])
def spStrip (K : PySem.W.Frag) : Sp := fun vs H Q _ => ∃ a t, vs = [sgn a, .str (mkS t)] ∧ isSg a = true ∧ rowOk t ∧ RetP K [a] t H Q
def spHalf (n : Nat) (K : PySem.W.Frag) : Sp := fun vs H Q _ => ∃ s t, vs = [.str (mkS s), .str (mkS t)] ∧ rowOk s ∧ rowOk t ∧ s.length + t.length ≤ n ∧ RetP K s t H Q
def spBal (K : PySem.W.Frag) : Sp := fun vs H Q _ => ∃ s t, vs = [.str (mkS s), .str (mkS t)] ∧ rowOk s ∧ rowOk t ∧ RetP K s t H Q
theorem sc_strip : FnScope ["letter", "row", "found", "sign"] ["letter", "row"] (defScope (top 56)) := ⟨rfl, rfl, rfl, by decide +kernel, rfl, by decide +kernel, by decide +kernel⟩
theorem sc_half : FnScope ["side", "top", "half"] ["side", "top"] (defScope (top 57)) := ⟨rfl, rfl, rfl, by decide +kernel, rfl, by decide +kernel, by decide +kernel⟩
theorem sc_balanced : FnScope ["side", "top"] ["side", "top"] (defScope (top 58)) := ⟨rfl, rfl, rfl, by decide +kernel, rfl, by decide +kernel, by decide +kernel⟩
section
variable {P : Program} {w : World} {K : PySem.W.Frag} {mg : Str → Option Value} {base : Heap} (T : Txt K mg)
include T
theorem ok_beside : Ok P w K mg base 8 (He.fAd K ("Beside", some "__init__")) ["self", "left", "right"] (spNew "Beside" K (preBeside K)) := by
  refine ok_of T.d_Beside___init__ sc_beside (fun _ _ _ _ _ _ us hl => match us, hl with | [_, _, _], _ => rfl) (fun vs H Q E h => by obtain ⟨_, _, _, _, _, rfl, h2, _⟩ := h; rw [List.length_cons, h2]; rfl) (fun cdv A outer s0 H vs Q E hr h => ?_)
  obtain ⟨x, dx, ws, s, t, rfl, _, hx, ⟨p, q, t1, t2, rfl, rfl, hp, hq, hl⟩, kq⟩ := h
  have nd := sc_beside.nd
  have h1 := rows_of hp
  have h2 := rows_of hq
  have hr1 : Room 1 _ := hr.mono (by decide)
  obtain ⟨tk, htk⟩ := T.c_MOST_SIGNS
  have sl := h1.1.1
  refine q_expr (R := Ex) (g_call (K := KV Ex .non) (ok_need_piece T) T.g_need_piece hr1 (a_1 (v_name 1 rfl)) fun vs H1 r1 k1 Q k => ?_) fun H1 r1 => q_expr (R := Ex) (g_call (K := KV Ex .non) (ok_need_piece T) T.g_need_piece hr1 (a_1 (v_name 2 rfl)) fun vs H2 r2 k2 Q k => ?_) fun H2 r2 => ?_
  · obtain rfl := k1.now
    exact ⟨p, s, t1, rfl, hp.ex r1, k⟩
  · obtain rfl := k2.now
    exact ⟨q, s, t2, rfl, hq.ex (r1.tr r2), k⟩
  have e2 : Ex H H2 := r1.tr r2
  refine q_no (R := Ex) ((t_ne (v_pside T (v_name 1 rfl) (hp.ex e2) hr1) (v_pside T (v_name 2 rfl) (hq.ex e2) hr1)).is (by simp)) fun H3 r3 => ?_
  have e3 : Ex H H3 := e2.tr r3
  refine q_set (R := Ex) 3 (v_cat (v_ptop T (v_name 1 rfl) (hp.ex e3) hr1) (v_ptop T (v_name 2 rfl) (hq.ex e3) hr1) (by rw [mkS_len, mkS_len]; exact small_line (by omega))) (fun H4 r4 => ?_) nd
  rw [mkS_app]
  have e4 : Ex H H4 := e3.tr r4
  refine q_no (R := Ex) ((t_gt (v_lenS rfl T.b_len (v_name 3 rfl) (by rw [mkS_len, List.length_append]; exact small_line (by omega))) (v_glob (v := .int 48) htk ⟨tk, rfl⟩)).is (by rw [mkS_len, List.length_append]; exact decide_eq_false (by omega))) fun H5 r5 => ?_
  have e5 : Ex H H5 := e4.tr r5
  refine q_set (R := Ex) 4 (v_lenS rfl T.b_len (v_ptop T (v_name 1 rfl) (hp.ex e5) hr1) (by rw [mkS_len]; exact small_line (by omega))) (fun H6 r6 => ?_) nd
  rw [mkS_len]
  have e6 : Ex H H6 := e5.tr r6
  -- second
  refine q_set (R := Ex) 5 (n_cat (n_lrg rfl rfl T.b_list T.b_range (v_name 4 rfl) (by omega)).p (n_lc (ys := vL (s.length + t2.length) (fun i => t1.length + LN s t2 i)) 7 (i_list ((n_plines T (v_name 2 rfl) (hq.ex e6) hr1).p.imp fun v H7 r7 k => k.imp fun H8 _ ⟨u, e, hu⟩ => ⟨u, e, SqL.of hu⟩)) (by rw [vL_len, vL_len]) (by rw [vL_len]; omega) (by show 7 < 8; decide)
    (fun s0 H0 C cl fp i y z H7 r7 hy hz => ?_) nd (blkOk_by (N := ["self", "left", "right", "top", "shift", "second", "first", "goal"]) (sc := defScope (inClass (top 55) 0)) (by decide +kernel))).p (by rw [intsV_eq, vL_len, vL_len]; exact small_line (by omega))) (fun se H7 nf r7 hse => ?_) nd
  · have hi : i < s.length + t2.length := by
      have := (List.getElem?_eq_some_iff.mp hy).1
      rw [vL_len] at this
      exact this
    rw [vL_get hi] at hy hz
    obtain rfl := Option.some.inj hy
    obtain rfl := Option.some.inj hz
    exact (v_add (v_name 4 rfl) (v_name 7 rfl)).is (by rw [Int.natCast_add])
  rw [intsV_eq, vL_first] at hse
  have e7 : Ex H H7 := e6.tr r7
  -- first
  refine q_set (R := Ex) 6 (n_cat (n_plines T (v_name 1 rfl) (hp.ex e7) hr1).p (n_lrg2 (i := s.length + t1.length) (j := t1.length + (s.length + t2.length)) rfl rfl T.b_list T.b_range ?_ ((v_len rfl T.b_len (v_name 5 rfl) fun H8 r8 => SqL.of (r8 _ _ hse)).is (by rw [vL_len])) (by omega)).p (by rw [vL_len, List.length_map, List.length_range]; exact small_line (by omega))) (fun fi H8 ns r8 hf => ?_) nd
  · refine g_b (K := KV Ex _) call_len_seq T.b_len PySem.boot_len (a_p (n_plines T (v_name 1 rfl) (hp.ex e7) hr1).p (a_nil (PA := fun ws _ => ws = []))) fun vs H8 r8 k8 Q k => ?_
    obtain ⟨_, _, rfl, ⟨u, rfl, hu⟩, rfl⟩ := k8.now
    exact ⟨u, _, rfl, .inl (SqL.of hu), by rw [vL_len]; exact k H8 (Ex.rf H8)⟩
  rw [vL_from, vL_second _ _ _ (t1.length + (s.length + t2.length)) (by omega)] at hf
  have e8 : Ex H H8 := e7.tr r8
  refine q_exprX (re_clsfn (R := Ex) (x_glob T.g_Piece rfl) T.cr_Piece T.cv_Piece (ok_pinit T) (hr.mono (by decide)) (a_p ((v_name 0 rfl).p (P := fun v _ => v = .ref x) (kp_true rfl)) (a_p (p_tup (a_v (v_pside T (v_name 1 rfl) (hp.ex e8) hr1) (a_1 (v_name 3 rfl))) (fun vs _ e => by rw [e]; show 2 ≤ sizeLine; decide))
    (a_p (EvN.p (xs := vL (t1.length + (s.length + t2.length)) (lay (t1.length + (s.length + t2.length)) (runF (W s t1) id) ((W s t2).map (· + t1.length)))) (g_call (ok_laid T) T.g_laid (hr.mono (by decide)) (a_v (v_name 6 rfl) (a_1 (v_name 5 rfl))) fun vs H9 r9 k9 Q k => ?_))
    (a_p (n_lst (a_v (v_name 1 rfl) (a_1 (v_name 2 rfl))) (by show 2 ≤ sizeLine; decide)).p (a_nil (PA := fun ws _ => ws = [])))))) fun vs H9 r9 k9 => ?_)
  · obtain rfl := k9.now
    refine ⟨fi, se, _, _, _, _, _, rfl, r9 _ _ hf, r9 _ _ (r8 _ _ hse), (beside_first s t1 t2).symm, (beside_second s t1 t2).symm, fun p' hp' => ?_, by omega, k⟩
    obtain ⟨p0, hp0, rfl⟩ := List.mem_map.mp hp'
    have := W_in s t2 p0 hp0
    show p0 + t1.length + 1 < _
    omega
  · obtain ⟨_, _, rfl, rfl, _, _, rfl, ⟨rw', _, rfl, hrw, rfl⟩, _, _, rfl, ⟨tu, rfl, htu⟩, _, _, rfl, ⟨mo, rfl, hmo⟩, rfl⟩ := k9.now
    have e9 : Ex H H9 := e8.tr r9
    refine ⟨"Beside", x, dx, rw', tu, mo, s, t1 ++ t2, _, _, _, rfl, .inr (.inr (.inr rfl)), e9 _ _ hx, hrw, htu, hmo, fun v hv => ?_, by show 2 ≤ 10; decide, by rw [List.length_append]; omega, fun i _ => beside_lay s t1 t2 i, h1.1, h1.2.app h2.2 hl, fun H' k1 k2 => RB.nil (kq H' (Kx.exx e9 k1) (k2.back e9))⟩
    rcases List.mem_cons.mp hv with e | hv
    · exact ⟨p, s, t1, e, hp.ex e9⟩
    · exact ⟨q, s, t2, List.mem_singleton.mp hv, hq.ex e9⟩
theorem ok_strip : Ok P w K mg base 10 (He.fAd K ("strip", none)) ["letter", "row"] (spStrip K) := by
  refine ok_of T.d_strip sc_strip (fun _ _ _ _ _ _ us hl => match us, hl with | [_, _], _ => rfl) (fun vs H Q E h => by obtain ⟨_, _, rfl, _⟩ := h; rfl) (fun cdv A outer s0 H vs Q E hr h => ?_)
  obtain ⟨a, t, rfl, ha, ht, kq⟩ := h
  have nd := sc_strip.nd
  have tl := ht.1
  refine q_expr (R := Ex) (g_call (K := KV Ex .non) (ok_need_sign T) T.g_need_sign_pieces (hr.mono (by decide)) (a_1 (v_name 0 rfl)) fun vs H1 r1 k1 Q q => ?_) fun H1 r1 => q_expr (R := Ex) (g_call (K := KV Ex .non) (ok_need_row T) T.g_need_row (hr.mono (by decide)) (a_1 (v_name 1 rfl)) fun vs H2 r2 k2 Q q => ?_) fun H2 r2 => ?_
  · obtain rfl := k1.now
    exact ⟨a, rfl, ha, q⟩
  · obtain rfl := k2.now
    exact ⟨t, rfl, ht, q⟩
  refine q_if (R := Ex) ((t_eq (v_name 1 rfl) v_str).is (str_nil t)) (fun h0 H3 r3 => ?_) (fun h0 H3 r3 => ?_)
  · have h0 := of_decide_eq_true h0
    subst h0
    refine q_ret (R := Ex) (p_new (c := "Blank") (s := [a]) (t := []) T.mk_Blank (ok_blank T) T.g_Blank (hr.mono (by decide)) (a_v (v_name 0 rfl) (a_1 (v_name 1 rfl))) fun vs H4 r4 k4 => ?_) fun v H4 r4 k4 => ?_
    · obtain rfl := k4
      exact ⟨rfl, rfl, rowOk.one ha, ht, .inr rfl⟩
    · obtain ⟨p, rfl, hp⟩ := k4.now
      exact kq p H4 (r1.tr (r2.tr (r3.tr r4))) (hp.back (r1.tr (r2.tr r3)))
  · have h0 := of_decide_eq_false h0
    obtain ⟨b, t', rfl⟩ : ∃ b t', t = b :: t' := by
      cases t with
      | nil => exact absurd rfl h0
      | cons b t' => exact ⟨b, t', rfl⟩
    refine RB.nil (q_set (R := Ex) 2 (p_new (c := "One") (s := [a]) (t := [b]) T.mk_One (ok_one T) T.g_One (hr.mono (by decide)) (a_v (v_name 0 rfl) (a_1 (v_ixS (k := b) (v_name 1 rfl) v_int (by rw [mkS_len]; exact small_line (by omega)) (mkS_at (i := 0) rfl)))) fun vs H4 r4 k4 => ?_) (fun v H4 r4 k4 => ?_) nd)
    · obtain rfl := k4
      exact ⟨rfl, a, b, rfl, rfl, rfl, ha, ht.2 b (by simp)⟩
    obtain ⟨p, rfl, hp⟩ := k4.now
    have e4 : Ex H H4 := r1.tr (r2.tr (r3.tr r4))
    refine q_forI (R := Ex) (xs := signs (mkS t')) 3 (fun G i σ' H' => ∃ p v, σ' = [some (sgn a), some (.str (mkS (b :: t'))), some (.ref p), v] ∧ Kp Ex H' G ∧ Ex H H' ∧ PcF K H p [a] (b :: t'.take i) H') (i_str ((v_slS (v_name 1 rfl) (o_some v_int) o_none (by rw [mkS_len]; exact small_line (by omega))).is (congrArg V.str (mkS_drop (b :: t') 1))))
      (fun G H5 r5 kg => ⟨p, none, rfl, kg, e4.tr r5, by rw [List.take_zero]; exact (hp.back (r1.tr (r2.tr r3))).ex r5⟩) (fun G i σ' H' _ ⟨_, _, _, kg, _⟩ => kg.now) ?_ ?_ nd
    · rintro G i x σ' H' hi ⟨p, v, rfl, kg, e5, hp⟩
      obtain ⟨c, hc, rfl⟩ : ∃ c, t'[i]? = some c ∧ sgn c = x := by
        have : (t'.map sgn)[i]? = some x := hi
        rw [List.getElem?_map] at this
        cases h : t'[i]? with
        | none => rw [h] at this; cases this
        | some c => rw [h] at this; exact ⟨c, rfl, Option.some.inj this⟩
      have il := (List.getElem?_eq_some_iff.mp hc).1
      have tl' : t'.length + 1 ≤ 48 := tl
      have hs1 : isSg c = true := ht.2 c (List.mem_cons_of_mem _ (List.mem_of_getElem? hc))
      have e : (b :: t'.take (i + 1)) = (b :: t'.take i) ++ [c] := by rw [List.take_succ, hc]; rfl
      refine q_set (R := Ex) 2 (p_new (c := "Beside") (s := [a]) (t := b :: t'.take (i + 1)) T.mk_Beside (ok_beside T) T.g_Beside (hr.mono (by decide)) (a_p ((v_name 2 rfl).p (P := fun v _ => v = .ref p) (kp_true rfl)) (a_p (p_new (c := "One") (s := [a]) (t := [c]) T.mk_One (ok_one T) T.g_One (hr.mono (by decide)) (a_v (v_name 0 rfl) (a_1 (v_name 3 rfl))) fun vs H6 r6 k6 => ?_) (a_nil (PA := fun ws _ => ws = [])))) fun vs H6 r6 k6 => ?_) (fun v H6 r6 k6 => ?_) nd
      · obtain rfl := k6
        exact ⟨rfl, a, c, rfl, rfl, rfl, ha, hs1⟩
      · obtain ⟨_, _, rfl, rfl, _, _, rfl, ⟨q, rfl, hq⟩, rfl⟩ := k6
        exact ⟨rfl, p, q, _, [c], e, rfl, hp.k.ex r6, hq.k, by simp only [List.length_cons, List.length_take, List.length_nil]; omega⟩
      · obtain ⟨p', rfl, hp'⟩ := k6.now
        exact RB.nil ⟨p', _, rfl, kg.on r6, e5.tr r6, hp'.back e5⟩
    · rintro G σ' H' ⟨p, v, rfl, kg, e5, hp⟩
      refine q_ret (R := Ex) (v_name 2 rfl) fun H6 r6 => kq p H6 (e5.tr r6) ?_
      have hl : (signs (mkS t')).length = t'.length := List.length_map _
      rw [hl, List.take_length] at hp
      exact hp.ex r6
theorem ok_half_of (n : Nat) (ih : ∀ k, k + 1 = n → Ok P w K mg base (k + 10) (He.fAd K ("half_made", none)) ["side", "top"] (spHalf k K)) : Ok P w K mg base (n + 10) (He.fAd K ("half_made", none)) ["side", "top"] (spHalf n K) := by
  refine ok_of (sp := spHalf n K) T.d_half_made sc_half (fun _ _ _ _ _ _ us hl => match us, hl with | [_, _], _ => rfl) (fun vs H Q E h => by obtain ⟨_, _, rfl, _⟩ := h; rfl) (fun cdv A outer s0 H vs Q E hr h => ?_)
  obtain ⟨s, t, rfl, hs, ht, hn, kq⟩ := h
  have nd := sc_half.nd
  have sl := hs.1
  have tl := ht.1
  refine q_if (R := Ex) (t_w (w_or (t_eq (v_name 0 rfl) v_str) fun _ => w_or1 (t_eq (v_name 1 rfl) v_str))) (fun h0 H1 r1 => ?_) (fun h0 H1 r1 => ?_)
  · rw [str_nil, str_nil, Bool.or_eq_true, decide_eq_true_eq, decide_eq_true_eq] at h0
    refine q_ret (R := Ex) (p_new (c := "Blank") (s := s) (t := t) T.mk_Blank (ok_blank T) T.g_Blank (hr.mono (by omega)) (a_v (v_name 0 rfl) (a_1 (v_name 1 rfl))) fun vs H4 r4 k4 => ?_) fun v H4 r4 k4 => ?_
    · obtain rfl := k4
      exact ⟨rfl, rfl, hs, ht, h0⟩
    · obtain ⟨p, rfl, hp⟩ := k4.now
      exact kq p H4 (r1.tr r4) (hp.back r1)
  rw [str_nil, str_nil, Bool.or_eq_false_iff, decide_eq_false_iff_not, decide_eq_false_iff_not] at h0
  have s0' : 0 < s.length := List.length_pos_iff.mpr h0.1
  have t0' : 0 < t.length := List.length_pos_iff.mpr h0.2
  obtain ⟨k, hk⟩ : ∃ k, k + 1 = n := ⟨n - 1, by omega⟩
  have O := ih k hk
  have hrk : Room (k + 10) _ := hr.mono (by omega)
  refine RB.nil (q_set (R := Ex) 2 ((v_fdiv (v_lenM rfl T.b_len (v_name 0 rfl) sl) v_int (by decide)).is (by rw [fdiv2])) (fun H2 r2 => ?_) nd)
  have e2 : Ex H H2 := r1.tr r2
  refine q_if (R := Ex) (t_gt (v_name 2 rfl) v_int) (fun h1 H3 r3 => ?_) (fun h1 H3 r3 => ?_)
  · have h1 := of_decide_eq_true h1
    have e : s = s.take (s.length / 2) ++ s.drop (s.length / 2) := (List.take_append_drop _ _).symm
    have hl1 : (s.take (s.length / 2)).length = s.length / 2 := by rw [List.length_take]; omega
    have hl2 : (s.drop (s.length / 2)).length = s.length - s.length / 2 := List.length_drop
    refine q_ret (R := Ex) (p_new (c := "Over") (s := s) (t := t) T.mk_Over (ok_over T) T.g_Over (hr.mono (by omega))
      (a_p (g_call (K := KP Ex (IsP K (s.take (s.length / 2)) t)) O T.g_half_made hrk (a_v (v_take (v_name 0 rfl) (v_name 2 rfl) sl) (a_1 (v_name 1 rfl))) fun vs H4 r4 k4 Q q => ?_) (a_p (g_call (K := KP Ex (IsP K (s.drop (s.length / 2)) t)) O T.g_half_made hrk (a_v (v_drop (v_name 0 rfl) (v_name 2 rfl) sl) (a_1 (v_name 1 rfl))) fun vs H4 r4 k4 Q q => ?_) (a_nil (PA := fun ws _ => ws = [])))) fun vs H4 r4 k4 => ?_) fun v H4 r4 k4 => ?_
    · obtain rfl := k4.now
      exact ⟨_, _, rfl, hs.take _, ht, by omega, fun p H5 r5 hp => q (.ref p) H5 r5 fun H6 r6 => ⟨p, rfl, hp.k.ex r6⟩⟩
    · obtain rfl := k4.now
      exact ⟨_, _, rfl, hs.drop _, ht, by omega, fun p H5 r5 hp => q (.ref p) H5 r5 fun H6 r6 => ⟨p, rfl, hp.k.ex r6⟩⟩
    · obtain ⟨_, _, rfl, ⟨p, rfl, hp⟩, _, _, rfl, ⟨q, rfl, hq⟩, rfl⟩ := k4
      exact ⟨rfl, p, q, _, _, e, rfl, hp, hq, by omega⟩
    · obtain ⟨p, rfl, hp⟩ := k4.now
      exact kq p H4 (e2.tr (r3.tr r4)) (hp.back (e2.tr r3))
  have h1 := of_decide_eq_false h1
  have s1 : s.length = 1 := by omega
  refine RB.nil (q_set (R := Ex) 2 ((v_fdiv (v_lenM rfl T.b_len (v_name 1 rfl) tl) v_int (by decide)).is (by rw [fdiv2])) (fun H4 r4 => ?_) nd)
  have e4 : Ex H H4 := e2.tr (r3.tr r4)
  refine q_if (R := Ex) (t_gt (v_name 2 rfl) v_int) (fun h2 H5 r5 => ?_) (fun h2 H5 r5 => ?_)
  · have h2 := of_decide_eq_true h2
    have e : t = t.take (t.length / 2) ++ t.drop (t.length / 2) := (List.take_append_drop _ _).symm
    have hl1 : (t.take (t.length / 2)).length = t.length / 2 := by rw [List.length_take]; omega
    have hl2 : (t.drop (t.length / 2)).length = t.length - t.length / 2 := List.length_drop
    refine q_ret (R := Ex) (p_new (c := "Beside") (s := s) (t := t) T.mk_Beside (ok_beside T) T.g_Beside (hr.mono (by omega))
      (a_p (g_call (K := KP Ex (IsP K s (t.take (t.length / 2)))) O T.g_half_made hrk (a_v (v_name 0 rfl) (a_1 (v_take (v_name 1 rfl) (v_name 2 rfl) tl))) fun vs H4 r4 k4 Q q => ?_) (a_p (g_call (K := KP Ex (IsP K s (t.drop (t.length / 2)))) O T.g_half_made hrk (a_v (v_name 0 rfl) (a_1 (v_drop (v_name 1 rfl) (v_name 2 rfl) tl))) fun vs H4 r4 k4 Q q => ?_) (a_nil (PA := fun ws _ => ws = [])))) fun vs H4 r4 k4 => ?_) fun v H6 r6 k4 => ?_
    · obtain rfl := k4.now
      exact ⟨_, _, rfl, hs, ht.take _, by omega, fun p H5 r5 hp => q (.ref p) H5 r5 fun H6 r6 => ⟨p, rfl, hp.k.ex r6⟩⟩
    · obtain rfl := k4.now
      exact ⟨_, _, rfl, hs, ht.drop _, by omega, fun p H5 r5 hp => q (.ref p) H5 r5 fun H6 r6 => ⟨p, rfl, hp.k.ex r6⟩⟩
    · obtain ⟨_, _, rfl, ⟨p, rfl, hp⟩, _, _, rfl, ⟨q, rfl, hq⟩, rfl⟩ := k4
      exact ⟨rfl, p, q, _, _, e, rfl, hp, hq, by omega⟩
    · obtain ⟨p, rfl, hp⟩ := k4.now
      exact kq p H6 (e4.tr (r5.tr r6)) (hp.back (e4.tr r5))
  have h2 := of_decide_eq_false h2
  have t1 : t.length = 1 := by omega
  obtain ⟨a, rfl⟩ := List.length_eq_one_iff.mp s1
  obtain ⟨b, rfl⟩ := List.length_eq_one_iff.mp t1
  refine RB.nil (q_ret (R := Ex) (p_new (c := "One") (s := [a]) (t := [b]) T.mk_One (ok_one T) T.g_One (hr.mono (by omega)) (a_v (v_name 0 rfl) (a_1 (v_name 1 rfl))) fun vs H6 r6 k6 => ?_) fun v H6 r6 k6 => ?_)
  · obtain rfl := k6
    exact ⟨rfl, a, b, rfl, rfl, rfl, hs.2 a (by simp), ht.2 b (by simp)⟩
  · obtain ⟨p, rfl, hp⟩ := k6.now
    exact kq p H6 (e4.tr (r5.tr r6)) (hp.back (e4.tr r5))
theorem ok_half : ∀ n, Ok P w K mg base (n + 10) (He.fAd K ("half_made", none)) ["side", "top"] (spHalf n K) := fun n => by
  induction n with
  | zero => exact ok_half_of T 0 fun k h => by omega
  | succ n ih => exact ok_half_of T (n + 1) fun k h => (Nat.succ.inj h) ▸ ih
theorem ok_balanced : Ok P w K mg base 107 (He.fAd K ("balanced", none)) ["side", "top"] (spBal K) := by
  refine ok_of T.d_balanced sc_balanced (fun _ _ _ _ _ _ us hl => match us, hl with | [_, _], _ => rfl) (fun vs H Q E h => by obtain ⟨_, _, rfl, _⟩ := h; rfl) (fun cdv A outer s0 H vs Q E hr h => ?_)
  obtain ⟨s, t, rfl, hs, ht, kq⟩ := h
  refine q_expr (R := Ex) (g_call (K := KV Ex .non) (ok_need_rows T) T.g_need_rows (hr.mono (by decide)) (a_v (v_name 0 rfl) (a_1 (v_name 1 rfl))) fun vs H1 r1 k1 Q q => ?_) fun H1 r1 => q_ret (R := Ex) (K := KP Ex (IsPf K H1 s t)) (g_call (ok_half T 96) T.g_half_made hr (a_v (v_name 0 rfl) (a_1 (v_name 1 rfl))) fun vs H2 r2 k2 Q q => ?_) fun v H2 r2 k2 => ?_
  · obtain rfl := k1.now
    exact ⟨s, t, rfl, hs, ht, q⟩
  · obtain rfl := k2.now
    have := hs.1
    have := ht.1
    exact ⟨s, t, rfl, hs, ht, by omega, fun p H3 r3 hp => q (.ref p) H3 r3 fun H4 r4 => ⟨p, rfl, (hp.back r2).ex r4⟩⟩
  · obtain ⟨p, rfl, hp⟩ := k2.now
    exact kq p H2 (r1.tr r2) (hp.back r1)
end
end PT
namespace PT
open PySem PySem.Spec PyProof.Rows L2
local macro_rules | `(tactic| walk_at "lk") => `(tactic| (repeat (first | rw [L2.lookup_putF, if_pos rfl] | rw [L2.lookup_putF, if_neg (by decide +kernel)])) <;> first | rfl | assumption | done)
theorem putF_old {f : Str} {v w : V} : ∀ {fs : List (Str × V)}, fs.lookup f = some w → (putF f v fs).length = fs.length
  | [], h => by cases h
  | (g, x) :: r, h => by
    show (if g = f then (g, v) :: r else (g, x) :: putF f v r).length = _
    by_cases e : g = f
    · rw [if_pos e]; rfl
    · rw [if_neg e, List.length_cons, List.length_cons]
      refine congrArg (· + 1) (putF_old (w := w) ?_)
      rw [List.lookup_cons] at h
      have : (f == g) = false := by simpa using fun z => e z.symm
      rw [this] at h
      exact h
/-! ### what a grower may change: dicts and growers -/
def MG (K : PySem.W.Frag) (o : HO) : Prop := (∃ kvs, o = .dK kvs) ∨ ∃ dx fs, o = .ins (He.ga K "Grower") dx fs
structure ExM (K : PySem.W.Frag) (H H' : Hp) : Prop where
  kp : ∀ a o, H a = some o → ¬ MG K o → H' a = some o
  bk : ∀ a, H' a = none → H a = none
theorem ExM.of {K : PySem.W.Frag} {H H' : Hp} (e : Ex H H') : ExM K H H' := ⟨fun a o h _ => e a o h, fun a h => none_back e h⟩
theorem ExM.tr {K : PySem.W.Frag} {H H1 H2 : Hp} (a : ExM K H H1) (b : ExM K H1 H2) : ExM K H H2 := ⟨fun x o h n => b.kp x o (a.kp x o h n) n, fun x h => a.bk x (b.bk x h)⟩
/-- one of those written -/
theorem ExM.set {K : PySem.W.Frag} {H H' : Hp} {x : Addr} {o o' : HO} (e : ExM K H H') (h : H' x = some o) (hm : MG K o) : ExM K H (upd H' x o') := ⟨fun a u ha hn => by
  by_cases q : a = x
  · subst q
    have := e.kp _ _ ha hn
    rw [h] at this
    exact absurd (Option.some.inj this ▸ hm) hn
  · rw [upd_ne q]
    exact e.kp a u ha hn, fun a ha => by
  by_cases q : a = x
  · subst q; rw [upd_same] at ha; cases ha
  · rw [upd_ne q] at ha; exact e.bk a ha⟩
theorem MG.nl {K : PySem.W.Frag} (xs : List V) : ¬ MG K (.lst xs) := by rintro (⟨_, h⟩ | ⟨_, _, h⟩) <;> cases h
theorem MG.nt {K : PySem.W.Frag} (xs : List V) : ¬ MG K (.tup xs) := by rintro (⟨_, h⟩ | ⟨_, _, h⟩) <;> cases h
/-! ### trees of limbs -/
inductive Tr where
  | lf (c : Nat)
  | nd (l r : Tr)
def Tr.row : Tr → List Nat
  | .lf c => [c]
  | .nd l r => l.row ++ r.row
def Tr.tall : Tr → Nat
  | .lf _ => 0
  | .nd l r => 1 + max l.tall r.tall
theorem Tr.pos : ∀ T : Tr, 0 < T.row.length
  | .lf _ => Nat.one_pos
  | .nd l r => by
    have := l.pos
    show 0 < (l.row ++ r.row).length
    rw [List.length_append]; omega
theorem Tr.tall_lt : ∀ T : Tr, T.tall < T.row.length
  | .lf _ => Nat.one_pos
  | .nd l r => by
    have h1 := l.tall_lt
    have h2 := r.tall_lt
    show 1 + max l.tall r.tall < (l.row ++ r.row).length
    rw [List.length_append]; omega
/-- a limb: number, piece, upper, lower, many, tall -/
structure LFs (K : PySem.W.Frag) (p dx : Addr) (fs : List (Str × V)) (nu : Int) (pc : Addr) (u l : V) (m h : Nat) (H : Hp) : Prop where
  at_ : H p = some (.ins (He.ga K "Limb") dx fs)
  f1 : fs.lookup ("number" : Str) = some (.int nu)
  f2 : fs.lookup ("piece" : Str) = some (.ref pc)
  f3 : fs.lookup ("upper" : Str) = some u
  f4 : fs.lookup ("lower" : Str) = some l
  f5 : fs.lookup ("many" : Str) = some (.int (m : Int))
  f6 : fs.lookup ("tall" : Str) = some (.int (h : Int))
  nm : fs.lookup ("rows_from" : Str) = none
def LF (K : PySem.W.Frag) (p : Addr) (nu : Int) (pc : Addr) (u l : V) (m h : Nat) (H : Hp) : Prop := ∃ dx fs, LFs K p dx fs nu pc u l m h H
def LimbAt (K : PySem.W.Frag) (t : List Nat) : Tr → Addr → Hp → Prop
  | .lf c, p, H => ∃ (nu : Int) (pc : Addr), LF K p nu pc .non .non 1 0 H ∧ PcK K pc [c] t H
  | .nd l r, p, H => ∃ (nu : Int) (pc a b : Addr), LF K p nu pc (.ref a) (.ref b) (l.row ++ r.row).length (1 + max l.tall r.tall) H ∧ PcK K pc (l.row ++ r.row) t H ∧ LimbAt K t l a H ∧ LimbAt K t r b H
/-- what all limbs have -/
theorem LimbAt.any {K : PySem.W.Frag} {t : List Nat} {T : Tr} {p : Addr} {H : Hp} (h : LimbAt K t T p H) : ∃ nu pc u l, LF K p nu pc u l T.row.length T.tall H ∧ PcK K pc T.row t H := by
  cases T with
  | lf c => obtain ⟨nu, pc, h1, h2⟩ := h; exact ⟨nu, pc, _, _, h1, h2⟩
  | nd l r => obtain ⟨nu, pc, a, b, h1, h2, _⟩ := h; exact ⟨nu, pc, _, _, h1, h2⟩
section
variable {K : PySem.W.Frag} {mg : Str → Option Value} (T : Txt K mg)
include T
theorem ne_grower {c m : Str} {f : Addr} (h : Meth K (He.ga K c) m f) (n : NoAttr K (He.ga K "Grower") m) : He.ga K c ≠ He.ga K "Grower" := fun e => by
  have h1 := h.at_
  rw [e, show PySem.W.findIn K (.ref (He.ga K "Grower")) m = some none from n] at h1
  cases h1
theorem pc_ng {c : Str} (h : isPC c) : He.ga K c ≠ He.ga K "Grower" := by
  rcases h with rfl | rfl | rfl | rfl
  · exact ne_grower T T.m_Blank_kind T.n_Grower_kind
  · exact ne_grower T T.m_One_kind T.n_Grower_kind
  · exact ne_grower T T.m_Over_kind T.n_Grower_kind
  · exact ne_grower T T.m_Beside_kind T.n_Grower_kind
theorem limb_ng : He.ga K "Limb" ≠ He.ga K "Grower" := ne_grower T T.m_Limb_rows_from T.n_Grower_rows_from
theorem MG.ni {C dx : Addr} {fs : List (Str × V)} (h : C ≠ He.ga K "Grower") : ¬ MG K (.ins C dx fs) := by
  rintro (⟨_, e⟩ | ⟨_, _, e⟩)
  · cases e
  · exact h (HO.ins.inj e).1
theorem PcK.exm {p : Addr} {s t : List Nat} {H H' : Hp} (a : PcK K p s t H) (e : ExM K H H') : PcK K p s t H' := by
  obtain ⟨c, dx, kn, lv, fs, a⟩ := a
  exact ⟨c, dx, kn, lv, fs, a.keep (by rw [e.kp _ _ a.at_ (MG.ni T (pc_ng T a.pc)), a.at_]) (by rw [e.kp _ _ a.kn_ (MG.nl _), a.kn_])⟩
theorem LF.exm {p pc : Addr} {nu : Int} {u l : V} {m h : Nat} {H H' : Hp} (a : LF K p nu pc u l m h H) (e : ExM K H H') : LF K p nu pc u l m h H' := by
  obtain ⟨dx, fs, a⟩ := a
  exact ⟨dx, fs, e.kp _ _ a.at_ (MG.ni T (limb_ng T)), a.f1, a.f2, a.f3, a.f4, a.f5, a.f6, a.nm⟩
theorem LimbAt.exm {t : List Nat} {H H' : Hp} (e : ExM K H H') : ∀ {R : Tr} {p : Addr}, LimbAt K t R p H → LimbAt K t R p H'
  | .lf c, p, ⟨nu, pc, h1, h2⟩ => ⟨nu, pc, h1.exm T e, h2.exm T e⟩
  | .nd l r, p, ⟨nu, pc, a, b, h1, h2, h3, h4⟩ => ⟨nu, pc, a, b, h1.exm T e, h2.exm T e, LimbAt.exm e h3, LimbAt.exm e h4⟩
end
/-! ### growers -/
/-- a grower against t -/
structure GrFs (K : PySem.W.Frag) (g : Addr) (t : List Nat) (n : Int) (dx sd : Addr) (fs : List (Str × V)) (kvs : List (Key × V)) (H : Hp) : Prop where
  at_ : H g = some (.ins (He.ga K "Grower") dx fs)
  f1 : fs.lookup ("against" : Str) = some (.str (mkS t))
  f2 : fs.lookup ("given" : Str) = some (.int n)
  f3 : fs.lookup ("strips" : Str) = some (.ref sd)
  nm : ∀ f : Str, f ≠ "against" → f ≠ "given" → f ≠ "strips" → fs.lookup f = none
  fl : fs.length ≤ 3
  ds : H sd = some (.dK kvs)
  ks : ∃ cs : List Nat, kvs.map (·.1) = cs.map (fun c => (.inr (mkS [c]) : Key)) ∧ cs.Nodup ∧ ∀ c ∈ cs, c < 123
  di : ∀ c v, valV kvs (.inr (mkS [c])) = some v → ∃ p, v = .ref p ∧ PcK K p [c] t H
  rk : rowOk t
def GrAt (K : PySem.W.Frag) (g : Addr) (t : List Nat) (H : Hp) : Prop := ∃ n dx sd fs kvs, GrFs K g t n dx sd fs kvs H
structure ExG (K : PySem.W.Frag) (g : Addr) (t : List Nat) (H H' : Hp) : Prop where
  m : ExM K H H'
  g : GrAt K g t H → GrAt K g t H'
section
variable {K : PySem.W.Frag} {g : Addr} {t : List Nat} {H H' H1 H2 : Hp}
theorem GrFs.ex {n : Int} {dx sd : Addr} {fs : List (Str × V)} {kvs : List (Key × V)} (a : GrFs K g t n dx sd fs kvs H) (e : Ex H H') : GrFs K g t n dx sd fs kvs H' :=
  ⟨e _ _ a.at_, a.f1, a.f2, a.f3, a.nm, a.fl, e _ _ a.ds, a.ks, fun c v h => by obtain ⟨p, h1, h2⟩ := a.di c v h; exact ⟨p, h1, h2.ex e⟩, a.rk⟩
theorem GrAt.ex (a : GrAt K g t H) (e : Ex H H') : GrAt K g t H' := by
  obtain ⟨n, dx, sd, fs, kvs, a⟩ := a
  exact ⟨n, dx, sd, fs, kvs, a.ex e⟩
theorem ExG.of (e : Ex H H') : ExG K g t H H' := ⟨.of e, fun a => a.ex e⟩
theorem ExG.tr (a : ExG K g t H H1) (b : ExG K g t H1 H2) : ExG K g t H H2 := ⟨a.m.tr b.m, fun h => b.g (a.g h)⟩
end
instance rlG (K : PySem.W.Frag) (g : Addr) (t : List Nat) : Rl (ExG K g t) := ⟨MG K, fun H => .of (Ex.rf H), fun a b => a.tr b, fun h => .of h, fun h e n => h.m.kp _ _ e n, fun h e => h.m.bk _ e, MG.nl, MG.nt⟩
class RM (K : PySem.W.Frag) (R : Hp → Hp → Prop) : Prop where
  m : ∀ {H H'}, R H H' → ExM K H H'
instance rmE (K : PySem.W.Frag) : RM K Ex := ⟨fun h => .of h⟩
instance rmG (K : PySem.W.Frag) (g : Addr) (t : List Nat) : RM K (ExG K g t) := ⟨fun h => h.m⟩
section
variable {K : PySem.W.Frag} {mg : Str → Option Value} (T : Txt K mg) {R : Hp → Hp → Prop} [RM K R] {p pc : Addr} {nu : Int} {u l : V} {m h : Nat} {H : Hp}
include T
theorem LF.k (a : LF K p nu pc u l m h H) : Kp R H (LF K p nu pc u l m h) := fun _ r => a.exm T (RM.m r)
theorem LF.num (a : LF K p nu pc u l m h H) : Kp R H (Fld K p "number" (.int nu)) := fun H1 r => by
  obtain ⟨dx, fs, a⟩ := a.exm T (RM.m r)
  exact ⟨_, dx, fs, a.at_, T.k_Limb, T.n_Limb_number, a.f1⟩
theorem LF.pie (a : LF K p nu pc u l m h H) : Kp R H (Fld K p "piece" (.ref pc)) := fun H1 r => by
  obtain ⟨dx, fs, a⟩ := a.exm T (RM.m r)
  exact ⟨_, dx, fs, a.at_, T.k_Limb, T.n_Limb_piece, a.f2⟩
theorem LF.up (a : LF K p nu pc u l m h H) : Kp R H (Fld K p "upper" u) := fun H1 r => by
  obtain ⟨dx, fs, a⟩ := a.exm T (RM.m r)
  exact ⟨_, dx, fs, a.at_, T.k_Limb, T.n_Limb_upper, a.f3⟩
theorem LF.lo (a : LF K p nu pc u l m h H) : Kp R H (Fld K p "lower" l) := fun H1 r => by
  obtain ⟨dx, fs, a⟩ := a.exm T (RM.m r)
  exact ⟨_, dx, fs, a.at_, T.k_Limb, T.n_Limb_lower, a.f4⟩
theorem LF.many (a : LF K p nu pc u l m h H) : Kp R H (Fld K p "many" (.int (m : Int))) := fun H1 r => by
  obtain ⟨dx, fs, a⟩ := a.exm T (RM.m r)
  exact ⟨_, dx, fs, a.at_, T.k_Limb, T.n_Limb_many, a.f5⟩
theorem LF.tal (a : LF K p nu pc u l m h H) : Kp R H (Fld K p "tall" (.int (h : Int))) := fun H1 r => by
  obtain ⟨dx, fs, a⟩ := a.exm T (RM.m r)
  exact ⟨_, dx, fs, a.at_, T.k_Limb, T.n_Limb_tall, a.f6⟩
theorem LF.ins (a : LF K p nu pc u l m h H) : Kp R H (Ins (He.ga K "Limb") p "rows_from") := fun H1 r => by
  obtain ⟨dx, fs, a⟩ := a.exm T (RM.m r)
  exact ⟨dx, fs, a.at_, a.nm⟩
end
end PT
namespace PT
open PySem PySem.Spec PyProof.Rows L2
local macro_rules | `(tactic| walk_at "lk") => `(tactic| (repeat (first | rw [L2.lookup_putF, if_pos rfl] | rw [L2.lookup_putF, if_neg (by decide +kernel)])) <;> first | rfl | assumption | done)
/-! ### dicts -/
section
variable {X : Cx} {R : Hp → Hp → Prop} [Rl R] {σ : L2.St} {H : Hp} {a b c : Expr} {v : V} {pos : Pos} {bd els rest : List Stmt} {D : Ends} {d : Addr} {kvs : List (Key × V)} {k : Key}
theorem t_dnotin (hu : X.A.units + 1 < cLine) (ha : EvV X R a σ H (kV k)) (hb : EvV X R b σ H (.ref d)) (h : Kp R H fun H => H d = some (.dK kvs)) (hm : behindInMarks .NotIn b = false := by rfl) : EvT X R (.Compare a [.NotIn] [b] pos) σ H (!(valV kvs k).isSome) := fun H1 r1 Q q =>
  RT.of (pt_cmp (pc_dnotin hu pe_RE pe_RE) (h1 := hm)) (ha H1 r1 _ fun H2 r2 => hb H2 (Rl.trans r1 r2) _ fun H3 r3 => ⟨d, _, rfl, DGet.k (h H3 (Rl.trans (Rl.trans r1 r2) r3)), _, rfl, q H3 (Rl.trans r2 r3)⟩)
theorem v_dget (hu : X.A.units + 1 < cLine) (ha : EvV X R a σ H (.ref d)) (hb : EvV X R b σ H (kV k)) (h : Kp R H fun H => H d = some (.dK kvs)) (hv : valV kvs k = some v) (hs : NoSl b := by exact fun _ _ => rfl) : EvV X R (.Subscript a b pos) σ H v := fun H1 r1 Q q =>
  RE.of (pe_dget hu pe_RE pe_RE hs) (ha H1 r1 _ fun H2 r2 => hb H2 (Rl.trans r1 r2) _ fun H3 r3 => ⟨d, v, rfl, by
    have := DGet.k (k := k) (h H3 (Rl.trans (Rl.trans r1 r2) r3))
    rw [hv] at this
    exact this, q H3 (Rl.trans r2 r3)⟩)
theorem q_ifX (h : RT X c σ H fun k H1 => if k = true then RB X bd { D with nx := RB X rest D } σ H1 else RB X els { D with nx := RB X rest D } σ H1) : RB X (.If c bd els pos :: rest) D σ H := RB.cons (RS.of (ps_if pt_RT pss_RB pss_RB) h)
end
/-! ### a new limb -/
theorem LimbAt.kx {K : PySem.W.Frag} {t : List Nat} {x C dx : Addr} {H H' : Hp} (k : Kx x H H') (hx : H x = some (.ins C dx [])) : ∀ {R : Tr} {p : Addr}, LimbAt K t R p H → LimbAt K t R p H' := by
  have nl : ∀ xs, H x ≠ some (.lst xs) := fun xs e => by rw [hx] at e; cases e
  have one : ∀ {p nu pc u l m h}, LF K p nu pc u l m h H → LF K p nu pc u l m h H' := fun {p nu pc u l m h} ⟨d, fs, a⟩ => by
    refine ⟨d, fs, k _ _ a.at_ fun e => ?_, a.f1, a.f2, a.f3, a.f4, a.f5, a.f6, a.nm⟩
    have h1 := a.at_
    rw [e, hx] at h1
    cases h1
    have := a.f1
    cases this
  intro R
  induction R with
  | lf c => exact fun {p} ⟨nu, pc, h1, h2⟩ => ⟨nu, pc, one h1, h2.kx k (h2.ne hx) nl⟩
  | nd l r i1 i2 => exact fun {p} ⟨nu, pc, a, b, h1, h2, h3, h4⟩ => ⟨nu, pc, a, b, one h1, h2.kx k (h2.ne hx) nl, i1 h3, i2 h4⟩
/-- upper, lower: what they are for a tree -/
def Ends2 (K : PySem.W.Frag) (t : List Nat) (u l : V) (H : Hp) : Tr → Prop
  | .lf _ => u = .non ∧ l = .non
  | .nd L R => ∃ a b, u = .ref a ∧ l = .ref b ∧ LimbAt K t L a H ∧ LimbAt K t R b H
theorem Ends2.ex {K : PySem.W.Frag} {mg : Str → Option Value} (T : Txt K mg) {t : List Nat} {u l : V} {H H' : Hp} {R : Tr} (h : Ends2 K t u l H R) (e : Ex H H') : Ends2 K t u l H' R := by
  cases R with
  | lf c => exact h
  | nd L R => obtain ⟨a, b, h1, h2, h3, h4⟩ := h; exact ⟨a, b, h1, h2, h3.exm T (.of e), h4.exm T (.of e)⟩
def spLimb (K : PySem.W.Frag) : Sp := fun vs H Q _ => ∃ x dx pc u l t, ∃ nu : Int, ∃ R : Tr, vs = [.ref x, .int nu, .ref pc, u, l] ∧ H x = some (.ins (He.ga K "Limb") dx []) ∧ PcK K pc R.row t H ∧ Ends2 K t u l H R ∧ ∀ H', Kx x H H' → LimbAt K t R x H' → Q .non H'
theorem sc_limb : FnScope ["self", "number", "piece", "upper", "lower"] ["self", "number", "piece", "upper", "lower"] (defScope (inClass (top 60) 0)) := ⟨rfl, rfl, rfl, by decide +kernel, rfl, by decide +kernel, by decide +kernel⟩
section
variable {P : Program} {w : World} {K : PySem.W.Frag} {mg : Str → Option Value} {base : Heap} (T : Txt K mg)
include T
theorem ok_limb : Ok P w K mg base 2 (He.fAd K ("Limb", some "__init__")) ["self", "number", "piece", "upper", "lower"] (spLimb K) := by
  refine ok_of T.d_Limb___init__ sc_limb (fun _ _ _ _ _ _ us hl => match us, hl with | [_, _, _, _, _], _ => rfl) (fun vs H Q E h => by obtain ⟨_, _, _, _, _, _, _, _, rfl, _⟩ := h; rfl) (fun cdv A outer s0 H vs Q E hr h => ?_)
  obtain ⟨x, dx, pc, u, l, t, nu, R, rfl, hx, hp, he, kq⟩ := h
  have nl : ∀ xs, H x ≠ some (.lst xs) := fun xs e => by rw [hx] at e; cases e
  have pn := hp.ne hx
  have rl := (rows_of hp).1.1
  refine q_fld (R := Ex) (v_name 1 rfl) (fun H1 r1 => ⟨x, He.ga K "Limb", dx, [], x_name 0 rfl, r1 _ _ hx, T.k_Limb, T.n_Limb_number, by decide, ?_⟩) kV_mono
  have e1 : Kx x H (upd H1 x (.ins (He.ga K "Limb") dx (putF "number" (.int nu) []))) := (Kx.of r1).set
  refine q_fld (R := Ex) (v_name 2 rfl) (fun H2 r2 => ⟨x, He.ga K "Limb", dx, _, x_name 0 rfl, r2 _ _ upd_same, T.k_Limb, T.n_Limb_piece, Nat.lt_of_le_of_lt (length_putF _ _ _) (by decide), ?_⟩) kV_mono
  have e2 := (e1.ex r2).set (o := .ins (He.ga K "Limb") dx (putF "piece" (.ref pc) (putF "number" (.int nu) [])))
  have l2 : (putF "piece" (.ref pc) (putF "number" (.int nu) [])).length ≤ 2 := Nat.le_trans (length_putF _ _ _) (Nat.succ_le_succ (length_putF _ _ _))
  refine q_fld (R := Ex) (v_name 3 rfl) (fun H3 r3 => ⟨x, He.ga K "Limb", dx, _, x_name 0 rfl, r3 _ _ upd_same, T.k_Limb, T.n_Limb_upper, by omega, ?_⟩) kV_mono
  have e3 := (e2.ex r3).set (o := .ins (He.ga K "Limb") dx (putF "upper" u (putF "piece" (.ref pc) (putF "number" (.int nu) []))))
  have l3 : (putF "upper" u (putF "piece" (.ref pc) (putF "number" (.int nu) []))).length ≤ 3 := Nat.le_trans (length_putF _ _ _) (Nat.succ_le_succ l2)
  refine q_fld (R := Ex) (v_name 4 rfl) (fun H4 r4 => ⟨x, He.ga K "Limb", dx, _, x_name 0 rfl, r4 _ _ upd_same, T.k_Limb, T.n_Limb_lower, by omega, ?_⟩) kV_mono
  have e4 := (e3.ex r4).set (o := .ins (He.ga K "Limb") dx (putF "lower" l (putF "upper" u (putF "piece" (.ref pc) (putF "number" (.int nu) [])))))
  have l4 : (putF "lower" l (putF "upper" u (putF "piece" (.ref pc) (putF "number" (.int nu) [])))).length ≤ 4 := Nat.le_trans (length_putF _ _ _) (Nat.succ_le_succ l3)
  refine q_fld (R := Ex) (v_lenM rfl T.b_len (v_pside T (v_name 2 rfl) (hp.kx e4 pn nl) (hr.mono (by decide))) rl) (fun H5 r5 => ⟨x, He.ga K "Limb", dx, _, x_name 0 rfl, r5 _ _ upd_same, T.k_Limb, T.n_Limb_many, by omega, ?_⟩) kV_mono
  have e5 := (e4.ex r5).set (o := .ins (He.ga K "Limb") dx (putF "many" (.int (R.row.length : Int)) (putF "lower" l (putF "upper" u (putF "piece" (.ref pc) (putF "number" (.int nu) []))))))
  have l5 : (putF "many" (.int (R.row.length : Int)) (putF "lower" l (putF "upper" u (putF "piece" (.ref pc) (putF "number" (.int nu) []))))).length ≤ 5 := Nat.le_trans (length_putF _ _ _) (Nat.succ_le_succ l4)
  refine q_fld (R := Ex) v_int (fun H6 r6 => ⟨x, He.ga K "Limb", dx, _, x_name 0 rfl, r6 _ _ upd_same, T.k_Limb, T.n_Limb_tall, by omega, ?_⟩) kV_mono
  have e6 := (e5.ex r6).set (o := .ins (He.ga K "Limb") dx (putF "tall" (.int 0) (putF "many" (.int (R.row.length : Int)) (putF "lower" l (putF "upper" u (putF "piece" (.ref pc) (putF "number" (.int nu) [])))))))
  have l6 : (putF "tall" (.int 0) (putF "many" (.int (R.row.length : Int)) (putF "lower" l (putF "upper" u (putF "piece" (.ref pc) (putF "number" (.int nu) [])))))).length ≤ 6 := Nat.le_trans (length_putF _ _ _) (Nat.succ_le_succ l5)
  cases R with
  | lf c =>
    obtain ⟨rfl, rfl⟩ := he
    refine q_no (R := Ex) ((t_notN (v_name 3 rfl)).is (by simp)) fun H7 r7 => RB.nil (kq H7 (e6.ex r7) ⟨nu, pc, ⟨dx, _, r7 _ _ upd_same, by walk_at "lk", by walk_at "lk", by walk_at "lk", by walk_at "lk", by walk_at "lk", by walk_at "lk", by walk_at "lk"⟩, (hp.kx e6 pn nl).ex r7⟩)
  | nd L R =>
    obtain ⟨a, b, rfl, rfl, ha, hb⟩ := he
    have ha6 := ha.kx e6 hx
    have hb6 := hb.kx e6 hx
    obtain ⟨_, _, _, _, fa, _⟩ := ha6.any
    obtain ⟨_, _, _, _, fb, _⟩ := hb6.any
    refine q_yes (R := Ex) ((t_notN (v_name 3 rfl)).is (by simp)) fun H7 r7 => q_fld (R := Ex) (v_add v_int (v_max rfl T.b_max (v_fld (v_name 3 rfl) ((fa.tal T).on r7)) (v_fld (v_name 4 rfl) ((fb.tal T).on r7)))) (fun H8 r8 => ⟨x, He.ga K "Limb", dx, _, x_name 0 rfl, r8 _ _ (r7 _ _ upd_same), T.k_Limb, T.n_Limb_tall, by omega, ?_⟩) kV_mono
    have e8 := (e6.ex (r7.tr r8)).set (o := .ins (He.ga K "Limb") dx (putF "tall" (.int (1 + if (R.tall : Int) > (L.tall : Int) then (R.tall : Int) else (L.tall : Int))) (putF "tall" (.int 0) (putF "many" (.int ((Tr.nd L R).row.length : Int)) (putF "lower" (.ref b) (putF "upper" (.ref a) (putF "piece" (.ref pc) (putF "number" (.int nu) []))))))))
    have et : (1 + if (R.tall : Int) > (L.tall : Int) then (R.tall : Int) else (L.tall : Int)) = ((1 + max L.tall R.tall : Nat) : Int) := by
      split <;> omega
    rw [et] at e8 ⊢
    exact RB.nil (RB.nil (kq _ e8 ⟨nu, pc, a, b, ⟨dx, _, upd_same, by walk_at "lk", by walk_at "lk", by walk_at "lk", by walk_at "lk", by walk_at "lk", by walk_at "lk", by walk_at "lk"⟩, hp.kx e8 pn nl, ha.kx e8 hx, hb.kx e8 hx⟩))
end
end PT
namespace PT
open PySem PySem.Spec PyProof.Rows L2
local macro_rules | `(tactic| walk_at "lk") => `(tactic| (repeat (first | rw [L2.lookup_putF, if_pos rfl] | rw [L2.lookup_putF, if_neg (by decide +kernel)])) <;> first | rfl | assumption | done)
/-! ### what a grower gives: a limb of that row, none for no row -/
def IsL (K : PySem.W.Frag) (t row : List Nat) (v : V) (H : Hp) : Prop := (row = [] ∧ v = .non) ∨ ∃ p T, v = .ref p ∧ T.row = row ∧ LimbAt K t T p H
abbrev RetL (K : PySem.W.Frag) (g : Addr) (t row : List Nat) (H : Hp) (Q : VK) : Prop := ∀ v H', ExG K g t H H' → IsL K t row v H' → Q v H'
def spJoin (K : PySem.W.Frag) : Sp := fun vs H Q _ => ∃ g t a b L R, vs = [.ref g, .ref a, .ref b] ∧ GrAt K g t H ∧ LimbAt K t L a H ∧ LimbAt K t R b H ∧ L.row.length + R.row.length ≤ 48 ∧ RetL K g t (L.row ++ R.row) H Q
def spLeaf (K : PySem.W.Frag) : Sp := fun vs H Q _ => ∃ g t c, vs = [.ref g, sgn c] ∧ GrAt K g t H ∧ isSg c = true ∧ RetL K g t [c] H Q
def spGrown (n : Nat) (K : PySem.W.Frag) : Sp := fun vs H Q _ => ∃ g t s, vs = [.ref g, .str (mkS s)] ∧ GrAt K g t H ∧ rowOk s ∧ s ≠ [] ∧ s.length ≤ n ∧ RetL K g t s H Q
def spPut (n : Nat) (K : PySem.W.Frag) : Sp := fun vs H Q _ => ∃ g t a T c, ∃ i : Nat, vs = [.ref g, .ref a, .int (i : Int), sgn c] ∧ GrAt K g t H ∧ LimbAt K t T a H ∧ isSg c = true ∧ i ≤ T.row.length ∧ T.row.length ≤ n ∧ T.row.length ≤ 47 ∧ RetL K g t (T.row.take i ++ c :: T.row.drop i) H Q
def spDrop (n : Nat) (K : PySem.W.Frag) : Sp := fun vs H Q _ => ∃ g t a T, ∃ i : Nat, vs = [.ref g, .ref a, .int (i : Int)] ∧ GrAt K g t H ∧ LimbAt K t T a H ∧ i < T.row.length ∧ T.row.length ≤ n ∧ T.row.length ≤ 48 ∧ RetL K g t (T.row.take i ++ T.row.drop (i + 1)) H Q
def spChange (n : Nat) (K : PySem.W.Frag) : Sp := fun vs H Q _ => ∃ g t a T c, ∃ i : Nat, vs = [.ref g, .ref a, .int (i : Int), sgn c] ∧ GrAt K g t H ∧ LimbAt K t T a H ∧ isSg c = true ∧ i < T.row.length ∧ T.row.length ≤ n ∧ T.row.length ≤ 48 ∧ RetL K g t (T.row.take i ++ c :: T.row.drop (i + 1)) H Q
theorem sc_leaf : FnScope ["self", "sign"] ["self", "sign"] (defScope (inClass (top 61) 1)) := ⟨rfl, rfl, rfl, by decide +kernel, rfl, by decide +kernel, by decide +kernel⟩
theorem sc_knot : FnScope ["self", "upper", "lower"] ["self", "upper", "lower"] (defScope (inClass (top 61) 2)) := ⟨rfl, rfl, rfl, by decide +kernel, rfl, by decide +kernel, by decide +kernel⟩
theorem sc_joined : FnScope ["self", "upper", "lower", "amid"] ["self", "upper", "lower"] (defScope (inClass (top 61) 3)) := ⟨rfl, rfl, rfl, by decide +kernel, rfl, by decide +kernel, by decide +kernel⟩
theorem sc_grown : FnScope ["self", "row", "cut"] ["self", "row"] (defScope (inClass (top 61) 4)) := ⟨rfl, rfl, rfl, by decide +kernel, rfl, by decide +kernel, by decide +kernel⟩
theorem sc_gput : FnScope ["self", "limb", "place", "sign", "cut"] ["self", "limb", "place", "sign"] (defScope (inClass (top 61) 5)) := ⟨rfl, rfl, rfl, by decide +kernel, rfl, by decide +kernel, by decide +kernel⟩
theorem sc_gdrop : FnScope ["self", "limb", "place", "cut", "rest"] ["self", "limb", "place"] (defScope (inClass (top 61) 6)) := ⟨rfl, rfl, rfl, by decide +kernel, rfl, by decide +kernel, by decide +kernel⟩
theorem sc_gchange : FnScope ["self", "limb", "place", "sign", "cut"] ["self", "limb", "place", "sign"] (defScope (inClass (top 61) 7)) := ⟨rfl, rfl, rfl, by decide +kernel, rfl, by decide +kernel, by decide +kernel⟩
theorem ks_len {kvs : List (Key × V)} {cs : List Nat} (h : kvs.map (·.1) = cs.map (fun c => (.inr (mkS [c]) : Key))) (hn : cs.Nodup) (hc : ∀ c ∈ cs, c < 123) : kvs.length ≤ 123 := by
  have h1 : kvs.length = cs.length := by
    have := congrArg List.length h
    rwa [List.length_map, List.length_map] at this
  have h2 := hn.length_le_of_subset (l₂ := List.range 123) fun c hm => List.mem_range.mpr (hc c hm)
  rw [List.length_range] at h2
  omega
theorem sg_lt {c : Nat} (h : isSg c = true) : c < 123 := by
  unfold isSg isLet at h
  rw [Bool.or_eq_true, Bool.and_eq_true, decide_eq_true_eq, decide_eq_true_eq, decide_eq_true_eq] at h
  omega
section
variable {K : PySem.W.Frag} {mg : Str → Option Value} (T : Txt K mg) {g : Addr} {t : List Nat} {n : Int} {dx sd : Addr} {fs : List (Str × V)} {kvs : List (Key × V)} {H H' : Hp}
include T
/-- the next number given -/
theorem GrFs.up (a : GrFs K g t n dx sd fs kvs H) (m : Int) : GrFs K g t m dx sd (putF "given" (.int m) fs) kvs (upd H g (.ins (He.ga K "Grower") dx (putF "given" (.int m) fs))) := by
  have ng : MG K (.ins (He.ga K "Grower") dx fs) := .inr ⟨_, _, rfl⟩
  have e : ExM K H (upd H g (.ins (He.ga K "Grower") dx (putF "given" (.int m) fs))) := (ExM.of (Ex.rf H)).set a.at_ ng
  have sg : sd ≠ g := ne_of a.ds a.at_ (by intro z; cases z)
  refine ⟨upd_same, ?_, ?_, ?_, fun f h1 h2 h3 => ?_, by rw [putF_old a.f2]; exact a.fl, by rw [upd_ne sg]; exact a.ds, a.ks, fun c v h => ?_, a.rk⟩
  · rw [lookup_putF, if_neg (by decide +kernel)]; exact a.f1
  · rw [lookup_putF, if_pos rfl]
  · rw [lookup_putF, if_neg (by decide +kernel)]; exact a.f3
  · rw [lookup_putF, if_neg h2]; exact a.nm f h1 h2 h3
  · obtain ⟨p, h1, h2⟩ := a.di c v h
    exact ⟨p, h1, h2.exm T e⟩
theorem GrFs.exm (a : GrFs K g t n dx sd fs kvs H) : ExM K H (upd H g (.ins (He.ga K "Grower") dx (putF "given" (.int (n + 1)) fs))) := (ExM.of (Ex.rf H)).set a.at_ (.inr ⟨_, _, rfl⟩)
/-- a strip more -/
theorem GrFs.sp {c : Nat} {p : Addr} (a : GrFs K g t n dx sd fs kvs H) (hn : valV kvs (.inr (mkS [c])) = none) (hc : isSg c = true) (hp : PcK K p [c] t H) : GrFs K g t n dx sd fs (putK kvs (.inr (mkS [c])) (.ref p)) (upd H sd (.dK (putK kvs (.inr (mkS [c])) (.ref p)))) := by
  have e : ExM K H (upd H sd (.dK (putK kvs (.inr (mkS [c])) (.ref p)))) := (ExM.of (Ex.rf H)).set a.ds (.inl ⟨_, rfl⟩)
  have sg : g ≠ sd := ne_of a.at_ a.ds (by intro z; cases z)
  refine ⟨by rw [upd_ne sg]; exact a.at_, a.f1, a.f2, a.f3, a.nm, a.fl, upd_same, ?_, fun d v h => ?_, a.rk⟩
  · obtain ⟨cs, h1, h2, h3⟩ := a.ks
    refine ⟨cs ++ [c], ?_, ?_, fun d hd => ?_⟩
    · rw [putK_new _ hn, List.map_append, List.map_append, h1]; rfl
    · refine List.nodup_append.mpr ⟨h2, by simp, fun d hd x hx => ?_⟩
      obtain rfl := List.mem_singleton.mp hx
      rintro rfl
      have h4 : (.inr (mkS [d]) : Key) ∈ kvs.map (·.1) := by rw [h1]; exact List.mem_map.mpr ⟨d, hd, rfl⟩
      obtain ⟨kv, hk, he⟩ := List.mem_map.mp h4
      have h5 := valV_any (.inr (mkS [d]) : Key) kvs
      rw [hn, Option.isSome_none, List.any_eq_false] at h5
      exact h5 kv hk (decide_eq_true he)
    · rcases List.mem_append.mp hd with h | h
      · exact h3 d h
      · rw [List.mem_singleton.mp h]; exact sg_lt hc
  · rw [valV_put] at h
    by_cases q : (.inr (mkS [d]) : Key) = .inr (mkS [c])
    · rw [if_pos q] at h
      have : d = c := by
        have := mkS_inj (Sum.inr.inj q)
        exact (List.cons.inj this).1
      subst this
      exact ⟨p, (Option.some.inj h).symm, hp.exm T e⟩
    · rw [if_neg q] at h
      obtain ⟨p', h1, h2⟩ := a.di d v h
      exact ⟨p', h1, h2.exm T e⟩
theorem GrAt.kg {R : Hp → Hp → Prop} (a : GrAt K g t H) : Kp (ExG K g t) H (GrAt K g t) := fun _ e => e.g a
theorem GrAt.ins {m : Str} (a : GrAt K g t H) (h : m ≠ "against" ∧ m ≠ "given" ∧ m ≠ "strips") : Kp (ExG K g t) H (Ins (He.ga K "Grower") g m) := fun _ e => by
  obtain ⟨n, dx, sd, fs, kvs, a⟩ := e.g a
  exact ⟨dx, fs, a.at_, a.nm m h.1 h.2.1 h.2.2⟩
end
/-! ### a new limb, made by its name -/
section
variable {X : Cx} {σ : L2.St} {H : Hp} {e : Expr} {es : List Expr} {pos p' : Pos} (T : Txt X.K X.mg)
include T
theorem l_new {PB : List V → Hp → Prop} {t : List Nat} {R : Tr} (hr : Room 3 X.A) (ha : EvA X Ex (e :: es) σ H PB) (hp : ∀ vs H1, Ex H H1 → PB vs H1 → ∃ (nu : Int) (pc : Addr) (u l : V), vs = [.int nu, .ref pc, u, l] ∧ PcK X.K pc R.row t H1 ∧ Ends2 X.K t u l H1 R) (hg : Gl X "Limb" := by rfl)
    (he : starEach (e :: es) X.env = (false, eval e X.env) :: starEach es X.env := by rfl) (hpl : (backTo pos (starEach es X.env)).any (·.1) = false := by rfl) :
    EvP X Ex (.Call (.Name "Limb" p') (e :: es) [] pos) σ H (IsL X.K t R.row) := g_make T.mk_Limb (ok_limb T) T.g_Limb hr ha (fun vs H1 r1 k1 x dx nx nd ne Q q => by
  have e1 := made_ex (C := He.ga X.K "Limb") nx nd
  obtain ⟨nu, pc, u, l, rfl, h2, h3⟩ := hp vs _ (r1.tr e1) (k1 _ e1)
  refine ⟨x, dx, pc, u, l, t, nu, R, rfl, upd_same, h2, h3, fun H' k1 k2 => ⟨rfl, q (.ref x) H' (made_kx nx nd k1) fun H3 r3 => .inr ⟨x, R, rfl, rfl, k2.exm T (.of r3)⟩⟩⟩) hg (by decide) he hpl
end
section
variable {P : Program} {w : World} {K : PySem.W.Frag} {mg : Str → Option Value} {base : Heap} (T : Txt K mg)
include T
theorem ok_knot : Ok P w K mg base 10 (He.fAd K ("Grower", some "knot")) ["self", "upper", "lower"] (spJoin K) := by
  refine ok_of T.d_Grower_knot sc_knot (fun _ _ _ _ _ _ us hl => match us, hl with | [_, _, _], _ => rfl) (fun vs H Q E h => by obtain ⟨_, _, _, _, _, _, rfl, _⟩ := h; rfl) (fun cdv A outer s0 H vs Q E hr h => ?_)
  obtain ⟨g, t, a, b, L, R, rfl, ⟨n, dx, sd, fs, kvs, G⟩, ha, hb, hl, kq⟩ := h
  refine q_fldaug (i := n) (j := 1) (x_name 0 rfl) G.at_ T.k_Grower T.n_Grower_given G.f2 x_int (by have := G.fl; omega) ?_
  have e1 := G.exm T
  have G1 := G.up T (n + 1)
  have ha1 := ha.exm T e1
  have hb1 := hb.exm T e1
  obtain ⟨_, pa, _, _, fa, qa⟩ := ha1.any
  obtain ⟨_, pb, _, _, fb, qb⟩ := hb1.any
  refine q_ret (R := Ex) (l_new T (R := .nd L R) (t := t) (hr.mono (by decide)) (a_p ((v_fld (v_name 0 rfl) (Fld.ex ⟨_, dx, _, G1.at_, T.k_Grower, T.n_Grower_given, G1.f2⟩)).p (P := fun v _ => v = .int (n + 1)) (kp_true rfl))
    (a_p (p_new (c := "Over") (s := L.row ++ R.row) (t := t) T.mk_Over (ok_over T) T.g_Over hr (a_v (v_fld (v_name 1 rfl) (fa.pie T)) (a_1 (v_fld (v_name 2 rfl) (fb.pie T)))) fun vs H2 r2 k2 => ?_)
    (a_p ((v_name 1 rfl).p (P := fun v _ => v = .ref a) (kp_true rfl)) (a_p ((v_name 2 rfl).p (P := fun v _ => v = .ref b) (kp_true rfl)) (a_nil (PA := fun ws _ => ws = [])))))) fun vs H2 r2 k2 => ?_) fun v H2 r2 k2 => ?_
  · obtain rfl := k2
    exact ⟨rfl, pa, pb, _, _, rfl, rfl, qa.ex r2, qb.ex r2, hl⟩
  · obtain ⟨_, _, rfl, rfl, _, _, rfl, ⟨p, rfl, hp⟩, _, _, rfl, rfl, _, _, rfl, rfl, rfl⟩ := k2
    exact ⟨_, p, _, _, rfl, hp.k, a, b, rfl, rfl, ha1.exm T (.of r2), hb1.exm T (.of r2)⟩
  · exact kq v H2 ⟨e1.tr (.of r2), fun _ => ⟨_, _, _, _, _, G1.ex r2⟩⟩ k2.now
theorem ok_leaf : Ok P w K mg base 108 (He.fAd K ("Grower", some "leaf")) ["self", "sign"] (spLeaf K) := by
  refine ok_of T.d_Grower_leaf sc_leaf (fun _ _ _ _ _ _ us hl => match us, hl with | [_, _], _ => rfl) (fun vs H Q E h => by obtain ⟨_, _, _, rfl, _⟩ := h; rfl) (fun cdv A outer s0 H vs Q E hr h => ?_)
  obtain ⟨g, t, c, rfl, ⟨n, dx, sd, fs, kvs, G⟩, hc, kq⟩ := h
  have hu : (cx P w K mg base ["self", "sign"] "Grower.leaf" (inClass (top 61) 1) (He.fAd K ("Grower", some "leaf")) cdv A outer s0 H E).A.units + 1 < cLine := by have := hr.units; show (A.deeper _).units + 1 < cLine; omega
  have fin : ∀ n' dx' sd' fs' kvs' H1, ExM K H H1 → GrFs K g t n' dx' sd' fs' kvs' H1 → (∃ p, valV kvs' (.inr (mkS [c])) = some (.ref p)) → RB (cx P w K mg base ["self", "sign"] "Grower.leaf" (inClass (top 61) 1) (He.fAd K ("Grower", some "leaf")) cdv A outer s0 H E) [(defBody (inClass (top 61) 1)).getD 1 (.Pass ⟨0, 0, 0, 0⟩), (defBody (inClass (top 61) 1)).getD 2 (.Pass ⟨0, 0, 0, 0⟩)] { nx := fun _ H' => Q .non H', rt := Q } [some (.ref g), some (sgn c)] H1 := fun n dx sd fs kvs H1 e0 G ⟨p, hv⟩ => by
    refine q_fldaug (i := n) (j := 1) (x_name 0 rfl) G.at_ T.k_Grower T.n_Grower_given G.f2 x_int (by have := G.fl; omega) ?_
    have e1 := e0.tr (G.exm T)
    have G1 := G.up T (n + 1)
    obtain ⟨p', hp', hp⟩ := G1.di c _ hv
    obtain rfl := V.ref.inj hp'
    refine q_ret (R := Ex) (l_new T (R := .lf c) (t := t) (hr.mono (by decide)) (a_v (v_fld (v_name 0 rfl) (Fld.ex ⟨_, dx, _, G1.at_, T.k_Grower, T.n_Grower_given, G1.f2⟩))
      (a_v (v_dget (k := .inr (mkS [c])) hu (v_fld (v_name 0 rfl) (Fld.ex ⟨_, dx, _, G1.at_, T.k_Grower, T.n_Grower_strips, G1.f3⟩)) (v_name 1 rfl) (kp_ex G1.ds) hv) (a_v v_non (a_1 v_non)))) fun vs H2 r2 k2 => ?_) fun v H2 r2 k2 => ?_
    · obtain rfl := k2
      exact ⟨_, p, _, _, rfl, hp.ex r2, rfl, rfl⟩
    · exact kq v H2 ⟨e1.tr (.of r2), fun _ => ⟨_, _, _, _, _, G1.ex r2⟩⟩ k2.now
  refine q_if (R := Ex) (t_dnotin (k := .inr (mkS [c])) hu (v_name 1 rfl) (v_fld (v_name 0 rfl) (Fld.ex ⟨_, dx, _, G.at_, T.k_Grower, T.n_Grower_strips, G.f3⟩)) (kp_ex G.ds)) (fun h0 H1 r1 => ?_) (fun h0 H1 r1 => ?_)
  · have hn : valV kvs (.inr (mkS [c])) = none := by
      cases h : valV kvs (.inr (mkS [c])) with
      | none => rfl
      | some x => rw [h] at h0; cases h0
    have G1 := G.ex r1
    refine q_dput (R := Ex) (K := KP Ex (IsP K [c] t)) hu (g_call (ok_balanced T) T.g_balanced hr (a_v (v_name 1 rfl) (a_1 (v_fld (v_name 0 rfl) (Fld.ex ⟨_, dx, _, G1.at_, T.k_Grower, T.n_Grower_against, G1.f1⟩)))) fun vs H2 r2 k2 Q q => ?_) (fun v H2 r2 k2 => ?_) kP_mono
    · obtain rfl := k2.now
      exact ⟨[c], t, rfl, rowOk.one hc, G.rk, fun p H3 r3 hp => q (.ref p) H3 r3 fun H4 r4 => ⟨p, rfl, hp.k.ex r4⟩⟩
    · obtain ⟨p, rfl, hp⟩ := k2.now
      have G2 := G1.ex r2
      obtain ⟨cs, h1, h2, h3⟩ := G2.ks
      have kl := ks_len h1 h2 h3
      refine ⟨sd, kvs, .inr (mkS [c]), x_fld (x_name 0 rfl) ⟨_, dx, _, G2.at_, T.k_Grower, T.n_Grower_strips, G2.f3⟩, x_name 1 rfl, G2.ds, Nat.lt_of_le_of_lt kl (by decide), RB.nil ?_⟩
      exact fin n dx sd fs _ _ ((ExM.of (r1.tr r2)).set G2.ds (.inl ⟨_, rfl⟩)) (G2.sp T hn hc hp) ⟨p, by rw [valV_put, if_pos rfl]⟩
  · obtain ⟨x, hx⟩ : ∃ x, valV kvs (.inr (mkS [c])) = some x := by
      cases h : valV kvs (.inr (mkS [c])) with
      | none => rw [h] at h0; cases h0
      | some x => exact ⟨x, rfl⟩
    obtain ⟨p, rfl, _⟩ := G.di c x hx
    exact RB.nil (fin n dx sd fs kvs H1 (.of r1) (G.ex r1) ⟨p, hx⟩)
end
end PT
namespace PT
open PySem PySem.Spec PyProof.Rows L2
def IsT (K : PySem.W.Frag) (t row : List Nat) (v : V) (H : Hp) : Prop := ∃ p T, v = .ref p ∧ T.row = row ∧ LimbAt K t T p H
theorem IsL.t {K : PySem.W.Frag} {t row : List Nat} {v : V} {H : Hp} (h : IsL K t row v H) (hn : row ≠ []) : IsT K t row v H := by
  rcases h with ⟨e, _⟩ | h
  · exact absurd e hn
  · exact h
theorem IsT.l {K : PySem.W.Frag} {t row : List Nat} {v : V} {H : Hp} (h : IsT K t row v H) : IsL K t row v H := .inr h
theorem Tr.ne (T : Tr) : T.row ≠ [] := fun e => by have := T.pos; rw [e] at this; exact absurd this (by decide)
section
variable {X : Cx} {σ : L2.St} {H : Hp} {o a b c e : Expr} {es : List Expr} {pos apos p' : Pos} (T : Txt X.K X.mg) {g : Addr} {t : List Nat}
include T
theorem p_limb {p : Addr} {R : Tr} (h : EvV X (ExG X.K g t) e σ H (.ref p)) (hl : LimbAt X.K t R p H) : EvP X (ExG X.K g t) e σ H (IsT X.K t R.row) := h.p fun H1 r1 => ⟨p, R, rfl, rfl, hl.exm T r1.m⟩
/-- a method of the grower that gives a limb -/
theorem g_lim {m : Str} {f : Addr} {k : Nat} {ps : List Str} {sp : Sp} {PB : List V → Hp → Prop} {row : List Nat} (hm : Meth X.K (He.ga X.K "Grower") m f) (hne : m ≠ "against" ∧ m ≠ "given" ∧ m ≠ "strips") (O : Ok X.prog X.w X.K X.mg X.base k f ps sp) (hr : Room k X.A) (ho : EvV X (ExG X.K g t) o σ H (.ref g)) (hg : GrAt X.K g t H) (ha : EvA X (ExG X.K g t) (e :: es) σ H PB) (hn : row ≠ [])
    (hs : ∀ vs H1 Q, ExG X.K g t H H1 → GrAt X.K g t H1 → PB vs H1 → RetL X.K g t row H1 Q → sp (.ref g :: vs) H1 Q E0) {pl : Sem Bool}
    (hst : starEach (e :: es) X.env = (false, eval e X.env) :: starEach es X.env := by rfl) (hpl : (backTo pos (starEach es X.env)).any (·.1) = false := by rfl)
    (ht : eval (.Call (.Attribute o m apos) (e :: es) [] pos) X.env = (do
      let ov ← eval o X.env
      standAt apos.atName
      let (f, first) ← holding [ov] (getMethod ov m pl)
      callWith pos f first (backTo pos (starEach (e :: es) X.env)) (backToKw pos (keywordEach [] X.env))) := by rfl) : EvP X (ExG X.K g t) (.Call (.Attribute o m apos) (e :: es) [] pos) σ H (IsT X.K t row) :=
  g_meth T.k_Grower hm O hr ho (hg.ins T hne) ha (fun vs H1 r1 k1 Q q => hs vs H1 Q r1 (r1.g hg) k1.now fun v H2 r2 h2 => q v H2 r2 fun H3 r3 => by
    obtain ⟨p, R, rfl, h3, h4⟩ := h2.t hn
    exact ⟨p, R, rfl, h3, h4.exm T r3.m⟩) hst hpl ht
theorem v_join {m : Str} {f : Addr} {k : Nat} {ps : List Str} {r1 r2 : List Nat} (hm : Meth X.K (He.ga X.K "Grower") m f) (hne : m ≠ "against" ∧ m ≠ "given" ∧ m ≠ "strips") (O : Ok X.prog X.w X.K X.mg X.base k f ps (spJoin X.K)) (hr : Room k X.A) (ho : EvV X (ExG X.K g t) o σ H (.ref g)) (hg : GrAt X.K g t H)
    (ha : EvP X (ExG X.K g t) a σ H (IsT X.K t r1)) (hb : EvP X (ExG X.K g t) b σ H (IsT X.K t r2)) (hl : r1.length + r2.length ≤ 48) {pl : Sem Bool}
    (hst : starEach [a, b] X.env = (false, eval a X.env) :: starEach [b] X.env := by rfl) (hst2 : starEach [b] X.env = (false, eval b X.env) :: starEach [] X.env := by rfl) (hpl : (backTo pos (starEach [b] X.env)).any (·.1) = false := by rfl)
    (ht : eval (.Call (.Attribute o m apos) [a, b] [] pos) X.env = (do
      let ov ← eval o X.env
      standAt apos.atName
      let (f, first) ← holding [ov] (getMethod ov m pl)
      callWith pos f first (backTo pos (starEach [a, b] X.env)) (backToKw pos (keywordEach [] X.env))) := by rfl) : EvP X (ExG X.K g t) (.Call (.Attribute o m apos) [a, b] [] pos) σ H (IsT X.K t (r1 ++ r2)) :=
  g_meth (K := KP (ExG X.K g t) (IsT X.K t (r1 ++ r2))) T.k_Grower hm O hr ho (hg.ins T hne) (a_p ha (a_p hb (a_nil (PA := fun ws _ => ws = [])) hst2) hst) (fun vs H1 q1 k1 Q q => by
    obtain ⟨_, _, rfl, ⟨p1, R1, rfl, e1, l1⟩, _, _, rfl, ⟨p2, R2, rfl, e2, l2⟩, rfl⟩ := k1.now
    subst e1 e2
    refine ⟨g, t, p1, p2, R1, R2, rfl, q1.g hg, l1, l2, hl, fun v H2 q2 h2 => q v H2 q2 fun H3 q3 => ?_⟩
    obtain ⟨p, R, rfl, h3, h4⟩ := h2.t (fun e => R1.ne (List.append_eq_nil_iff.mp e).1)
    exact ⟨p, R, rfl, h3, h4.exm T q3.m⟩) hst hpl ht
end
section
variable {K : PySem.W.Frag} {mg : Str → Option Value} {H : Hp} (T : Txt K mg) {g : Addr} {t : List Nat}
include T
/-- upper, lower of a limb that has them -/
theorem lf_up {L R : Tr} {p : Addr} (h : LimbAt K t (.nd L R) p H) : ∃ a b, LimbAt K t L a H ∧ LimbAt K t R b H ∧ Kp (ExG K g t) H (Fld K p "upper" (.ref a)) ∧ Kp (ExG K g t) H (Fld K p "lower" (.ref b)) := by
  obtain ⟨nu, pc, a, b, f, hp, ha, hb⟩ := h
  exact ⟨a, b, ha, hb, f.up T, f.lo T⟩
theorem lf_tal {R : Tr} {p : Addr} (h : LimbAt K t R p H) : Kp (ExG K g t) H (Fld K p "tall" (.int (R.tall : Int))) := by
  obtain ⟨_, _, _, _, f, _⟩ := h.any
  exact f.tal T
theorem lf_many {R : Tr} {p : Addr} (h : LimbAt K t R p H) : Kp (ExG K g t) H (Fld K p "many" (.int (R.row.length : Int))) := by
  obtain ⟨_, _, _, _, f, _⟩ := h.any
  exact f.many T
end
section
variable {P : Program} {w : World} {K : PySem.W.Frag} {mg : Str → Option Value} {base : Heap} (T : Txt K mg)
include T
theorem ok_joined : Ok P w K mg base 11 (He.fAd K ("Grower", some "joined")) ["self", "upper", "lower"] (spJoin K) := by
  refine ok_of T.d_Grower_joined sc_joined (fun _ _ _ _ _ _ us hl => match us, hl with | [_, _, _], _ => rfl) (fun vs H Q E h => by obtain ⟨_, _, _, _, _, _, rfl, _⟩ := h; rfl) (fun cdv A outer s0 H vs Q E hr h => ?_)
  obtain ⟨g, t, a, b, L, R, rfl, hg, ha, hb, hl, kq⟩ := h
  have nd := sc_joined.nd
  have lp := L.pos
  have rp := R.pos
  have O := ok_knot (P := P) (w := w) (base := base) T
  have hne : ("knot" : Str) ≠ "against" ∧ ("knot" : Str) ≠ "given" ∧ ("knot" : Str) ≠ "strips" := by decide +kernel
  refine q_if (R := ExG K g t) (t_gt (v_fld (v_name 1 rfl) (lf_tal T ha)) (v_add (v_fld (v_name 2 rfl) (lf_tal T hb)) v_int)) (fun h1 H1 r1 => ?_) (fun h1 H1 r1 => ?_)
  · have h1 := of_decide_eq_true h1
    cases L with
    | lf c => have : (Tr.lf c).tall = 0 := rfl; omega
    | nd U V =>
      have hg1 := r1.g hg
      have ha1 := ha.exm T r1.m
      have hb1 := hb.exm T r1.m
      obtain ⟨u, v, hu, hv, fu, fv⟩ := lf_up T (g := g) ha1
      have e0 : (Tr.nd U V).row = U.row ++ V.row := rfl
      rw [e0, List.length_append] at hl
      refine q_set (R := ExG K g t) 3 (v_fld (v_name 1 rfl) fv) (fun H2 r2 => ?_) nd
      have hg2 := r2.g hg1
      have hb2 := hb1.exm T r2.m
      have hu2 := hu.exm T r2.m
      have hv2 := hv.exm T r2.m
      refine q_if (R := ExG K g t) (t_ge (v_fld (v_fld (v_name 1 rfl) (fu.on r2)) (lf_tal T hu2)) (v_fld (v_name 3 rfl) (lf_tal T hv2))) (fun h2 H3 r3 => ?_) (fun h2 H3 r3 => ?_)
      · refine q_ret (v_join T T.m_Grower_knot hne O hr (v_name 0 rfl) (r3.g hg2) (p_limb T (v_fld (v_name 1 rfl) (fu.on (r2.tr r3))) (hu2.exm T r3.m))
          (v_join T T.m_Grower_knot hne O hr (v_name 0 rfl) (r3.g hg2) (p_limb T (v_name 3 rfl) (hv2.exm T r3.m)) (p_limb T (v_name 2 rfl) (hb2.exm T r3.m)) (by omega)) (by rw [List.length_append]; omega)) fun v H4 r4 k4 => kq v H4 (r1.tr (r2.tr (r3.tr r4))) ?_
        have := k4.now.l
        rw [e0, List.append_assoc]
        exact this
      · have h2 := of_decide_eq_false h2
        cases V with
        | lf c => have : (Tr.lf c).tall = 0 := rfl; omega
        | nd V1 V2 =>
          have e1 : (Tr.nd V1 V2).row = V1.row ++ V2.row := rfl
          rw [e1, List.length_append] at hl
          have hg3 := r3.g hg2
          have hb3 := hb2.exm T r3.m
          have hu3 := hu2.exm T r3.m
          obtain ⟨w1, w2, hw1, hw2, f1, f2⟩ := lf_up T (g := g) (hv2.exm T r3.m)
          refine RB.nil (q_ret (v_join T T.m_Grower_knot hne O hr (v_name 0 rfl) hg3 (v_join T T.m_Grower_knot hne O hr (v_name 0 rfl) hg3 (p_limb T (v_fld (v_name 1 rfl) (fu.on (r2.tr r3))) hu3) (p_limb T (v_fld (v_name 3 rfl) f1) hw1) (by omega))
            (v_join T T.m_Grower_knot hne O hr (v_name 0 rfl) hg3 (p_limb T (v_fld (v_name 3 rfl) f2) hw2) (p_limb T (v_name 2 rfl) hb3) (by omega)) (by rw [List.length_append, List.length_append]; omega)) fun v H4 r4 k4 => kq v H4 (r1.tr (r2.tr (r3.tr r4))) ?_)
          have := k4.now.l
          rw [e0, e1]
          simp only [List.append_assoc] at this ⊢
          exact this
  have hg1 := r1.g hg
  have ha1 := ha.exm T r1.m
  have hb1 := hb.exm T r1.m
  refine RB.nil (q_if (R := ExG K g t) (t_gt (v_fld (v_name 2 rfl) (lf_tal T hb1)) (v_add (v_fld (v_name 1 rfl) (lf_tal T ha1)) v_int)) (fun h1 H2 r2 => ?_) (fun h1 H2 r2 => ?_))
  · have h1 := of_decide_eq_true h1
    cases R with
    | lf c => have : (Tr.lf c).tall = 0 := rfl; omega
    | nd U V =>
      have hg2 := r2.g hg1
      have ha2 := ha1.exm T r2.m
      have hb2 := hb1.exm T r2.m
      obtain ⟨u, v, hu, hv, fu, fv⟩ := lf_up T (g := g) hb2
      have e0 : (Tr.nd U V).row = U.row ++ V.row := rfl
      rw [e0, List.length_append] at hl
      refine q_set (R := ExG K g t) 3 (v_fld (v_name 2 rfl) fu) (fun H3 r3 => ?_) nd
      have hg3 := r3.g hg2
      have ha3 := ha2.exm T r3.m
      have hu3 := hu.exm T r3.m
      have hv3 := hv.exm T r3.m
      refine q_if (R := ExG K g t) (t_ge (v_fld (v_fld (v_name 2 rfl) (fv.on r3)) (lf_tal T hv3)) (v_fld (v_name 3 rfl) (lf_tal T hu3))) (fun h2 H4 r4 => ?_) (fun h2 H4 r4 => ?_)
      · refine q_ret (v_join T T.m_Grower_knot hne O hr (v_name 0 rfl) (r4.g hg3) (v_join T T.m_Grower_knot hne O hr (v_name 0 rfl) (r4.g hg3) (p_limb T (v_name 1 rfl) (ha3.exm T r4.m)) (p_limb T (v_name 3 rfl) (hu3.exm T r4.m)) (by omega))
          (p_limb T (v_fld (v_name 2 rfl) (fv.on (r3.tr r4))) (hv3.exm T r4.m)) (by rw [List.length_append]; omega)) fun v H5 r5 k5 => kq v H5 (r1.tr (r2.tr (r3.tr (r4.tr r5)))) ?_
        have := k5.now.l
        rw [e0]
        simp only [List.append_assoc] at this ⊢
        exact this
      · have h2 := of_decide_eq_false h2
        cases U with
        | lf c => have : (Tr.lf c).tall = 0 := rfl; omega
        | nd V1 V2 =>
          have e1 : (Tr.nd V1 V2).row = V1.row ++ V2.row := rfl
          rw [e1, List.length_append] at hl
          have hg4 := r4.g hg3
          have ha4 := ha3.exm T r4.m
          have hv4 := hv3.exm T r4.m
          obtain ⟨w1, w2, hw1, hw2, f1, f2⟩ := lf_up T (g := g) (hu3.exm T r4.m)
          refine RB.nil (q_ret (v_join T T.m_Grower_knot hne O hr (v_name 0 rfl) hg4 (v_join T T.m_Grower_knot hne O hr (v_name 0 rfl) hg4 (p_limb T (v_name 1 rfl) ha4) (p_limb T (v_fld (v_name 3 rfl) f1) hw1) (by omega))
            (v_join T T.m_Grower_knot hne O hr (v_name 0 rfl) hg4 (p_limb T (v_fld (v_name 3 rfl) f2) hw2) (p_limb T (v_fld (v_name 2 rfl) (fv.on (r3.tr r4))) hv4) (by omega)) (by rw [List.length_append, List.length_append]; omega)) fun v H5 r5 k5 => kq v H5 (r1.tr (r2.tr (r3.tr (r4.tr r5)))) ?_)
          have := k5.now.l
          rw [e0, e1]
          simp only [List.append_assoc] at this ⊢
          exact this
  · refine RB.nil (q_ret (v_join T T.m_Grower_knot hne O hr (v_name 0 rfl) (r2.g hg1) (p_limb T (v_name 1 rfl) (ha1.exm T r2.m)) (p_limb T (v_name 2 rfl) (hb1.exm T r2.m)) hl) fun v H3 r3 k3 => kq v H3 (r1.tr (r2.tr r3)) k3.now.l)
end
end PT
namespace PT
open PySem PySem.Spec PyProof.Rows L2
theorem ne_names {m : Str} (h : (decide (m ≠ "against") && decide (m ≠ "given") && decide (m ≠ "strips")) = true) : m ≠ "against" ∧ m ≠ "given" ∧ m ≠ "strips" := by
  rw [Bool.and_eq_true, Bool.and_eq_true, decide_eq_true_eq, decide_eq_true_eq, decide_eq_true_eq] at h
  exact ⟨h.1.1, h.1.2, h.2⟩
section
variable {X : Cx} {σ : L2.St} {H : Hp} {o a b c e : Expr} {pos apos p' : Pos} (T : Txt X.K X.mg) {g : Addr} {t : List Nat}
include T
theorem v_leaf {ch : Nat} (hr : Room 108 X.A) (ho : EvV X (ExG X.K g t) o σ H (.ref g)) (hg : GrAt X.K g t H) (ha : EvV X (ExG X.K g t) a σ H (sgn ch)) (hc : isSg ch = true) {pl : Sem Bool}
    (hst : starEach [a] X.env = (false, eval a X.env) :: starEach [] X.env := by rfl) (hpl : (backTo pos (starEach [] X.env)).any (·.1) = false := by rfl)
    (ht : eval (.Call (.Attribute o "leaf" apos) [a] [] pos) X.env = (do
      let ov ← eval o X.env
      standAt apos.atName
      let (f, first) ← holding [ov] (getMethod ov "leaf" pl)
      callWith pos f first (backTo pos (starEach [a] X.env)) (backToKw pos (keywordEach [] X.env))) := by rfl) : EvP X (ExG X.K g t) (.Call (.Attribute o "leaf" apos) [a] [] pos) σ H (IsT X.K t [ch]) :=
  g_lim T T.m_Grower_leaf (ne_names (by decide +kernel)) (ok_leaf T) hr ho hg (a_1 ha hst) (by simp) (fun vs H1 Q r1 hg1 k1 q => by
    subst k1
    exact ⟨g, t, ch, rfl, hg1, hc, q⟩) hst hpl ht
end
theorem sc_rows_from : FnScope ["self", "first", "last", "row"] ["self", "first"] (defScope (inClass (top 60) 1)) := ⟨rfl, rfl, rfl, by decide +kernel, rfl, by decide +kernel, by decide +kernel⟩
section
variable {P : Program} {w : World} {K : PySem.W.Frag} {mg : Str → Option Value} {base : Heap} (T : Txt K mg)
include T
theorem ok_grown_of (n : Nat) (ih : ∀ k, k + 1 = n → Ok P w K mg base (k + 109) (He.fAd K ("Grower", some "grown")) ["self", "row"] (spGrown k K)) : Ok P w K mg base (n + 109) (He.fAd K ("Grower", some "grown")) ["self", "row"] (spGrown n K) := by
  refine ok_of (sp := spGrown n K) T.d_Grower_grown sc_grown (fun _ _ _ _ _ _ us hl => match us, hl with | [_, _], _ => rfl) (fun vs H Q E h => by obtain ⟨_, _, _, rfl, _⟩ := h; rfl) (fun cdv A outer s0 H vs Q E hr h => ?_)
  obtain ⟨g, t, s, rfl, hg, hs, hne, hn, kq⟩ := h
  have nd := sc_grown.nd
  have sl := hs.1
  have s0' : 0 < s.length := List.length_pos_iff.mpr hne
  refine q_if (R := ExG K g t) (t_eq (v_lenM rfl T.b_len (v_name 1 rfl) sl) v_int) (fun h1 H1 r1 => ?_) (fun h1 H1 r1 => ?_)
  · have h1 : s.length = 1 := by have := V.int.inj (of_decide_eq_true h1); omega
    obtain ⟨c, rfl⟩ := List.length_eq_one_iff.mp h1
    exact q_ret (v_leaf (ch := c) T (hr.mono (by omega)) (v_name 0 rfl) (r1.g hg) (v_name 1 rfl) (hs.2 c (by simp))) fun v H2 r2 k2 => kq v H2 (r1.tr r2) k2.now.l
  have h1 : s.length ≠ 1 := fun z => by
    have := of_decide_eq_false h1
    exact this (by rw [z]; rfl)
  obtain ⟨k, hk⟩ : ∃ k, k + 1 = n := ⟨n - 1, by omega⟩
  have O := ih k hk
  have hrk : Room (k + 109) _ := hr.mono (by omega)
  refine RB.nil (q_set (R := ExG K g t) 2 ((v_fdiv (v_lenM rfl T.b_len (v_name 1 rfl) sl) v_int (by decide)).is (by rw [fdiv2])) (fun H2 r2 => ?_) nd)
  have hg2 := r2.g (r1.g hg)
  have e : s = s.take (s.length / 2) ++ s.drop (s.length / 2) := (List.take_append_drop _ _).symm
  have hl1 : (s.take (s.length / 2)).length = s.length / 2 := by rw [List.length_take]; omega
  have hl2 : (s.drop (s.length / 2)).length = s.length - s.length / 2 := List.length_drop
  have n1 : s.take (s.length / 2) ≠ [] := fun z => by rw [z] at hl1; simp at hl1; omega
  have n2 : s.drop (s.length / 2) ≠ [] := fun z => by rw [z] at hl2; simp at hl2; omega
  have hne : ("grown" : Str) ≠ "against" ∧ ("grown" : Str) ≠ "given" ∧ ("grown" : Str) ≠ "strips" := ne_names (by decide +kernel)
  refine q_ret (v_join T (r1 := s.take (s.length / 2)) (r2 := s.drop (s.length / 2)) T.m_Grower_knot (ne_names (by decide +kernel)) (ok_knot T) (hr.mono (by omega)) (v_name 0 rfl) hg2
    (g_lim T T.m_Grower_grown hne O hrk (v_name 0 rfl) hg2 (a_1 (v_take (v_name 1 rfl) (v_name 2 rfl) sl)) n1 fun vs H3 Q r3 hg3 k3 q => ?_)
    (g_lim T T.m_Grower_grown hne O hrk (v_name 0 rfl) hg2 (a_1 (v_drop (v_name 1 rfl) (v_name 2 rfl) sl)) n2 fun vs H3 Q r3 hg3 k3 q => ?_) (by omega)) fun v H4 r4 k4 => kq v H4 (r1.tr (r2.tr r4)) ?_
  · subst k3
    exact ⟨g, t, _, rfl, hg3, hs.take _, n1, by omega, q⟩
  · subst k3
    exact ⟨g, t, _, rfl, hg3, hs.drop _, n2, by omega, q⟩
  · have := k4.now.l
    rw [← e] at this
    exact this
theorem ok_grown : ∀ n, Ok P w K mg base (n + 109) (He.fAd K ("Grower", some "grown")) ["self", "row"] (spGrown n K) := fun n => by
  induction n with
  | zero => exact ok_grown_of T 0 fun k h => by omega
  | succ n ih => exact ok_grown_of T (n + 1) fun k h => (Nat.succ.inj h) ▸ ih
theorem ok_gput_of (n : Nat) (ih : ∀ k, k + 1 = n → Ok P w K mg base (k + 109) (He.fAd K ("Grower", some "put")) ["self", "limb", "place", "sign"] (spPut k K)) : Ok P w K mg base (n + 109) (He.fAd K ("Grower", some "put")) ["self", "limb", "place", "sign"] (spPut n K) := by
  refine ok_of (sp := spPut n K) T.d_Grower_put sc_gput (fun _ _ _ _ _ _ us hl => match us, hl with | [_, _, _, _], _ => rfl) (fun vs H Q E h => by obtain ⟨_, _, _, _, _, _, rfl, _⟩ := h; rfl) (fun cdv A outer s0 H vs Q E hr h => ?_)
  obtain ⟨g, t, a, R, c, i, rfl, hg, ha, hc, hi, hn, h47, kq⟩ := h
  have nd := sc_gput.nd
  cases R with
  | lf d =>
    obtain ⟨nu, pc, f, hp⟩ := ha
    have ha : LimbAt K t (.lf d) a H := ⟨nu, pc, f, hp⟩
    have hi : i ≤ 1 := hi
    refine q_yes (R := ExG K g t) ((t_isN (v_fld (v_name 1 rfl) (f.up T))).is (by simp)) fun H1 r1 => ?_
    have hg1 := r1.g hg
    have ha1 := ha.exm T r1.m
    refine q_if (R := ExG K g t) (t_eq (v_name 2 rfl) v_int) (fun h1 H2 r2 => ?_) (fun h1 H2 r2 => ?_)
    · have h1 : i = 0 := by have := V.int.inj (of_decide_eq_true h1); omega
      subst h1
      exact q_ret (v_join T (r1 := [c]) (r2 := [d]) T.m_Grower_knot (ne_names (by decide +kernel)) (ok_knot T) (hr.mono (by omega)) (v_name 0 rfl) (r2.g hg1) (v_leaf (ch := c) T (hr.mono (by omega)) (v_name 0 rfl) (r2.g hg1) (v_name 3 rfl) hc) (p_limb T (R := .lf d) (v_name 1 rfl) (ha1.exm T r2.m)) (by simp))
        fun v H3 r3 k3 => kq v H3 (r1.tr (r2.tr r3)) k3.now.l
    · have h1 : i ≠ 0 := fun z => by
        have := of_decide_eq_false h1
        exact this (by rw [z]; rfl)
      obtain rfl : i = 1 := by omega
      exact RB.nil (q_ret (v_join T (r1 := [d]) (r2 := [c]) T.m_Grower_knot (ne_names (by decide +kernel)) (ok_knot T) (hr.mono (by omega)) (v_name 0 rfl) (r2.g hg1) (p_limb T (R := .lf d) (v_name 1 rfl) (ha1.exm T r2.m)) (v_leaf (ch := c) T (hr.mono (by omega)) (v_name 0 rfl) (r2.g hg1) (v_name 3 rfl) hc) (by simp))
        fun v H3 r3 k3 => kq v H3 (r1.tr (r2.tr r3)) k3.now.l)
  | nd L R =>
    have e0 : (Tr.nd L R).row = L.row ++ R.row := rfl
    rw [e0, List.length_append] at hi hn h47
    rw [e0] at kq
    have lp := L.pos
    have rp := R.pos
    obtain ⟨k, hk⟩ : ∃ k, k + 1 = n := ⟨n - 1, by omega⟩
    have O := ih k hk
    have hrk : Room (k + 109) _ := hr.mono (by omega)
    have hne : ("put" : Str) ≠ "against" ∧ ("put" : Str) ≠ "given" ∧ ("put" : Str) ≠ "strips" := ne_names (by decide +kernel)
    have hnj : ("joined" : Str) ≠ "against" ∧ ("joined" : Str) ≠ "given" ∧ ("joined" : Str) ≠ "strips" := ne_names (by decide +kernel)
    obtain ⟨u, l, hu, hl, fu, fl⟩ := lf_up T (g := g) ha
    refine q_no (R := ExG K g t) ((t_isN (v_fld (v_name 1 rfl) fu)).is (by simp)) fun H1 r1 => q_set (R := ExG K g t) 4 (v_fld (v_fld (v_name 1 rfl) (fu.on r1)) (lf_many T (hu.exm T r1.m))) (fun H2 r2 => ?_) nd
    have hg2 := r2.g (r1.g hg)
    have fu2 := fu.on (r1.tr r2)
    have fl2 := fl.on (r1.tr r2)
    have hu2 := hu.exm T (r1.tr r2).m
    have hl2 := hl.exm T (r1.tr r2).m
    refine q_if (R := ExG K g t) (t_le (v_name 2 rfl) (v_name 4 rfl)) (fun h1 H3 r3 => ?_) (fun h1 H3 r3 => ?_)
    · have h1 : i ≤ L.row.length := by have := of_decide_eq_true h1; omega
      have hg3 := r3.g hg2
      refine q_ret (v_join T (r1 := L.row.take i ++ c :: L.row.drop i) (r2 := R.row) T.m_Grower_joined hnj (ok_joined T) (hr.mono (by omega)) (v_name 0 rfl) hg3
        (g_lim T T.m_Grower_put hne O hrk (v_name 0 rfl) hg3 (a_v (v_fld (v_name 1 rfl) (fu2.on r3)) (a_v (v_name 2 rfl) (a_1 (v_name 3 rfl)))) (by simp) fun vs H4 Q r4 hg4 k4 q => ?_) (p_limb T (v_fld (v_name 1 rfl) (fl2.on r3)) (hl2.exm T r3.m)) (by rw [List.length_append, List.length_cons, List.length_take, List.length_drop]; omega)) fun v H4 r4 k4 => kq v H4 (r1.tr (r2.tr (r3.tr r4))) ?_
      · subst k4
        exact ⟨g, t, u, L, c, i, rfl, hg4, hu2.exm T (r3.tr r4).m, hc, h1, by omega, by omega, q⟩
      · have := k4.now.l
        rw [List.take_append_of_le_length h1, List.drop_append_of_le_length h1]
        simp only [List.append_assoc, List.cons_append] at this ⊢
        exact this
    · have h1 : L.row.length < i := by have := of_decide_eq_false h1; omega
      have hg3 := r3.g hg2
      refine RB.nil (q_ret (v_join T (r1 := L.row) (r2 := R.row.take (i - L.row.length) ++ c :: R.row.drop (i - L.row.length)) T.m_Grower_joined hnj (ok_joined T) (hr.mono (by omega)) (v_name 0 rfl) hg3 (p_limb T (v_fld (v_name 1 rfl) (fu2.on r3)) (hu2.exm T r3.m))
        (g_lim T T.m_Grower_put hne O hrk (v_name 0 rfl) hg3 (a_v (v_fld (v_name 1 rfl) (fl2.on r3)) (a_v (v_sub (v_name 2 rfl) (v_name 4 rfl)) (a_1 (v_name 3 rfl)))) (by simp) fun vs H4 Q r4 hg4 k4 q => ?_) (by rw [List.length_append, List.length_cons, List.length_take, List.length_drop]; omega)) fun v H4 r4 k4 => kq v H4 (r1.tr (r2.tr (r3.tr r4))) ?_)
      · subst k4
        exact ⟨g, t, l, R, c, i - L.row.length, by rw [Int.ofNat_sub (by omega)], hg4, hl2.exm T (r3.tr r4).m, hc, by omega, by omega, by omega, q⟩
      · have := k4.now.l
        rw [List.take_append, List.take_of_length_le (by omega), List.drop_append, List.drop_of_length_le (by omega), List.nil_append, List.append_assoc]
        exact this
theorem ok_gput : ∀ n, Ok P w K mg base (n + 109) (He.fAd K ("Grower", some "put")) ["self", "limb", "place", "sign"] (spPut n K) := fun n => by
  induction n with
  | zero => exact ok_gput_of T 0 fun k h => by omega
  | succ n ih => exact ok_gput_of T (n + 1) fun k h => (Nat.succ.inj h) ▸ ih
theorem ok_gchange_of (n : Nat) (ih : ∀ k, k + 1 = n → Ok P w K mg base (k + 109) (He.fAd K ("Grower", some "change")) ["self", "limb", "place", "sign"] (spChange k K)) : Ok P w K mg base (n + 109) (He.fAd K ("Grower", some "change")) ["self", "limb", "place", "sign"] (spChange n K) := by
  refine ok_of (sp := spChange n K) T.d_Grower_change sc_gchange (fun _ _ _ _ _ _ us hl => match us, hl with | [_, _, _, _], _ => rfl) (fun vs H Q E h => by obtain ⟨_, _, _, _, _, _, rfl, _⟩ := h; rfl) (fun cdv A outer s0 H vs Q E hr h => ?_)
  obtain ⟨g, t, a, R, c, i, rfl, hg, ha, hc, hi, hn, h48, kq⟩ := h
  have nd := sc_gchange.nd
  cases R with
  | lf d =>
    obtain ⟨nu, pc, f, hp⟩ := ha
    have hi : i < 1 := hi
    obtain rfl : i = 0 := by omega
    refine q_yes (R := ExG K g t) ((t_isN (v_fld (v_name 1 rfl) (f.up T))).is (by simp)) fun H1 r1 => q_ret (v_leaf (ch := c) T (hr.mono (by omega)) (v_name 0 rfl) (r1.g hg) (v_name 3 rfl) hc) fun v H3 r3 k3 => kq v H3 (r1.tr r3) k3.now.l
  | nd L R =>
    have e0 : (Tr.nd L R).row = L.row ++ R.row := rfl
    rw [e0, List.length_append] at hi hn h48
    rw [e0] at kq
    have lp := L.pos
    have rp := R.pos
    obtain ⟨k, hk⟩ : ∃ k, k + 1 = n := ⟨n - 1, by omega⟩
    have O := ih k hk
    have hrk : Room (k + 109) _ := hr.mono (by omega)
    have hne : ("change" : Str) ≠ "against" ∧ ("change" : Str) ≠ "given" ∧ ("change" : Str) ≠ "strips" := ne_names (by decide +kernel)
    have hnj : ("knot" : Str) ≠ "against" ∧ ("knot" : Str) ≠ "given" ∧ ("knot" : Str) ≠ "strips" := ne_names (by decide +kernel)
    obtain ⟨u, l, hu, hl, fu, fl⟩ := lf_up T (g := g) ha
    refine q_no (R := ExG K g t) ((t_isN (v_fld (v_name 1 rfl) fu)).is (by simp)) fun H1 r1 => q_set (R := ExG K g t) 4 (v_fld (v_fld (v_name 1 rfl) (fu.on r1)) (lf_many T (hu.exm T r1.m))) (fun H2 r2 => ?_) nd
    have hg2 := r2.g (r1.g hg)
    have fu2 := fu.on (r1.tr r2)
    have fl2 := fl.on (r1.tr r2)
    have hu2 := hu.exm T (r1.tr r2).m
    have hl2 := hl.exm T (r1.tr r2).m
    refine q_if (R := ExG K g t) (t_lt (v_name 2 rfl) (v_name 4 rfl)) (fun h1 H3 r3 => ?_) (fun h1 H3 r3 => ?_)
    · have h1 : i < L.row.length := by have := of_decide_eq_true h1; omega
      have hg3 := r3.g hg2
      refine q_ret (v_join T (r1 := L.row.take i ++ c :: L.row.drop (i + 1)) (r2 := R.row) T.m_Grower_knot hnj (ok_knot T) (hr.mono (by omega)) (v_name 0 rfl) hg3
        (g_lim T T.m_Grower_change hne O hrk (v_name 0 rfl) hg3 (a_v (v_fld (v_name 1 rfl) (fu2.on r3)) (a_v (v_name 2 rfl) (a_1 (v_name 3 rfl)))) (by simp) fun vs H4 Q r4 hg4 k4 q => ?_) (p_limb T (v_fld (v_name 1 rfl) (fl2.on r3)) (hl2.exm T r3.m)) (by rw [List.length_append, List.length_cons, List.length_take, List.length_drop]; omega)) fun v H4 r4 k4 => kq v H4 (r1.tr (r2.tr (r3.tr r4))) ?_
      · subst k4
        exact ⟨g, t, u, L, c, i, rfl, hg4, hu2.exm T (r3.tr r4).m, hc, h1, by omega, by omega, q⟩
      · have := k4.now.l
        rw [List.take_append_of_le_length (by omega), List.drop_append_of_le_length (by omega)]
        simp only [List.append_assoc, List.cons_append] at this ⊢
        exact this
    · have h1 : L.row.length ≤ i := by have := of_decide_eq_false h1; omega
      have hg3 := r3.g hg2
      refine RB.nil (q_ret (v_join T (r1 := L.row) (r2 := R.row.take (i - L.row.length) ++ c :: R.row.drop (i - L.row.length + 1)) T.m_Grower_knot hnj (ok_knot T) (hr.mono (by omega)) (v_name 0 rfl) hg3 (p_limb T (v_fld (v_name 1 rfl) (fu2.on r3)) (hu2.exm T r3.m))
        (g_lim T T.m_Grower_change hne O hrk (v_name 0 rfl) hg3 (a_v (v_fld (v_name 1 rfl) (fl2.on r3)) (a_v (v_sub (v_name 2 rfl) (v_name 4 rfl)) (a_1 (v_name 3 rfl)))) (by simp) fun vs H4 Q r4 hg4 k4 q => ?_) (by rw [List.length_append, List.length_cons, List.length_take, List.length_drop]; omega)) fun v H4 r4 k4 => kq v H4 (r1.tr (r2.tr (r3.tr r4))) ?_)
      · subst k4
        exact ⟨g, t, l, R, c, i - L.row.length, by rw [Int.ofNat_sub (by omega)], hg4, hl2.exm T (r3.tr r4).m, hc, by omega, by omega, by omega, q⟩
      · have := k4.now.l
        rw [List.take_append, List.take_of_length_le (by omega), List.drop_append, List.drop_of_length_le (by omega), List.nil_append, List.append_assoc, show i + 1 - L.row.length = i - L.row.length + 1 by omega]
        exact this
theorem ok_gchange : ∀ n, Ok P w K mg base (n + 109) (He.fAd K ("Grower", some "change")) ["self", "limb", "place", "sign"] (spChange n K) := fun n => by
  induction n with
  | zero => exact ok_gchange_of T 0 fun k h => by omega
  | succ n ih => exact ok_gchange_of T (n + 1) fun k h => (Nat.succ.inj h) ▸ ih
end
end PT
namespace PT
open PySem PySem.Spec PyProof.Rows L2
local macro_rules | `(tactic| walk_at "lk") => `(tactic| (repeat (first | rw [L2.lookup_putF, if_pos rfl] | rw [L2.lookup_putF, if_neg (by decide +kernel)])) <;> first | rfl | assumption | done)
theorem IsL.exm {K : PySem.W.Frag} {mg : Str → Option Value} (T : Txt K mg) {t row : List Nat} {v : V} {H H' : Hp} (h : IsL K t row v H) (e : ExM K H H') : IsL K t row v H' := by
  rcases h with h | ⟨p, R, h1, h2, h3⟩
  · exact .inl h
  · exact .inr ⟨p, R, h1, h2, h3.exm T e⟩
section
variable {X : Cx} {σ : L2.St} {H : Hp} {o a b c e : Expr} {es : List Expr} {pos apos p' : Pos} (T : Txt X.K X.mg) {g : Addr} {t : List Nat}
include T
theorem g_limL {m : Str} {f : Addr} {k : Nat} {ps : List Str} {sp : Sp} {PB : List V → Hp → Prop} {row : List Nat} (hm : Meth X.K (He.ga X.K "Grower") m f) (hne : m ≠ "against" ∧ m ≠ "given" ∧ m ≠ "strips") (O : Ok X.prog X.w X.K X.mg X.base k f ps sp) (hr : Room k X.A) (ho : EvV X (ExG X.K g t) o σ H (.ref g)) (hg : GrAt X.K g t H) (ha : EvA X (ExG X.K g t) (e :: es) σ H PB)
    (hs : ∀ vs H1 Q, ExG X.K g t H H1 → GrAt X.K g t H1 → PB vs H1 → RetL X.K g t row H1 Q → sp (.ref g :: vs) H1 Q E0) {pl : Sem Bool}
    (hst : starEach (e :: es) X.env = (false, eval e X.env) :: starEach es X.env := by rfl) (hpl : (backTo pos (starEach es X.env)).any (·.1) = false := by rfl)
    (ht : eval (.Call (.Attribute o m apos) (e :: es) [] pos) X.env = (do
      let ov ← eval o X.env
      standAt apos.atName
      let (f, first) ← holding [ov] (getMethod ov m pl)
      callWith pos f first (backTo pos (starEach (e :: es) X.env)) (backToKw pos (keywordEach [] X.env))) := by rfl) : EvP X (ExG X.K g t) (.Call (.Attribute o m apos) (e :: es) [] pos) σ H (IsL X.K t row) :=
  g_meth T.k_Grower hm O hr ho (hg.ins T hne) ha (fun vs H1 r1 k1 Q q => hs vs H1 Q r1 (r1.g hg) k1.now fun v H2 r2 h2 => q v H2 r2 fun H3 r3 => h2.exm T r3.m) hst hpl ht
end
/-! ### the rows of a tree -/
def IsRows (k : Nat) (v : V) (H : Hp) : Prop := ∃ q xs, v = .ref q ∧ H q = some (.lst xs) ∧ xs.length ≤ k ∧ ∀ v ∈ xs, ∃ u tl, ∃ m : Int, v = .ref u ∧ H u = some (.tup (.int m :: tl))
theorem IsRows.ex {k : Nat} {v : V} {H H' : Hp} (h : IsRows k v H) (e : Ex H H') : IsRows k v H' := by
  obtain ⟨q, xs, h1, h2, h3, h4⟩ := h
  exact ⟨q, xs, h1, e _ _ h2, h3, fun v hv => by obtain ⟨u, tl, m, h5, h6⟩ := h4 v hv; exact ⟨u, tl, m, h5, e _ _ h6⟩⟩
theorem p_rcat {X : Cx} {σ : L2.St} {H : Hp} {a b : Expr} {pos : Pos} {k l : Nat} (ha : EvP X Ex a σ H (IsRows k)) (hb : EvP X Ex b σ H (IsRows l)) (hz : k + l ≤ 1000) : EvP X Ex (.BinOp a .Add b pos) σ H (IsRows (k + l)) :=
  g_opP op_cat ha hb fun x y H1 r1 k1 k2 Q q => by
    obtain ⟨p, xs, rfl, h1, h2, h3⟩ := k1.now
    obtain ⟨p', ys, rfl, h4, h5, h6⟩ := k2.now
    refine ⟨p, p', xs, ys, rfl, rfl, h1, h4, small_line (by omega), fun d hd => q (.ref d) _ (Ex.nw hd) fun H2 r2 => ⟨d, xs ++ ys, rfl, r2 _ _ upd_same, by rw [List.length_append]; omega, fun v hv => ?_⟩⟩
    rcases List.mem_append.mp hv with hv | hv
    · obtain ⟨u, tl, m, h7, h8⟩ := h3 v hv
      exact ⟨u, tl, m, h7, r2 _ _ (Ex.nw hd _ _ h8)⟩
    · obtain ⟨u, tl, m, h7, h8⟩ := h6 v hv
      exact ⟨u, tl, m, h7, r2 _ _ (Ex.nw hd _ _ h8)⟩
/-- a row of the rows -/
def IsRow1 (v : V) (H : Hp) : Prop := ∃ u tl, ∃ m : Int, v = .ref u ∧ H u = some (.tup (.int m :: tl))
theorem IsRow1.ex {v : V} {H H' : Hp} (h : IsRow1 v H) (e : Ex H H') : IsRow1 v H' := by
  obtain ⟨u, tl, m, h1, h2⟩ := h
  exact ⟨u, tl, m, h1, e _ _ h2⟩
theorem p_row1 {X : Cx} {σ : L2.St} {H : Hp} {es : List Expr} {pos : Pos} {k} {m : Int} {vs : List V} (h : EvA X Ex es σ H (fun ws _ => ws = .int m :: vs)) (hl : vs.length ≤ 10) : EvP X Ex (.Tuple es k pos) σ H IsRow1 :=
  (p_tup h fun ws _ e => by rw [e, List.length_cons]; exact small_line (by omega)).imp fun v H1 r1 kp => kp.imp fun H2 r2 ⟨p, ws, h1, h2, h3⟩ => ⟨p, vs, m, h1, by rw [h2, h3]⟩
theorem p_rows1 {X : Cx} {σ : L2.St} {H : Hp} {e : Expr} {pos : Pos} (h : EvP X Ex e σ H IsRow1) (hs : starEach [e] X.env = (false, eval e X.env) :: starEach [] X.env := by rfl) : EvP X Ex (.List [e] pos) σ H (IsRows 1) :=
  (p_lst (a_p h (a_nil (PA := fun ws _ => ws = [])) hs) fun ws _ ⟨v, r, e1, _, e2⟩ => by rw [e1, e2]; show 1 ≤ sizeLine; decide).imp fun v H1 r1 kp => kp.imp fun H2 r2 ⟨p, ws, h1, h2, v, r, e1, h3, e2⟩ => ⟨p, [v], h1, by rw [h2, e1, e2], Nat.le_refl 1, fun x hx => by rw [List.mem_singleton.mp hx]; exact h3⟩
/-- a new dict -/
abbrev KD (R : Hp → Hp → Prop) : Hp → VK → Prop := fun H1 Q => ∀ p H2, H1 p = none → R H1 H2 → H2 p = some (.dK []) → Q (.ref p) H2
theorem n_dnew {X : Cx} {σ : L2.St} {H : Hp} {pos : Pos} : EvG X Ex (.Dict [] [] pos) σ H (KD Ex) := fun H1 r1 Q q => RE.of pe_dnewK fun p hp => q p _ hp (Ex.nw hp) upd_same
theorem kD_mono {R : Hp → Hp → Prop} {H : Hp} {Q Q' : VK} (h : ∀ v H, Q v H → Q' v H) (k : KD R H Q) : KD R H Q' := fun p H2 n r hp => h _ _ (k p H2 n r hp)
def spRows (n : Nat) (K : PySem.W.Frag) : Sp := fun vs H Q _ => ∃ p t R, ∃ i : Int, vs = [.ref p, .int i] ∧ LimbAt K t R p H ∧ R.row.length ≤ n ∧ R.row.length ≤ 48 ∧ ∀ v H', Ex H H' → IsRows (2 * R.row.length - 1) v H' → Q v H'
section
variable {P : Program} {w : World} {K : PySem.W.Frag} {mg : Str → Option Value} {base : Heap} (T : Txt K mg)
include T
theorem ok_rows_of (n : Nat) (ih : ∀ k, k + 1 = n → Ok P w K mg base (k + 2) (He.fAd K ("Limb", some "rows_from")) ["self", "first"] (spRows k K)) : Ok P w K mg base (n + 2) (He.fAd K ("Limb", some "rows_from")) ["self", "first"] (spRows n K) := by
  refine ok_of (sp := spRows n K) T.d_Limb_rows_from sc_rows_from (fun _ _ _ _ _ _ us hl => match us, hl with | [_, _], _ => rfl) (fun vs H Q E h => by obtain ⟨_, _, _, _, rfl, _⟩ := h; rfl) (fun cdv A outer s0 H vs Q E hr h => ?_)
  obtain ⟨p, t, R, i, rfl, hp, hn, h48, kq⟩ := h
  have nd := sc_rows_from.nd
  obtain ⟨nu, pc, u, l, f, hpc⟩ := hp.any
  refine q_set (R := Ex) 2 (v_add (v_name 1 rfl) (v_fld (v_name 0 rfl) (f.many T))) (fun H1 r1 => ?_) nd
  cases R with
  | lf c =>
    obtain ⟨nu, pc, f, hpc⟩ := hp
    refine q_yes (R := Ex) ((t_isN (v_fld (v_name 0 rfl) ((f.up T).on r1))).is (by simp)) fun H2 r2 => q_ret (p_rows1 (p_row1 (a_v (v_fld (v_name 0 rfl) ((f.num T).on (r1.tr r2))) (a_v (v_name 1 rfl) (a_v (v_name 2 rfl) (a_v v_non (a_1 v_non))))) (by simp))) fun v H3 r3 k3 => kq v H3 (r1.tr (r2.tr r3)) ?_
    obtain ⟨q, xs, h1, h2, h3, h4⟩ := k3.now
    exact ⟨q, xs, h1, h2, h3, h4⟩
  | nd L R =>
    have e0 : (Tr.nd L R).row = L.row ++ R.row := rfl
    rw [e0, List.length_append] at hn h48
    rw [e0, List.length_append] at kq
    have lp := L.pos
    have rp := R.pos
    obtain ⟨k, hk⟩ : ∃ k, k + 1 = n := ⟨n - 1, by omega⟩
    have O := ih k hk
    have hrk : Room (k + 2) _ := hr.mono (by omega)
    obtain ⟨nu, pc, a, b, f, hpc, ha, hb⟩ := hp
    obtain ⟨_, _, _, _, fa, _⟩ := ha.any
    obtain ⟨_, _, _, _, fb, _⟩ := hb.any
    refine q_no (R := Ex) ((t_isN (v_fld (v_name 0 rfl) ((f.up T).on r1))).is (by simp)) fun H2 r2 => q_set (R := Ex) 3 (p_row1 (a_v (v_fld (v_name 0 rfl) ((f.num T).on (r1.tr r2))) (a_v (v_name 1 rfl) (a_v (v_name 2 rfl) (a_v (v_fld (v_fld (v_name 0 rfl) ((f.up T).on (r1.tr r2))) ((fa.num T).on (r1.tr r2))) (a_1 (v_fld (v_fld (v_name 0 rfl) ((f.lo T).on (r1.tr r2))) ((fb.num T).on (r1.tr r2)))))))) (by simp)) (fun v H3 r3 k3 => ?_) nd
    have e3 : Ex H H3 := r1.tr (r2.tr r3)
    have ha3 := ha.exm T (.of e3)
    have hb3 := hb.exm T (.of e3)
    refine q_ret (p_rcat (p_rcat (p_rows1 ((v_name 3 rfl).p (P := IsRow1) k3)) (k := 1) (l := 2 * L.row.length - 1) (g_meth T.k_Limb T.m_Limb_rows_from O hrk (v_fld (v_name 0 rfl) ((f.up T).on e3)) ((fa.ins T).on e3) (a_1 (v_name 1 rfl)) fun vs H4 r4 k4 Q q => ?_) (by omega))
      (l := 2 * R.row.length - 1) (g_meth T.k_Limb T.m_Limb_rows_from O hrk (v_fld (v_name 0 rfl) ((f.lo T).on e3)) ((fb.ins T).on e3) (a_1 (v_add (v_name 1 rfl) (v_fld (v_fld (v_name 0 rfl) ((f.up T).on e3)) ((fa.many T).on e3)))) fun vs H4 r4 k4 Q q => ?_) (by omega)) fun v' H4 r4 k4 => kq v' H4 (e3.tr r4) ?_
    · obtain rfl := k4.now
      exact ⟨a, t, L, _, rfl, ha3.exm T (.of r4), by omega, by omega, fun v H5 r5 h5 => q v H5 r5 fun H6 r6 => h5.ex r6⟩
    · obtain rfl := k4.now
      exact ⟨b, t, R, _, rfl, hb3.exm T (.of r4), by omega, by omega, fun v H5 r5 h5 => q v H5 r5 fun H6 r6 => h5.ex r6⟩
    · obtain ⟨q, xs, h1, h2, h3, h4⟩ := k4.now
      exact ⟨q, xs, h1, h2, by omega, h4⟩
theorem ok_rows : ∀ n, Ok P w K mg base (n + 2) (He.fAd K ("Limb", some "rows_from")) ["self", "first"] (spRows n K) := fun n => by
  induction n with
  | zero => exact ok_rows_of T 0 fun k h => by omega
  | succ n ih => exact ok_rows_of T (n + 1) fun k h => (Nat.succ.inj h) ▸ ih
theorem ok_gdrop_of (n : Nat) (ih : ∀ k, k + 1 = n → Ok P w K mg base (k + 109) (He.fAd K ("Grower", some "drop")) ["self", "limb", "place"] (spDrop k K)) : Ok P w K mg base (n + 109) (He.fAd K ("Grower", some "drop")) ["self", "limb", "place"] (spDrop n K) := by
  refine ok_of (sp := spDrop n K) T.d_Grower_drop sc_gdrop (fun _ _ _ _ _ _ us hl => match us, hl with | [_, _, _], _ => rfl) (fun vs H Q E h => by obtain ⟨_, _, _, _, _, rfl, _⟩ := h; rfl) (fun cdv A outer s0 H vs Q E hr h => ?_)
  obtain ⟨g, t, a, R, i, rfl, hg, ha, hi, hn, h48, kq⟩ := h
  have nd := sc_gdrop.nd
  cases R with
  | lf d =>
    obtain ⟨nu, pc, f, hp⟩ := ha
    have hi : i < 1 := hi
    obtain rfl : i = 0 := by omega
    exact q_yes (R := ExG K g t) ((t_isN (v_fld (v_name 1 rfl) (f.up T))).is (by simp)) fun H1 r1 => q_ret (R := ExG K g t) v_non fun H2 r2 => kq .non H2 (r1.tr r2) (.inl ⟨rfl, rfl⟩)
  | nd L R =>
    have e0 : (Tr.nd L R).row = L.row ++ R.row := rfl
    rw [e0, List.length_append] at hi hn h48
    rw [e0] at kq
    have lp := L.pos
    have rp := R.pos
    obtain ⟨k, hk⟩ : ∃ k, k + 1 = n := ⟨n - 1, by omega⟩
    have O := ih k hk
    have hrk : Room (k + 109) _ := hr.mono (by omega)
    have hne : ("drop" : Str) ≠ "against" ∧ ("drop" : Str) ≠ "given" ∧ ("drop" : Str) ≠ "strips" := ne_names (by decide +kernel)
    have hnj : ("joined" : Str) ≠ "against" ∧ ("joined" : Str) ≠ "given" ∧ ("joined" : Str) ≠ "strips" := ne_names (by decide +kernel)
    obtain ⟨u, l, hu, hl, fu, fl⟩ := lf_up T (g := g) ha
    refine q_no (R := ExG K g t) ((t_isN (v_fld (v_name 1 rfl) fu)).is (by simp)) fun H1 r1 => q_set (R := ExG K g t) 3 (v_fld (v_fld (v_name 1 rfl) (fu.on r1)) (lf_many T (hu.exm T r1.m))) (fun H2 r2 => ?_) nd
    have hg2 := r2.g (r1.g hg)
    have fu2 := fu.on (r1.tr r2)
    have fl2 := fl.on (r1.tr r2)
    have hu2 := hu.exm T (r1.tr r2).m
    have hl2 := hl.exm T (r1.tr r2).m
    refine q_if (R := ExG K g t) (t_lt (v_name 2 rfl) (v_name 3 rfl)) (fun h1 H3 r3 => ?_) (fun h1 H3 r3 => ?_)
    · have h1 : i < L.row.length := by have := of_decide_eq_true h1; omega
      have hg3 := r3.g hg2
      refine q_set (R := ExG K g t) 4 (g_limL (row := L.row.take i ++ L.row.drop (i + 1)) T T.m_Grower_drop hne O hrk (v_name 0 rfl) hg3 (a_v (v_fld (v_name 1 rfl) (fu2.on r3)) (a_1 (v_name 2 rfl))) fun vs H4 Q r4 hg4 k4 q => ?_) (fun v H4 r4 k4 => ?_) nd
      · subst k4
        exact ⟨g, t, u, L, i, rfl, hg4, hu2.exm T (r3.tr r4).m, h1, by omega, by omega, q⟩
      have e : (L.row ++ R.row).take i ++ (L.row ++ R.row).drop (i + 1) = (L.row.take i ++ L.row.drop (i + 1)) ++ R.row := by
        rw [List.take_append_of_le_length (by omega), List.drop_append_of_le_length (by omega), List.append_assoc]
      rw [e] at kq
      rcases k4.now with ⟨h2, rfl⟩ | ⟨p, R', rfl, h2, h3⟩
      · refine q_yes (R := ExG K g t) ((t_isN (v_name 4 rfl)).is (by simp)) fun H5 r5 => q_ret (R := ExG K g t) (p_limb T (v_fld (v_name 1 rfl) (fl2.on (r3.tr (r4.tr r5)))) (hl2.exm T (r3.tr (r4.tr r5)).m)) fun v H6 r6 k6 => kq v H6 (r1.tr (r2.tr (r3.tr (r4.tr (r5.tr r6))))) ?_
        rw [h2]
        exact k6.now.l
      · refine q_no (R := ExG K g t) ((t_isN (v_name 4 rfl)).is (by simp)) fun H5 r5 => q_ret (R := ExG K g t) (v_join T (r1 := R'.row) (r2 := R.row) T.m_Grower_joined hnj (ok_joined T) (hr.mono (by omega)) (v_name 0 rfl) (r5.g (r4.g hg3)) (p_limb T (v_name 4 rfl) (h3.exm T r5.m)) (p_limb T (v_fld (v_name 1 rfl) (fl2.on (r3.tr (r4.tr r5)))) (hl2.exm T (r3.tr (r4.tr r5)).m))
          (by rw [h2, List.length_append, List.length_take, List.length_drop]; omega)) fun v H6 r6 k6 => kq v H6 (r1.tr (r2.tr (r3.tr (r4.tr (r5.tr r6))))) ?_
        rw [← h2]
        exact k6.now.l
    · have h1 : L.row.length ≤ i := by have := of_decide_eq_false h1; omega
      have hg3 := r3.g hg2
      refine RB.nil (q_set (R := ExG K g t) 4 (g_limL (row := R.row.take (i - L.row.length) ++ R.row.drop (i - L.row.length + 1)) T T.m_Grower_drop hne O hrk (v_name 0 rfl) hg3 (a_v (v_fld (v_name 1 rfl) (fl2.on r3)) (a_1 (v_sub (v_name 2 rfl) (v_name 3 rfl)))) fun vs H4 Q r4 hg4 k4 q => ?_) (fun v H4 r4 k4 => ?_) nd)
      · subst k4
        exact ⟨g, t, l, R, i - L.row.length, by rw [Int.ofNat_sub (by omega)], hg4, hl2.exm T (r3.tr r4).m, by omega, by omega, by omega, q⟩
      have e : (L.row ++ R.row).take i ++ (L.row ++ R.row).drop (i + 1) = L.row ++ (R.row.take (i - L.row.length) ++ R.row.drop (i - L.row.length + 1)) := by
        rw [List.take_append, List.take_of_length_le (by omega), List.drop_append, List.drop_of_length_le (by omega), List.nil_append, List.append_assoc, show i + 1 - L.row.length = i - L.row.length + 1 by omega]
      rw [e] at kq
      rcases k4.now with ⟨h2, rfl⟩ | ⟨p, R', rfl, h2, h3⟩
      · refine q_yes (R := ExG K g t) ((t_isN (v_name 4 rfl)).is (by simp)) fun H5 r5 => q_ret (R := ExG K g t) (p_limb T (v_fld (v_name 1 rfl) (fu2.on (r3.tr (r4.tr r5)))) (hu2.exm T (r3.tr (r4.tr r5)).m)) fun v H6 r6 k6 => kq v H6 (r1.tr (r2.tr (r3.tr (r4.tr (r5.tr r6))))) ?_
        rw [h2, List.append_nil]
        exact k6.now.l
      · refine q_no (R := ExG K g t) ((t_isN (v_name 4 rfl)).is (by simp)) fun H5 r5 => q_ret (R := ExG K g t) (v_join T (r1 := L.row) (r2 := R'.row) T.m_Grower_joined hnj (ok_joined T) (hr.mono (by omega)) (v_name 0 rfl) (r5.g (r4.g hg3)) (p_limb T (v_fld (v_name 1 rfl) (fu2.on (r3.tr (r4.tr r5)))) (hu2.exm T (r3.tr (r4.tr r5)).m)) (p_limb T (v_name 4 rfl) (h3.exm T r5.m))
          (by rw [h2, List.length_append, List.length_take, List.length_drop]; omega)) fun v H6 r6 k6 => kq v H6 (r1.tr (r2.tr (r3.tr (r4.tr (r5.tr r6))))) ?_
        rw [← h2]
        exact k6.now.l
theorem ok_gdrop : ∀ n, Ok P w K mg base (n + 109) (He.fAd K ("Grower", some "drop")) ["self", "limb", "place"] (spDrop n K) := fun n => by
  induction n with
  | zero => exact ok_gdrop_of T 0 fun k h => by omega
  | succ n ih => exact ok_gdrop_of T (n + 1) fun k h => (Nat.succ.inj h) ▸ ih
end
/-! ### a new grower -/
def spGInit (K : PySem.W.Frag) : Sp := fun vs H Q _ => ∃ x dx t, ∃ n : Int, vs = [.ref x, .str (mkS t), .int n] ∧ H x = some (.ins (He.ga K "Grower") dx []) ∧ rowOk t ∧ ∀ H', Kx x H H' → GrAt K x t H' → Q .non H'
theorem sc_ginit : FnScope ["self", "against", "given"] ["self", "against", "given"] (defScope (inClass (top 61) 0)) := ⟨rfl, rfl, rfl, by decide +kernel, rfl, by decide +kernel, by decide +kernel⟩
section
variable {P : Program} {w : World} {K : PySem.W.Frag} {mg : Str → Option Value} {base : Heap} (T : Txt K mg)
include T
theorem ok_ginit : Ok P w K mg base 1 (He.fAd K ("Grower", some "__init__")) ["self", "against", "given"] (spGInit K) := by
  refine ok_of T.d_Grower___init__ sc_ginit (fun _ _ _ _ _ _ us hl => match us, hl with | [_, _, _], _ => rfl) (fun vs H Q E h => by obtain ⟨_, _, _, _, rfl, _⟩ := h; rfl) (fun cdv A outer s0 H vs Q E hr h => ?_)
  obtain ⟨x, dx, t, n, rfl, hx, ht, kq⟩ := h
  refine q_fld (R := Ex) (v_name 1 rfl) (fun H1 r1 => ⟨x, He.ga K "Grower", dx, [], x_name 0 rfl, r1 _ _ hx, T.k_Grower, T.n_Grower_against, by decide, ?_⟩) kV_mono
  have e1 : Kx x H (upd H1 x (.ins (He.ga K "Grower") dx (putF "against" (.str (mkS t)) []))) := (Kx.of r1).set
  refine q_fld (R := Ex) (v_name 2 rfl) (fun H2 r2 => ⟨x, He.ga K "Grower", dx, _, x_name 0 rfl, r2 _ _ upd_same, T.k_Grower, T.n_Grower_given, Nat.lt_of_le_of_lt (length_putF _ _ _) (by decide), ?_⟩) kV_mono
  have e2 := (e1.ex r2).set (o := .ins (He.ga K "Grower") dx (putF "given" (.int n) (putF "against" (.str (mkS t)) [])))
  refine q_fld (R := Ex) n_dnew (fun sd H3 nsd r3 hsd => ⟨x, He.ga K "Grower", dx, _, x_name 0 rfl, r3 _ _ upd_same, T.k_Grower, T.n_Grower_strips, ?_, ?_⟩) kD_mono
  · exact Nat.lt_of_le_of_lt (Nat.le_trans (length_putF _ _ _) (Nat.succ_le_succ (length_putF _ _ _))) (by decide)
  have sx : sd ≠ x := fun e => by rw [e, upd_same] at nsd; cases nsd
  refine RB.nil (kq _ ((e2.ex r3).set) ⟨n, dx, sd, _, [], upd_same, by walk_at "lk", by walk_at "lk", by walk_at "lk", fun f h1 h2 h3 => ?_, Nat.le_trans (length_putF _ _ _) (Nat.succ_le_succ (Nat.le_trans (length_putF _ _ _) (Nat.succ_le_succ (length_putF _ _ _)))), by rw [upd_ne sx]; exact hsd, ⟨[], rfl, by simp, fun c hc => absurd hc (by simp)⟩, fun c v h => (by cases h), ht⟩)
  rw [lookup_putF, if_neg h3, lookup_putF, if_neg h2, lookup_putF, if_neg h1]
  rfl
end
end PT
namespace PT
open PySem PySem.Spec PyProof.Rows L2
local macro_rules | `(tactic| walk_at "lk") => `(tactic| (repeat (first | rw [L2.lookup_putF, if_pos rfl] | rw [L2.lookup_putF, if_neg (by decide +kernel)])) <;> first | rfl | assumption | done)
/-! ### kept rows -/
def NoF (fs : List (Str × V)) : Prop := ∀ f : Str, f ≠ "grower" → f ≠ "root" → f ≠ "fresh" → fs.lookup f = none
section
variable {K : PySem.W.Frag} {x C dx : Addr} {fs : List (Str × V)} {H H' : Hp} (k : Kx x H H') (hx : H x = some (.ins C dx fs)) (nf : NoF fs)
include k hx nf
theorem PcK.kf {p : Addr} {s t : List Nat} (a : PcK K p s t H) : PcK K p s t H' := a.kx k (fun e => by
  obtain ⟨c, d, kn, lv, gs, a⟩ := a
  have h1 := a.at_
  rw [e, hx] at h1
  obtain ⟨_, _, rfl⟩ := HO.ins.inj (Option.some.inj h1)
  have h2 := a.l1
  rw [nf "left_edge" (by decide +kernel) (by decide +kernel) (by decide +kernel)] at h2
  cases h2) fun xs e => by rw [hx] at e; cases e
theorem LimbAt.kf {t : List Nat} : ∀ {R : Tr} {p : Addr}, LimbAt K t R p H → LimbAt K t R p H' := by
  have one : ∀ {p nu pc u l m h}, LF K p nu pc u l m h H → LF K p nu pc u l m h H' := fun {p nu pc u l m h} ⟨d, gs, a⟩ => by
    refine ⟨d, gs, k _ _ a.at_ fun e => ?_, a.f1, a.f2, a.f3, a.f4, a.f5, a.f6, a.nm⟩
    have h1 := a.at_
    rw [e, hx] at h1
    obtain ⟨_, _, rfl⟩ := HO.ins.inj (Option.some.inj h1)
    have h2 := a.f1
    rw [nf "number" (by decide +kernel) (by decide +kernel) (by decide +kernel)] at h2
    cases h2
  intro R
  induction R with
  | lf c => exact fun {p} ⟨nu, pc, h1, h2⟩ => ⟨nu, pc, one h1, h2.kf k hx nf⟩
  | nd l r i1 i2 => exact fun {p} ⟨nu, pc, a, b, h1, h2, h3, h4⟩ => ⟨nu, pc, a, b, one h1, h2.kf k hx nf, i1 h3, i2 h4⟩
theorem IsL.kf {t row : List Nat} {v : V} (h : IsL K t row v H) : IsL K t row v H' := by
  rcases h with h | ⟨p, R, h1, h2, h3⟩
  · exact .inl h
  · exact .inr ⟨p, R, h1, h2, h3.kf k hx nf⟩
theorem GrAt.kf {g : Addr} {t : List Nat} (a : GrAt K g t H) : GrAt K g t H' := by
  obtain ⟨n, d, sd, gs, kvs, a⟩ := a
  have n1 : g ≠ x := fun e => by
    have h1 := a.at_
    rw [e, hx] at h1
    obtain ⟨_, _, rfl⟩ := HO.ins.inj (Option.some.inj h1)
    have h2 := a.f1
    rw [nf "against" (by decide +kernel) (by decide +kernel) (by decide +kernel)] at h2
    cases h2
  have n2 : sd ≠ x := ne_of a.ds hx (by intro z; cases z)
  exact ⟨n, d, sd, gs, kvs, k _ _ a.at_ n1, a.f1, a.f2, a.f3, a.nm, a.fl, k _ _ a.ds n2, a.ks, fun c v h => by obtain ⟨p, h1, h2⟩ := a.di c v h; exact ⟨p, h1, h2.kf k hx nf⟩, a.rk⟩
end
/-- the fields of a kept row -/
structure KFs (K : PySem.W.Frag) (x dx g : Addr) (rt : V) (fs : List (Str × V)) (H : Hp) : Prop where
  at_ : H x = some (.ins (He.ga K "Kept") dx fs)
  f1 : fs.lookup ("grower" : Str) = some (.ref g)
  f2 : fs.lookup ("root" : Str) = some rt
  nm : NoF fs
  fl : (∃ fr, fs.lookup ("fresh" : Str) = some fr ∧ fs.length ≤ 3) ∨ fs.length ≤ 2
def KeptAt (K : PySem.W.Frag) (x : Addr) (s t : List Nat) (H : Hp) : Prop := ∃ dx g rt fs, KFs K x dx g rt fs H ∧ GrAt K g t H ∧ IsL K t s rt H ∧ rowOk s
/-- all but x, dicts and growers stays -/
def KX (K : PySem.W.Frag) (x : Addr) (H H' : Hp) : Prop := ∀ a o, H a = some o → ¬ MG K o → a ≠ x → H' a = some o
section
variable {K : PySem.W.Frag} {x : Addr} {H H1 H2 : Hp}
theorem KX.rf : KX K x H H := fun _ _ h _ _ => h
theorem KX.tr (a : KX K x H H1) (b : KX K x H1 H2) : KX K x H H2 := fun p o h n e => b p o (a p o h n e) n e
theorem KX.of (e : Ex H H1) : KX K x H H1 := fun p o h _ _ => e p o h
theorem KX.m (e : ExM K H H1) : KX K x H H1 := fun p o h n _ => e.kp p o h n
theorem KX.k (e : Kx x H H1) : KX K x H H1 := fun p o h _ n => e p o h n
theorem KFs.ex {dx g : Addr} {rt : V} {fs : List (Str × V)} (a : KFs K x dx g rt fs H) (e : Ex H H1) : KFs K x dx g rt fs H1 := ⟨e _ _ a.at_, a.f1, a.f2, a.nm, a.fl⟩
theorem KFs.exm {mg : Str → Option Value} (T : Txt K mg) {dx g : Addr} {rt : V} {fs : List (Str × V)} (a : KFs K x dx g rt fs H) (e : ExM K H H1) : KFs K x dx g rt fs H1 := ⟨e.kp _ _ a.at_ (by
  rintro (⟨_, z⟩ | ⟨_, _, z⟩)
  · cases z
  · have z := (HO.ins.inj z).1
    have h1 := T.m_Grower_leaf.at_
    rw [← z, show PySem.W.findIn K (.ref (He.ga K "Kept")) "leaf" = some none from T.n_Kept_leaf] at h1
    cases h1), a.f1, a.f2, a.nm, a.fl⟩
theorem NoF.put {fs : List (Str × V)} {f : Str} {v : V} (n : NoF fs) (h : f = "grower" ∨ f = "root" ∨ f = "fresh") : NoF (putF f v fs) := fun f' h1 h2 h3 => by
  rw [lookup_putF, if_neg (by rcases h with rfl | rfl | rfl <;> assumption)]
  exact n f' h1 h2 h3
theorem KFs.few {dx g : Addr} {rt : V} {fs : List (Str × V)} (a : KFs K x dx g rt fs H) : fs.length < 1000 := by
  rcases a.fl with ⟨_, _, h⟩ | h <;> omega
/-- another root -/
theorem KFs.root {dx g : Addr} {rt : V} {fs : List (Str × V)} (a : KFs K x dx g rt fs H) (v : V) : KFs K x dx g v (putF "root" v fs) (upd H x (.ins (He.ga K "Kept") dx (putF "root" v fs))) :=
  ⟨upd_same, by rw [lookup_putF, if_neg (by decide +kernel)]; exact a.f1, by rw [lookup_putF, if_pos rfl], a.nm.put (.inr (.inl rfl)), by
    rw [putF_old a.f2, lookup_putF, if_neg (by decide +kernel)]
    exact a.fl⟩
theorem KFs.grow {dx g : Addr} {rt : V} {fs : List (Str × V)} (a : KFs K x dx g rt fs H) (g' : Addr) : KFs K x dx g' rt (putF "grower" (.ref g') fs) (upd H x (.ins (He.ga K "Kept") dx (putF "grower" (.ref g') fs))) :=
  ⟨upd_same, by rw [lookup_putF, if_pos rfl], by rw [lookup_putF, if_neg (by decide +kernel)]; exact a.f2, a.nm.put (.inl rfl), by
    rw [putF_old a.f1, lookup_putF, if_neg (by decide +kernel)]
    exact a.fl⟩
theorem KFs.fresh {dx g : Addr} {rt : V} {fs : List (Str × V)} (a : KFs K x dx g rt fs H) (v : V) : KFs K x dx g rt (putF "fresh" v fs) (upd H x (.ins (He.ga K "Kept") dx (putF "fresh" v fs))) :=
  ⟨upd_same, by rw [lookup_putF, if_neg (by decide +kernel)]; exact a.f1, by rw [lookup_putF, if_neg (by decide +kernel)]; exact a.f2, a.nm.put (.inr (.inr rfl)), .inl ⟨v, by rw [lookup_putF, if_pos rfl], by
    rcases a.fl with ⟨fr, h1, h2⟩ | h
    · rw [putF_old h1]; exact h2
    · exact Nat.le_trans (length_putF _ _ _) (by omega)⟩⟩
theorem KeptAt.ex {s t : List Nat} (a : KeptAt K x s t H) {mg : Str → Option Value} (T : Txt K mg) (e : Ex H H1) : KeptAt K x s t H1 := by
  obtain ⟨dx, g, rt, fs, f, hg, hl, hs⟩ := a
  exact ⟨dx, g, rt, fs, f.ex e, hg.ex e, hl.exm T (.of e), hs⟩
end
/-! ### its reading methods -/
theorem sc_kside : FnScope ["self"] ["self"] (defScope (inClass (top 67) 1)) := ⟨rfl, rfl, rfl, by decide +kernel, rfl, by decide +kernel, by decide +kernel⟩
theorem sc_ktop : FnScope ["self"] ["self"] (defScope (inClass (top 67) 2)) := ⟨rfl, rfl, rfl, by decide +kernel, rfl, by decide +kernel, by decide +kernel⟩
theorem sc_klines : FnScope ["self"] ["self"] (defScope (inClass (top 67) 3)) := ⟨rfl, rfl, rfl, by decide +kernel, rfl, by decide +kernel, by decide +kernel⟩
theorem sc_kpieces : FnScope ["self"] ["self"] (defScope (inClass (top 67) 6)) := ⟨rfl, rfl, rfl, by decide +kernel, rfl, by decide +kernel, by decide +kernel⟩
def spKSide (K : PySem.W.Frag) : Sp := fun vs H Q _ => ∃ x s t, vs = [.ref x] ∧ KeptAt K x s t H ∧ Ret (.str (mkS s)) H Q
def spKTop (K : PySem.W.Frag) : Sp := fun vs H Q _ => ∃ x s t, vs = [.ref x] ∧ KeptAt K x s t H ∧ Ret (.str (mkS t)) H Q
def spKLines (K : PySem.W.Frag) : Sp := fun vs H Q _ => ∃ x s t, vs = [.ref x] ∧ KeptAt K x s t H ∧ RetN (vL (s.length + t.length) (LN s t)) H Q
def spKPieces (K : PySem.W.Frag) : Sp := fun vs H Q _ => ∃ x s t, vs = [.ref x] ∧ KeptAt K x s t H ∧ ∀ v H', Ex H H' → IsRows 96 v H' → Q v H'
section
variable {K : PySem.W.Frag} {mg : Str → Option Value} (T : Txt K mg) {x dx g : Addr} {rt : V} {fs : List (Str × V)} {H : Hp}
include T
theorem KFs.rtf (a : KFs K x dx g rt fs H) : Kp Ex H (Fld K x "root" rt) := Fld.ex ⟨_, dx, fs, a.at_, T.k_Kept, T.n_Kept_root, a.f2⟩
theorem KFs.gr (a : KFs K x dx g rt fs H) : Kp Ex H (Fld K x "grower" (.ref g)) := Fld.ex ⟨_, dx, fs, a.at_, T.k_Kept, T.n_Kept_grower, a.f1⟩
theorem GrAt.ag {t : List Nat} (a : GrAt K g t H) : Kp Ex H (Fld K g "against" (.str (mkS t))) := by
  obtain ⟨n, d, sd, gs, kvs, a⟩ := a
  exact Fld.ex ⟨_, d, gs, a.at_, T.k_Grower, T.n_Grower_against, a.f1⟩
theorem GrAt.gv {t : List Nat} (a : GrAt K g t H) : ∃ n : Int, Kp Ex H (Fld K g "given" (.int n)) := by
  obtain ⟨n, d, sd, gs, kvs, a⟩ := a
  exact ⟨n, Fld.ex ⟨_, d, gs, a.at_, T.k_Grower, T.n_Grower_given, a.f2⟩⟩
end
theorem KFs.me {K : PySem.W.Frag} {x dx g : Addr} {rt : V} {fs : List (Str × V)} {H : Hp} (a : KFs K x dx g rt fs H) {m : Str} (h : (decide (m ≠ "grower") && decide (m ≠ "root") && decide (m ≠ "fresh")) = true) : Kp Ex H (Ins (He.ga K "Kept") x m) := fun H1 r => by
  rw [Bool.and_eq_true, Bool.and_eq_true, decide_eq_true_eq, decide_eq_true_eq, decide_eq_true_eq] at h
  exact ⟨dx, fs, r _ _ a.at_, a.nm m h.1.1 h.1.2 h.2⟩
theorem GrAt.rk {K : PySem.W.Frag} {g : Addr} {t : List Nat} {H : Hp} (a : GrAt K g t H) : rowOk t := by
  obtain ⟨n, d, sd, gs, kvs, a⟩ := a
  exact a.rk
section
variable {P : Program} {w : World} {K : PySem.W.Frag} {mg : Str → Option Value} {base : Heap} (T : Txt K mg)
include T
theorem ok_ktop : Ok P w K mg base 1 (He.fAd K ("Kept", some "top")) ["self"] (spKTop K) := by
  refine ok_of T.d_Kept_top sc_ktop (fun _ _ _ _ _ _ us hl => match us, hl with | [_], _ => rfl) (fun vs H Q E h => by obtain ⟨_, _, _, rfl, _⟩ := h; rfl) (fun cdv A outer s0 H vs Q E hr h => ?_)
  obtain ⟨x, s, t, rfl, ⟨dx, g, rt, fs, f, hg, hl, hs⟩, kq⟩ := h
  exact q_ret (R := Ex) (v_fld (v_fld (v_name 0 rfl) (f.gr T)) (hg.ag T)) kq
theorem ok_kside : Ok P w K mg base 2 (He.fAd K ("Kept", some "side")) ["self"] (spKSide K) := by
  refine ok_of T.d_Kept_side sc_kside (fun _ _ _ _ _ _ us hl => match us, hl with | [_], _ => rfl) (fun vs H Q E h => by obtain ⟨_, _, _, rfl, _⟩ := h; rfl) (fun cdv A outer s0 H vs Q E hr h => ?_)
  obtain ⟨x, s, t, rfl, ⟨dx, g, rt, fs, f, hg, hl, hs⟩, kq⟩ := h
  rcases hl with ⟨rfl, rfl⟩ | ⟨p, R, rfl, rfl, hl⟩
  · exact q_yes (R := Ex) ((t_isN (v_fld (v_name 0 rfl) (f.rtf T))).is (by simp)) fun H1 r1 => q_ret (R := Ex) v_str fun H2 r2 => by
      have := kq H2 (r1.tr r2)
      rw [mkS_nil] at this
      exact this
  · obtain ⟨nu, pc, u, l, fl, hp⟩ := hl.any
    exact q_no (R := Ex) ((t_isN (v_fld (v_name 0 rfl) (f.rtf T))).is (by simp)) fun H1 r1 => q_ret (R := Ex) (v_pside T (v_fld (v_fld (v_name 0 rfl) ((f.rtf T).on r1)) ((fl.pie T).on r1)) (hp.ex r1) hr) fun H2 r2 => kq H2 (r1.tr r2)
theorem ok_klines : Ok P w K mg base 5 (He.fAd K ("Kept", some "lines")) ["self"] (spKLines K) := by
  refine ok_of T.d_Kept_lines sc_klines (fun _ _ _ _ _ _ us hl => match us, hl with | [_], _ => rfl) (fun vs H Q E h => by obtain ⟨_, _, _, rfl, _⟩ := h; rfl) (fun cdv A outer s0 H vs Q E hr h => ?_)
  obtain ⟨x, s, t, rfl, ⟨dx, g, rt, fs, f, hg, hl, hs⟩, kq⟩ := h
  have tl := hg.rk.1
  rcases hl with ⟨rfl, rfl⟩ | ⟨p, R, rfl, rfl, hl⟩
  · refine q_yes (R := Ex) ((t_isN (v_fld (v_name 0 rfl) (f.rtf T))).is (by simp)) fun H1 r1 => q_ret (R := Ex) (K := KN Ex (vL t.length id)) (g_call (ok_straight T) T.g_straight hr (a_1 (v_lenM rfl T.b_len (g_meth0 (K := KV Ex (.str (mkS t))) T.k_Kept T.m_Kept_top (ok_ktop T) (hr.mono (by decide)) (v_name 0 rfl) ((f.me (by decide +kernel)).on r1) fun H2 r2 Q q => ?_) tl)) fun vs H2 r2 k2 Q q => ?_) fun p H2 n2 r2 hp => ?_
    · exact ⟨x, [], t, rfl, ⟨dx, g, _, fs, f.ex (r1.tr r2), hg.ex (r1.tr r2), .inl ⟨rfl, rfl⟩, hs⟩, q⟩
    · obtain rfl := k2.now
      exact ⟨t.length, rfl, by omega, q⟩
    · refine kq p H2 (none_back r1 n2) (r1.tr r2) ?_
      rw [hp]
      refine congrArg (fun l => some (HO.lst l)) ?_
      rw [List.length_nil, Nat.zero_add]
      exact vL_congr fun i hi => (LN_blank (.inl rfl) i (by rw [List.length_nil]; omega)).symm
  · obtain ⟨nu, pc, u, l, fl, hp⟩ := hl.any
    exact q_no (R := Ex) ((t_isN (v_fld (v_name 0 rfl) (f.rtf T))).is (by simp)) fun H1 r1 => q_ret (R := Ex) (n_plines T (v_fld (v_fld (v_name 0 rfl) ((f.rtf T).on r1)) ((fl.pie T).on r1)) (hp.ex r1) (hr.mono (by decide))) fun p H2 n2 r2 hp => kq p H2 (none_back r1 n2) (r1.tr r2) hp
theorem ok_kpieces : Ok P w K mg base 51 (He.fAd K ("Kept", some "pieces")) ["self"] (spKPieces K) := by
  refine ok_of T.d_Kept_pieces sc_kpieces (fun _ _ _ _ _ _ us hl => match us, hl with | [_], _ => rfl) (fun vs H Q E h => by obtain ⟨_, _, _, rfl, _⟩ := h; rfl) (fun cdv A outer s0 H vs Q E hr h => ?_)
  obtain ⟨x, s, t, rfl, ⟨dx, g, rt, fs, f, hg, hl, hs⟩, kq⟩ := h
  rcases hl with ⟨rfl, rfl⟩ | ⟨p, R, rfl, rfl, hl⟩
  · exact q_yes (R := Ex) ((t_isN (v_fld (v_name 0 rfl) (f.rtf T))).is (by simp)) fun H1 r1 => q_ret (R := Ex) (n_lst a_nil (Nat.zero_le _)) fun p H2 n2 r2 hp => kq (.ref p) H2 (r1.tr r2) ⟨p, [], rfl, hp, Nat.zero_le _, fun v hv => absurd hv (by simp)⟩
  · obtain ⟨nu, pc, u, l, fl, hp⟩ := hl.any
    have hl48 := (rows_of hp).1.1
    refine q_no (R := Ex) ((t_isN (v_fld (v_name 0 rfl) (f.rtf T))).is (by simp)) fun H1 r1 => q_ret (R := Ex) (K := KP Ex (IsRows (2 * R.row.length - 1))) (g_meth T.k_Limb T.m_Limb_rows_from (ok_rows T 48) hr (v_fld (v_name 0 rfl) ((f.rtf T).on r1)) ((fl.ins T).on r1) (a_1 v_int) fun vs H2 r2 k2 Q q => ?_) fun v H2 r2 k2 => ?_
    · obtain rfl := k2.now
      exact ⟨p, t, R, _, rfl, hl.exm T (.of (r1.tr r2)), hl48, hl48, fun v H3 r3 h3 => q v H3 r3 fun H4 r4 => h3.ex r4⟩
    · obtain ⟨q, xs, h1, h2, h3, h4⟩ := k2.now
      exact kq v H2 (r1.tr r2) ⟨q, xs, h1, h2, by omega, h4⟩
end
end PT
namespace PT
open PySem PySem.Spec PyProof.Rows L2
local macro_rules | `(tactic| walk_at "lk") => `(tactic| (repeat (first | rw [L2.lookup_putF, if_pos rfl] | rw [L2.lookup_putF, if_neg (by decide +kernel)])) <;> first | rfl | assumption | done)
section
variable {X : Cx} {σ : L2.St} {H : Hp} {c iter : Expr} {pos p' : Pos}
/-- the items of a list of which just Px is known, those that pass a test -/
theorem n_lcIfP (j : Nat) {n : Str} {k : Nat} {Px : V → Hp → Prop} {scope : Scope} {p2 : Pos} (h : EvP X Ex iter σ H (fun v H => ∃ q xs, v = .ref q ∧ H q = some (.lst xs) ∧ xs.length ≤ k ∧ ∀ x ∈ xs, Px x H)) (hz : k ≤ 100000) (hj : j < σ.length)
    (ht : ∀ s0 H0 C cl fp x H1, Px x H1 → ∃ b, EvT (X.blk s0 H0 scope (compEnvC scope cl C X.env) fp) Ex c ((wipe σ [j]).set j (some x)) H1 b) (hx0 : ∀ x H1 H2, Ex H1 H2 → Px x H1 → Px x H2)
    (hN : X.N.Nodup) (ok : BlkOk X.N X.env.scope scope [(n, j)] := by exact blkOk_by (by decide +kernel)) (hc : X.calm = true := by rfl) (hi : X.N[j]? = some n := by rfl)
    (hx' : ∀ s0 H0 C cl fp, Loc (X.blk s0 H0 scope (compEnvC scope cl C X.env) fp).env.scope n := by first | exact fun _ _ _ _ _ => Or.inl rfl | exact fun _ _ _ _ _ => Or.inr rfl)
    (hv : ∀ s0 H0 C cl fp, Vis (X.blk s0 H0 scope (compEnvC scope cl C X.env) fp).env.scope n := by first | exact fun _ _ _ _ _ => Or.inl rfl | exact fun _ _ _ _ _ => Or.inr (Or.inl rfl))
    (hf : ∀ s0 H0 C cl fp, (X.blk s0 H0 scope (compEnvC scope cl C X.env) fp).fn n = true ∨ (X.blk s0 H0 scope (compEnvC scope cl C X.env) fp).env.scope.names.lookup n = some .local := by first | exact fun _ _ _ _ _ => .inr rfl | exact fun _ _ _ _ _ => .inl rfl)
    (hfs : ∀ x, foldedSetIterable iter X.env x = pure x := by intro _; rfl) (hd : (n == ("__debug__" : Str)) = false := by decide) (hcd : (n == ("__classdict__" : Str)) = false := by decide) :
    EvP X Ex (.ListComp (.Name n p2) [⟨.Name n p', iter, [c], 0⟩] scope pos) σ H (fun v H => ∃ p acc, v = .ref p ∧ H p = some (.lst acc)) := fun H1 r1 Q q =>
  RE.of (pe_lc (own := [(n, j)]) (g := gName j) (tt := RTb X scope c) (te := tVar j) hc hN pi_RI ok (fun s0 H0 C cl fp => pg_name (X := X.blk s0 H0 scope (compEnvC scope cl C X.env) fp) hN hi (hx' s0 H0 C cl fp) (hf s0 H0 C cl fp))
    (fun s0 H0 C cl fp => pts_one ⟨fun pins s σ H Q I h => h s0 H0 C cl fp pins s I⟩)
    (fun s0 H0 C cl fp => pe_var (X := X.blk s0 H0 scope (compEnvC scope cl C X.env) fp) hi (hv s0 H0 C cl fp) hd hcd) hfs) (RI.of (pi_list pe_RE) (h H1 r1 _ fun v H2 r2 k2 => by
    obtain ⟨a, xs, rfl, h2, hl, hxs⟩ := k2.now
    refine ⟨a, rfl, ⟨xs, SqL.of h2⟩, fun D hD => lc_it (walk_list (K := X.K) (a := a) (xs := xs)) (fun i H' => Ex H2 H' ∧ ∃ acc, H' D = some (.lst acc) ∧ acc.length ≤ i) ⟨Ex.nw hD, [], upd_same, Nat.le_refl _⟩ (fun i H' _ p => SqL.of (p.1 _ _ h2)) (fun i x H3 H4 hi p ⟨e1, e2⟩ => ?_) fun H' ⟨p1, acc, p2, p3⟩ => q (.ref D) H' (r2.tr p1) fun H6 r6 => ⟨D, acc, rfl, r6 _ _ p2⟩⟩
    subst e1
    obtain ⟨p1, acc, p2, p3⟩ := p
    refine ⟨?_, ?_⟩
    · show ((σ.set j none).set j (some x)).set j none = σ.set j none
      rw [List.set_set, List.set_set]
    · intro s0 H0 C cl fp
      have hp : Px x H4 := hx0 x H2 H4 p1 (hxs x (List.mem_of_getElem? e2))
      obtain ⟨b, hb⟩ := ht s0 H0 C cl fp x H4 hp
      refine hb H4 (Ex.rf H4) _ fun H5 r5 => ?_
      cases b with
      | true =>
        rw [if_pos rfl]
        refine ⟨x, ?_, acc, r5 _ _ p2, Nat.lt_of_le_of_lt (by omega : acc.length ≤ 100000) (by decide), (p1.tr r5).mu hD, _, upd_same, ?_⟩
        · show ((σ.set j none).set j (some x))[j]? = some (some x)
          rw [List.getElem?_set_self (by simpa using hj)]
        · rw [List.length_append, List.length_cons, List.length_nil]; omega
      | false =>
        rw [if_neg Bool.false_ne_true]
        exact ⟨p1.tr r5, acc, r5 _ _ p2, by omega⟩))
theorem p_len {a : Expr} {p : Pos} (hm : X.mg "len" = none) (ha : EvP X Ex a σ H (fun v H => ∃ p acc, v = .ref p ∧ H p = some (.lst acc))) (hg : Gl X "len" := by rfl) (hs : starEach [a] X.env = (false, eval a X.env) :: starEach [] X.env := by rfl) (hpl : (backTo pos (starEach [] X.env)).any (·.1) = false := by rfl) :
    EvP X Ex (.Call (.Name "len" p) [a] [] pos) σ H (fun v _ => ∃ m : Int, v = .int m) :=
  g_b call_len_seq hm PySem.boot_len (a_p ha (a_nil (PA := fun ws _ => ws = [])) hs) (fun vs H1 r1 k1 Q q => by
    obtain ⟨_, _, rfl, ⟨p, acc, rfl, h⟩, rfl⟩ := k1.now
    exact ⟨p, acc, rfl, .inl (SqL.of h), q _ H1 (Ex.rf H1) fun _ _ => ⟨_, rfl⟩⟩) hg (by decide) (by decide) hs hpl
end
theorem sc_note : FnScope ["self", "before", "row"] ["self", "before"] (defScope (inClass (top 67) 15)) := ⟨rfl, rfl, rfl, by decide +kernel, rfl, by decide +kernel, by decide +kernel⟩
theorem sc_kinit : FnScope ["self", "side", "top"] ["self", "side", "top"] (defScope (inClass (top 67) 0)) := ⟨rfl, rfl, rfl, by decide +kernel, rfl, by decide +kernel, by decide +kernel⟩
theorem sc_kput : FnScope ["self", "place", "sign", "many", "before"] ["self", "place", "sign"] (defScope (inClass (top 67) 11)) := ⟨rfl, rfl, rfl, by decide +kernel, rfl, by decide +kernel, by decide +kernel⟩
theorem sc_kdrop : FnScope ["self", "place", "side", "before"] ["self", "place"] (defScope (inClass (top 67) 12)) := ⟨rfl, rfl, rfl, by decide +kernel, rfl, by decide +kernel, by decide +kernel⟩
theorem sc_kchange : FnScope ["self", "place", "sign", "side", "before"] ["self", "place", "sign"] (defScope (inClass (top 67) 13)) := ⟨rfl, rfl, rfl, by decide +kernel, rfl, by decide +kernel, by decide +kernel⟩
theorem sc_kretop : FnScope ["self", "top", "side", "before"] ["self", "top"] (defScope (inClass (top 67) 14)) := ⟨rfl, rfl, rfl, by decide +kernel, rfl, by decide +kernel, by decide +kernel⟩
theorem sc_nsk : FnScope ["sign"] ["sign"] (defScope (top 63)) := ⟨rfl, rfl, rfl, by decide +kernel, rfl, by decide +kernel, by decide +kernel⟩
theorem sc_npk : FnScope ["place", "last"] ["place", "last"] (defScope (top 65)) := ⟨rfl, rfl, rfl, by decide +kernel, rfl, by decide +kernel, by decide +kernel⟩
theorem q_no' {X : Cx} {R : Hp → Hp → Prop} [Rl R] {σ : L2.St} {H : Hp} {c : Expr} {pos : Pos} {bd els rest : List Stmt} {D : Ends} (h : EvT X R c σ H false) (k : ∀ H1, R H H1 → RB X els { D with nx := RB X rest D } σ H1) : RB X (.If c bd els pos :: rest) D σ H := q_if h (fun q => nomatch q) fun _ => k
def spNote (K : PySem.W.Frag) : Sp := fun vs H Q _ => ∃ x s t, ∃ b : Int, vs = [.ref x, .int b] ∧ KeptAt K x s t H ∧ ∀ H', KX K x H H' → KeptAt K x s t H' → Q .non H'
def spKInit (K : PySem.W.Frag) : Sp := fun vs H Q _ => ∃ x dx s t, vs = [.ref x, .str (mkS s), .str (mkS t)] ∧ H x = some (.ins (He.ga K "Kept") dx []) ∧ rowOk s ∧ rowOk t ∧ ∀ H', KX K x H H' → KeptAt K x s t H' → Q .non H'
def spKPut (K : PySem.W.Frag) : Sp := fun vs H Q _ => ∃ x s t c, ∃ i : Nat, vs = [.ref x, .int (i : Int), sgn c] ∧ KeptAt K x s t H ∧ isSg c = true ∧ i ≤ s.length ∧ s.length ≤ 47 ∧ ∀ H', KX K x H H' → KeptAt K x (s.take i ++ c :: s.drop i) t H' → Q .non H'
def spKDrop (K : PySem.W.Frag) : Sp := fun vs H Q _ => ∃ x s t c, ∃ i : Nat, vs = [.ref x, .int (i : Int)] ∧ KeptAt K x s t H ∧ s[i]? = some c ∧ ∀ H', KX K x H H' → KeptAt K x (s.take i ++ s.drop (i + 1)) t H' → Q (sgn c) H'
def spKChange (K : PySem.W.Frag) : Sp := fun vs H Q _ => ∃ x s t c d, ∃ i : Nat, vs = [.ref x, .int (i : Int), sgn c] ∧ KeptAt K x s t H ∧ isSg c = true ∧ s[i]? = some d ∧ ∀ H', KX K x H H' → KeptAt K x (s.take i ++ c :: s.drop (i + 1)) t H' → Q (sgn d) H'
def spKRetop (K : PySem.W.Frag) : Sp := fun vs H Q _ => ∃ x s t t', vs = [.ref x, .str (mkS t')] ∧ KeptAt K x s t H ∧ rowOk t' ∧ ∀ H', KX K x H H' → KeptAt K x s t' H' → Q .non H'
theorem KeptAt.me {K : PySem.W.Frag} {x : Addr} {s t : List Nat} {H : Hp} (hp : KeptAt K x s t H) {m : Str} (h : (decide (m ≠ "grower") && decide (m ≠ "root") && decide (m ≠ "fresh")) = true) : Kp Ex H (Ins (He.ga K "Kept") x m) := by
  obtain ⟨dx, g, rt, fs, f, hg, hl, hs⟩ := hp
  exact f.me h
section
variable {X : Cx} {σ : L2.St} {H : Hp} {o : Expr} {pos apos : Pos} {x : Addr} {s t : List Nat} (T : Txt X.K X.mg)
include T
theorem v_kside (ho : EvV X Ex o σ H (.ref x)) (hp : KeptAt X.K x s t H) (hr : Room 2 X.A) {pl : Sem Bool}
    (ht : eval (.Call (.Attribute o "side" apos) [] [] pos) X.env = (do
      let ov ← eval o X.env
      standAt apos.atName
      let (f, first) ← holding [ov] (getMethod ov "side" pl)
      callWith pos f first (backTo pos (starEach [] X.env)) (backToKw pos (keywordEach [] X.env))) := by rfl) : EvV X Ex (.Call (.Attribute o "side" apos) [] [] pos) σ H (.str (mkS s)) :=
  g_meth0 T.k_Kept T.m_Kept_side (ok_kside T) hr ho (hp.me (by decide +kernel)) (fun H1 r1 Q q => ⟨x, s, t, rfl, hp.ex T r1, q⟩) ht
theorem v_ktop (ho : EvV X Ex o σ H (.ref x)) (hp : KeptAt X.K x s t H) (hr : Room 1 X.A) {pl : Sem Bool}
    (ht : eval (.Call (.Attribute o "top" apos) [] [] pos) X.env = (do
      let ov ← eval o X.env
      standAt apos.atName
      let (f, first) ← holding [ov] (getMethod ov "top" pl)
      callWith pos f first (backTo pos (starEach [] X.env)) (backToKw pos (keywordEach [] X.env))) := by rfl) : EvV X Ex (.Call (.Attribute o "top" apos) [] [] pos) σ H (.str (mkS t)) :=
  g_meth0 T.k_Kept T.m_Kept_top (ok_ktop T) hr ho (hp.me (by decide +kernel)) (fun H1 r1 Q q => ⟨x, s, t, rfl, hp.ex T r1, q⟩) ht
theorem n_klines (ho : EvV X Ex o σ H (.ref x)) (hp : KeptAt X.K x s t H) (hr : Room 5 X.A) {pl : Sem Bool}
    (ht : eval (.Call (.Attribute o "lines" apos) [] [] pos) X.env = (do
      let ov ← eval o X.env
      standAt apos.atName
      let (f, first) ← holding [ov] (getMethod ov "lines" pl)
      callWith pos f first (backTo pos (starEach [] X.env)) (backToKw pos (keywordEach [] X.env))) := by rfl) : EvN X Ex (.Call (.Attribute o "lines" apos) [] [] pos) σ H (vL (s.length + t.length) (LN s t)) :=
  g_meth0 T.k_Kept T.m_Kept_lines (ok_klines T) hr ho (hp.me (by decide +kernel)) (fun H1 r1 Q q => ⟨x, s, t, rfl, hp.ex T r1, q⟩) ht
theorem p_kpieces (ho : EvV X Ex o σ H (.ref x)) (hp : KeptAt X.K x s t H) (hr : Room 51 X.A) {pl : Sem Bool}
    (ht : eval (.Call (.Attribute o "pieces" apos) [] [] pos) X.env = (do
      let ov ← eval o X.env
      standAt apos.atName
      let (f, first) ← holding [ov] (getMethod ov "pieces" pl)
      callWith pos f first (backTo pos (starEach [] X.env)) (backToKw pos (keywordEach [] X.env))) := by rfl) : EvP X Ex (.Call (.Attribute o "pieces" apos) [] [] pos) σ H (IsRows 96) :=
  g_meth0 T.k_Kept T.m_Kept_pieces (ok_kpieces T) hr ho (hp.me (by decide +kernel)) (fun H1 r1 Q q => ⟨x, s, t, rfl, hp.ex T r1, fun v H2 r2 h2 => q v H2 r2 fun H3 r3 => h2.ex r3⟩) ht
end
theorem KeptAt.rows {K : PySem.W.Frag} {x : Addr} {s t : List Nat} {H : Hp} (a : KeptAt K x s t H) : rowOk s ∧ rowOk t := by
  obtain ⟨dx, g, rt, fs, f, hg, hl, hs⟩ := a
  exact ⟨hs, hg.rk⟩
section
variable {P : Program} {w : World} {K : PySem.W.Frag} {mg : Str → Option Value} {base : Heap} (T : Txt K mg)
include T
theorem ok_need_sign_kept : Ok P w K mg base 2 (He.fAd K ("need_sign_kept", none)) ["sign"] spNeedSign := by
  refine ok_of T.d_need_sign_kept sc_nsk (fun _ _ _ _ _ _ us hl => match us, hl with | [_], _ => rfl) (fun vs H Q E h => by obtain ⟨_, rfl, _⟩ := h; rfl) (fun cdv A outer s0 H vs Q E hr h => ?_)
  obtain ⟨c, rfl, hc, kq⟩ := h
  refine q_no (R := Ex) (t_w (w_or (k := false) (l := false) (t_not (k := true) (t_val (g_call (K := KV Ex (.bl true)) (ok_is_row T) T.g_is_row hr (a_1 (v_name 0 rfl)) fun vs H1 r1 k1 Q q => ?_))) fun _ => w_or1 ((t_ne (v_lenM (s := [c]) rfl T.b_len (v_name 0 rfl) (by simp)) v_int).is (by simp)))) fun H1 r1 => RB.nil (kq H1 r1)
  obtain rfl := k1.now
  exact ⟨[c], rfl, rowOk.one hc, q⟩
theorem ok_need_place_kept : Ok P w K mg base 3 (He.fAd K ("need_place_kept", none)) ["place", "last"] spPlace := by
  refine ok_of T.d_need_place_kept sc_npk (fun _ _ _ _ _ _ us hl => match us, hl with | [_, _], _ => rfl) (fun vs H Q E h => by obtain ⟨_, _, rfl, _⟩ := h; rfl) (fun cdv A outer s0 H vs Q E hr h => ?_)
  obtain ⟨i, n, rfl, h0, hn, kq⟩ := h
  refine q_no (R := Ex) (t_not (k := true) (t_val (g_call (K := KV Ex (.bl true)) (ok_is_within T) T.g_is_within hr (a_v (v_name 0 rfl) (a_v v_int (a_1 (v_name 1 rfl)))) fun vs H1 r1 k1 Q q => ?_))) fun H1 r1 => RB.nil (kq H1 r1)
  obtain rfl := k1.now
  exact ⟨i, 0, n, rfl, h0, hn, q⟩
theorem ok_note : Ok P w K mg base 52 (He.fAd K ("Kept", some "note")) ["self", "before"] (spNote K) := by
  refine ok_of T.d_Kept_note sc_note (fun _ _ _ _ _ _ us hl => match us, hl with | [_, _], _ => rfl) (fun vs H Q E h => by obtain ⟨_, _, _, _, rfl, _⟩ := h; rfl) (fun cdv A outer s0 H vs Q E hr h => ?_)
  obtain ⟨x, s, t, b, rfl, hk, kq⟩ := h
  have nd := sc_note.nd
  refine q_fld (R := Ex) (p_len T.b_len (n_lcIfP (Px := IsRow1) (k := 96) 2 ((p_kpieces T (v_name 0 rfl) hk hr).imp fun v H1 r1 k1 => k1.imp fun H2 r2 h => h) (by decide) (by show 2 < 3; decide) (fun s0 H0 C cl fp y H1 hy => ?_) (fun y H1 H2 e h => IsRow1.ex h e) nd (blkOk_by (N := ["self", "before", "row"]) (sc := defScope (inClass (top 67) 15)) (by decide +kernel)))) (fun v H1 r1 k1 => ?_) kP_mono
  · obtain ⟨u, tl, m, rfl, hu⟩ := hy
    exact ⟨_, t_gt (v_ixT (v_name 2 rfl) v_int (fun H2 r2 => SqT.of (r2 _ _ hu)) (v := .int m) (atI_nat (j := 0) rfl)) (v_name 1 rfl)⟩
  · obtain ⟨m, rfl⟩ := k1.now
    obtain ⟨dx, g, rt, fs, f, hg, hl, hs⟩ := hk
    have f1 := f.ex r1
    have kx : Kx x H1 (upd H1 x (.ins (He.ga K "Kept") dx (putF "fresh" (.int m) fs))) := (Kx.of (Ex.rf H1)).set
    refine ⟨x, _, dx, fs, x_name 0 rfl, f1.at_, T.k_Kept, T.n_Kept_fresh, f1.few, RB.nil (kq _ ((KX.of r1).tr (KX.k kx)) ⟨dx, g, rt, _, f1.fresh (.int m), (hg.ex r1).kf kx f1.at_ f1.nm, (hl.exm T (.of r1)).kf kx f1.at_ f1.nm, hs⟩)⟩
theorem KFs.grR {t' : List Nat} {x dx g g' : Addr} {rt : V} {fs : List (Str × V)} {H : Hp} (a : KFs K x dx g rt fs H) : Kp (ExG K g' t') H (Fld K x "grower" (.ref g)) := fun H1 r => by
  have a := a.exm T r.m
  exact ⟨_, dx, fs, a.at_, T.k_Kept, T.n_Kept_grower, a.f1⟩
theorem KFs.rtR {t' : List Nat} {x dx g g' : Addr} {rt : V} {fs : List (Str × V)} {H : Hp} (a : KFs K x dx g rt fs H) : Kp (ExG K g' t') H (Fld K x "root" rt) := fun H1 r => by
  have a := a.exm T r.m
  exact ⟨_, dx, fs, a.at_, T.k_Kept, T.n_Kept_root, a.f2⟩
/-- a new root set -/
theorem new_root {x dx g : Addr} {rt v : V} {fs : List (Str × V)} {s t : List Nat} {H H2 : Hp} (f : KFs K x dx g rt fs H) (hg : GrAt K g t H) (r : ExG K g t H H2) (hv : IsL K t s v H2) (hs : rowOk s) : KFs K x dx g rt fs H2 ∧ KX K x H (upd H2 x (.ins (He.ga K "Kept") dx (putF "root" v fs))) ∧ KeptAt K x s t (upd H2 x (.ins (He.ga K "Kept") dx (putF "root" v fs))) := by
  have f2 := f.exm T r.m
  have kx : Kx x H2 (upd H2 x (.ins (He.ga K "Kept") dx (putF "root" v fs))) := (Kx.of (Ex.rf H2)).set
  exact ⟨f2, (KX.m r.m).tr (KX.k kx), dx, g, v, _, f2.root v, (r.g hg).kf kx f2.at_ f2.nm, hv.kf kx f2.at_ f2.nm, hs⟩
theorem ok_kput : Ok P w K mg base 170 (He.fAd K ("Kept", some "put")) ["self", "place", "sign"] (spKPut K) := by
  refine ok_of T.d_Kept_put sc_kput (fun _ _ _ _ _ _ us hl => match us, hl with | [_, _, _], _ => rfl) (fun vs H Q E h => by obtain ⟨_, _, _, _, _, rfl, _⟩ := h; rfl) (fun cdv A outer s0 H vs Q E hr h => ?_)
  obtain ⟨x, s, t, c, i, rfl, hk, hc, hi, h47, kq⟩ := h
  have nd := sc_kput.nd
  have hso := hk.rows.1
  have hs' : rowOk (s.take i ++ c :: s.drop i) := (hso.take i).app ((rowOk.one hc).app (hso.drop i) (by rw [List.length_drop]; simp; omega)) (by simp; omega)
  obtain ⟨tk, htk⟩ := T.c_MOST_SIGNS
  refine q_set (R := Ex) 3 (v_lenM rfl T.b_len (v_kside T (v_name 0 rfl) hk (hr.mono (by decide))) hso.1) (fun H1 r1 => ?_) nd
  refine q_expr (R := Ex) (g_call (K := KV Ex .non) (ok_need_place_kept T) T.g_need_place_kept (hr.mono (by decide)) (a_v (v_name 1 rfl) (a_1 (v_name 3 rfl))) fun vs H2 r2 k2 Q q => ?_) fun H2 r2 => q_expr (R := Ex) (g_call (K := KV Ex .non) (ok_need_sign_kept T) T.g_need_sign_kept (hr.mono (by decide)) (a_1 (v_name 2 rfl)) fun vs H3 r3 k3 Q q => ?_) fun H3 r3 => ?_
  · obtain rfl := k2.now
    exact ⟨_, _, rfl, by omega, by omega, q⟩
  · obtain rfl := k3.now
    exact ⟨c, rfl, hc, q⟩
  refine q_no (R := Ex) ((t_eq (v_name 3 rfl) (v_glob (v := .int 48) htk ⟨tk, rfl⟩)).is (decide_eq_false fun z => by have := V.int.inj z; omega)) fun H4 r4 => ?_
  have e4 : Ex H H4 := r1.tr (r2.tr (r3.tr r4))
  obtain ⟨dx, g, rt, fs, f, hg, hl, hs⟩ := hk.ex T e4
  obtain ⟨n, hgv⟩ := hg.gv T
  refine q_set (R := Ex) 4 (v_fld (v_fld (v_name 0 rfl) (f.gr T)) hgv) (fun H5 r5 => ?_) nd
  have f5 := f.ex r5
  have hg5 := hg.ex r5
  have hl5 := hl.exm T (.of r5)
  have fin : ∀ H6, KX K x H H6 → KeptAt K x (s.take i ++ c :: s.drop i) t H6 → RB (cx P w K mg base ["self", "place", "sign", "many", "before"] "Kept.put" (inClass (top 67) 11) (He.fAd K ("Kept", some "put")) cdv A outer s0 H E) [(defBody (inClass (top 67) 11)).getD 6 (.Pass ⟨0, 0, 0, 0⟩)] { nx := fun _ H' => Q .non H', rt := Q } [some (.ref x), some (.int (i : Int)), some (sgn c), some (.int (s.length : Int)), some (.int n)] H6 := fun H6 e6 hk6 => by
    refine q_exprX (re_meth (R := Ex) T.k_Kept T.m_Kept_note (ok_note T) (hr.mono (by decide)) (x_name 0 rfl) (hk6.me (m := "note") (by decide +kernel)).now (a_1 (v_name 4 rfl)) fun vs H7 r7 k7 => ?_)
    obtain rfl := k7.now
    exact ⟨x, _, t, n, rfl, hk6.ex T r7, fun H8 e8 hk8 => RB.nil (kq H8 (e6.tr ((KX.of r7).tr e8)) hk8)⟩
  rcases hl5 with ⟨rfl, rfl⟩ | ⟨p, R, rfl, rfl, hl5⟩
  · refine q_yes (R := Ex) ((t_isN (v_fld (v_name 0 rfl) (f5.rtf T))).is (by simp)) fun H6 r6 => q_fld (R := ExG K g t) (v_leaf (ch := c) T (hr.mono (by decide)) (v_fld (v_name 0 rfl) ((f5.ex r6).grR T)) (hg5.ex r6) (v_name 2 rfl) hc) (fun v H7 r7 k7 => ?_) kP_mono
    obtain rfl : i = 0 := by simpa using hi
    obtain ⟨f7, e7, hk7⟩ := new_root T (f5.ex r6) (hg5.ex r6) r7 k7.now.l (rowOk.one hc)
    exact ⟨x, _, dx, fs, x_name 0 rfl, f7.at_, T.k_Kept, T.n_Kept_root, f7.few, RB.nil (fin _ ((KX.of (e4.tr (r5.tr r6))).tr e7) hk7)⟩
  · refine q_no' (R := Ex) ((t_isN (v_fld (v_name 0 rfl) (f5.rtf T))).is (by simp)) fun H6 r6 => q_fld (R := ExG K g t) (g_lim T (row := R.row.take i ++ c :: R.row.drop i) T.m_Grower_put (ne_names (by decide +kernel)) (ok_gput T 48) (hr.mono (by decide)) (v_fld (v_name 0 rfl) ((f5.ex r6).grR T)) (hg5.ex r6) (a_v (v_fld (v_name 0 rfl) ((f5.ex r6).rtR T)) (a_v (v_name 1 rfl) (a_1 (v_name 2 rfl)))) (by simp) fun vs H7 Q r7 hg7 k7 q => ?_) (fun v H7 r7 k7 => ?_) kP_mono
    · subst k7
      exact ⟨g, t, p, R, c, i, rfl, hg7, hl5.exm T (ExM.tr (.of r6) r7.m), hc, hi, by omega, h47, q⟩
    · obtain ⟨f7, e7, hk7⟩ := new_root T (f5.ex r6) (hg5.ex r6) r7 k7.now.l hs'
      exact ⟨x, _, dx, fs, x_name 0 rfl, f7.at_, T.k_Kept, T.n_Kept_root, f7.few, RB.nil (fin _ ((KX.of (e4.tr (r5.tr r6))).tr e7) hk7)⟩
theorem ok_kdrop : Ok P w K mg base 170 (He.fAd K ("Kept", some "drop")) ["self", "place"] (spKDrop K) := by
  refine ok_of T.d_Kept_drop sc_kdrop (fun _ _ _ _ _ _ us hl => match us, hl with | [_, _], _ => rfl) (fun vs H Q E h => by obtain ⟨_, _, _, _, _, rfl, _⟩ := h; rfl) (fun cdv A outer s0 H vs Q E hr h => ?_)
  obtain ⟨x, s, t, c, i, rfl, hk, hc, kq⟩ := h
  have nd := sc_kdrop.nd
  have hso := hk.rows.1
  have sl := hso.1
  have hi := (List.getElem?_eq_some_iff.mp hc).1
  have hs' : rowOk (s.take i ++ s.drop (i + 1)) := (hso.take i).app (hso.drop (i + 1)) (by simp; omega)
  refine q_set (R := Ex) 2 (v_kside T (v_name 0 rfl) hk (hr.mono (by decide))) (fun H1 r1 => ?_) nd
  refine q_expr (R := Ex) (g_call (K := KV Ex .non) (ok_need_place_kept T) T.g_need_place_kept (hr.mono (by decide)) (a_v (v_name 1 rfl) (a_1 (v_sub (v_lenM rfl T.b_len (v_name 2 rfl) sl) v_int))) fun vs H2 r2 k2 Q q => ?_) fun H2 r2 => ?_
  · obtain rfl := k2.now
    exact ⟨_, _, rfl, by omega, by omega, q⟩
  have e4 : Ex H H2 := r1.tr r2
  obtain ⟨dx, g, rt, fs, f, hg, hl, hs⟩ := hk.ex T e4
  obtain ⟨n, hgv⟩ := hg.gv T
  refine q_set (R := Ex) 3 (v_fld (v_fld (v_name 0 rfl) (f.gr T)) hgv) (fun H5 r5 => ?_) nd
  have f5 := f.ex r5
  have hg5 := hg.ex r5
  have hl5 := hl.exm T (.of r5)
  rcases hl5 with ⟨rfl, rfl⟩ | ⟨p, R, rfl, rfl, hl5⟩
  · exact absurd hi (by simp)
  refine q_fld (R := ExG K g t) (g_limL T (row := R.row.take i ++ R.row.drop (i + 1)) T.m_Grower_drop (ne_names (by decide +kernel)) (ok_gdrop T 48) (hr.mono (by decide)) (v_fld (v_name 0 rfl) (f5.grR T)) hg5 (a_v (v_fld (v_name 0 rfl) (f5.rtR T)) (a_1 (v_name 1 rfl))) fun vs H7 Q r7 hg7 k7 q => ?_) (fun v H7 r7 k7 => ?_) kP_mono
  · subst k7
    exact ⟨g, t, p, R, i, rfl, hg7, hl5.exm T r7.m, hi, by omega, by omega, q⟩
  obtain ⟨f7, e7, hk7⟩ := new_root T f5 hg5 r7 k7.now hs'
  refine ⟨x, _, dx, fs, x_name 0 rfl, f7.at_, T.k_Kept, T.n_Kept_root, f7.few, ?_⟩
  have e8 := (KX.of (K := K) (x := x) (e4.tr r5)).tr e7
  refine q_exprX (re_meth (R := Ex) T.k_Kept T.m_Kept_note (ok_note T) (hr.mono (by decide)) (x_name 0 rfl) (hk7.me (m := "note") (by decide +kernel)).now (a_1 (v_name 3 rfl)) fun vs H8 r8 k8 => ?_)
  obtain rfl := k8.now
  refine ⟨x, _, t, n, rfl, hk7.ex T r8, fun H9 e9 hk9 => q_ret (R := Ex) (v_ixS (k := c) (v_name 2 rfl) (v_name 1 rfl) (by rw [mkS_len]; exact small_line (by omega)) (mkS_at hc)) fun H10 r10 => kq H10 (e8.tr ((KX.of r8).tr (e9.tr (KX.of r10)))) (hk9.ex T r10)⟩
theorem ok_kchange : Ok P w K mg base 170 (He.fAd K ("Kept", some "change")) ["self", "place", "sign"] (spKChange K) := by
  refine ok_of T.d_Kept_change sc_kchange (fun _ _ _ _ _ _ us hl => match us, hl with | [_, _, _], _ => rfl) (fun vs H Q E h => by obtain ⟨_, _, _, _, _, _, rfl, _⟩ := h; rfl) (fun cdv A outer s0 H vs Q E hr h => ?_)
  obtain ⟨x, s, t, c, d, i, rfl, hk, hc, hd, kq⟩ := h
  have nd := sc_kchange.nd
  have hso := hk.rows.1
  have sl := hso.1
  have hi := (List.getElem?_eq_some_iff.mp hd).1
  have hs' : rowOk (s.take i ++ c :: s.drop (i + 1)) := (hso.take i).app ((rowOk.one hc).app (hso.drop (i + 1)) (by simp; omega)) (by simp; omega)
  refine q_set (R := Ex) 3 (v_kside T (v_name 0 rfl) hk (hr.mono (by decide))) (fun H1 r1 => ?_) nd
  refine q_expr (R := Ex) (g_call (K := KV Ex .non) (ok_need_place_kept T) T.g_need_place_kept (hr.mono (by decide)) (a_v (v_name 1 rfl) (a_1 (v_sub (v_lenM rfl T.b_len (v_name 3 rfl) sl) v_int))) fun vs H2 r2 k2 Q q => ?_) fun H2 r2 => q_expr (R := Ex) (g_call (K := KV Ex .non) (ok_need_sign_kept T) T.g_need_sign_kept (hr.mono (by decide)) (a_1 (v_name 2 rfl)) fun vs H3 r3 k3 Q q => ?_) fun H3 r3 => ?_
  · obtain rfl := k2.now
    exact ⟨_, _, rfl, by omega, by omega, q⟩
  · obtain rfl := k3.now
    exact ⟨c, rfl, hc, q⟩
  have e4 : Ex H H3 := r1.tr (r2.tr r3)
  obtain ⟨dx, g, rt, fs, f, hg, hl, hs⟩ := hk.ex T e4
  obtain ⟨n, hgv⟩ := hg.gv T
  refine q_set (R := Ex) 4 (v_fld (v_fld (v_name 0 rfl) (f.gr T)) hgv) (fun H5 r5 => ?_) nd
  have f5 := f.ex r5
  have hg5 := hg.ex r5
  have hl5 := hl.exm T (.of r5)
  rcases hl5 with ⟨rfl, rfl⟩ | ⟨p, R, rfl, rfl, hl5⟩
  · exact absurd hi (by simp)
  refine q_fld (R := ExG K g t) (g_limL T (row := R.row.take i ++ c :: R.row.drop (i + 1)) T.m_Grower_change (ne_names (by decide +kernel)) (ok_gchange T 48) (hr.mono (by decide)) (v_fld (v_name 0 rfl) (f5.grR T)) hg5 (a_v (v_fld (v_name 0 rfl) (f5.rtR T)) (a_v (v_name 1 rfl) (a_1 (v_name 2 rfl)))) fun vs H7 Q r7 hg7 k7 q => ?_) (fun v H7 r7 k7 => ?_) kP_mono
  · subst k7
    exact ⟨g, t, p, R, c, i, rfl, hg7, hl5.exm T r7.m, hc, hi, by omega, by omega, q⟩
  obtain ⟨f7, e7, hk7⟩ := new_root T f5 hg5 r7 k7.now hs'
  refine ⟨x, _, dx, fs, x_name 0 rfl, f7.at_, T.k_Kept, T.n_Kept_root, f7.few, ?_⟩
  have e8 := (KX.of (K := K) (x := x) (e4.tr r5)).tr e7
  refine q_exprX (re_meth (R := Ex) T.k_Kept T.m_Kept_note (ok_note T) (hr.mono (by decide)) (x_name 0 rfl) (hk7.me (m := "note") (by decide +kernel)).now (a_1 (v_name 4 rfl)) fun vs H8 r8 k8 => ?_)
  obtain rfl := k8.now
  refine ⟨x, _, t, n, rfl, hk7.ex T r8, fun H9 e9 hk9 => q_ret (R := Ex) (v_ixS (k := d) (v_name 3 rfl) (v_name 1 rfl) (by rw [mkS_len]; exact small_line (by omega)) (mkS_at hd)) fun H10 r10 => kq H10 (e8.tr ((KX.of r8).tr (e9.tr (KX.of r10)))) (hk9.ex T r10)⟩
end
end PT
namespace PT
open PySem PySem.Spec PyProof.Rows L2
local macro_rules | `(tactic| walk_at "lk") => `(tactic| (repeat (first | rw [L2.lookup_putF, if_pos rfl] | rw [L2.lookup_putF, if_neg (by decide +kernel)])) <;> first | rfl | assumption | done)
def IsGr (K : PySem.W.Frag) (t : List Nat) (v : V) (H : Hp) : Prop := ∃ g, v = .ref g ∧ GrAt K g t H
section
variable {X : Cx} {σ : L2.St} {H : Hp} {a b : Expr} {pos p' : Pos} (T : Txt X.K X.mg)
include T
theorem p_grower {t : List Nat} {n : Int} (hr : Room 2 X.A) (ha : EvV X Ex a σ H (.str (mkS t))) (hb : EvV X Ex b σ H (.int n)) (ht : rowOk t) (hg : Gl X "Grower" := by rfl)
    (h1 : starEach [a, b] X.env = (false, eval a X.env) :: starEach [b] X.env := by rfl) (h2 : starEach [b] X.env = (false, eval b X.env) :: starEach [] X.env := by rfl) (hpl : (backTo pos (starEach [b] X.env)).any (·.1) = false := by rfl) :
    EvP X Ex (.Call (.Name "Grower" p') [a, b] [] pos) σ H (IsGr X.K t) := g_make T.mk_Grower (ok_ginit T) T.g_Grower hr (a_v ha (a_1 hb h2) h1) (fun vs H1 r1 k1 x dx nx nd ne Q q => by
  have e1 := made_ex (C := He.ga X.K "Grower") nx nd
  obtain rfl := k1.now
  exact ⟨x, dx, t, n, rfl, upd_same, ht, fun H' k1 k2 => ⟨rfl, q (.ref x) H' (made_kx nx nd k1) fun H3 r3 => ⟨x, rfl, k2.ex r3⟩⟩⟩) hg (by decide) h1 hpl
end
theorem GrAt.kxn {K : PySem.W.Frag} {g x C dx : Addr} {t : List Nat} {H H' : Hp} (a : GrAt K g t H) (k : Kx x H H') (hx : H x = some (.ins C dx [])) : GrAt K g t H' := a.kf k hx fun _ _ _ _ => rfl
section
variable {P : Program} {w : World} {K : PySem.W.Frag} {mg : Str → Option Value} {base : Heap} (T : Txt K mg)
include T
/-- self.root = self.grower.grown(side), a side that is not empty -/
theorem ok_kinit : Ok P w K mg base 170 (He.fAd K ("Kept", some "__init__")) ["self", "side", "top"] (spKInit K) := by
  refine ok_of T.d_Kept___init__ sc_kinit (fun _ _ _ _ _ _ us hl => match us, hl with | [_, _, _], _ => rfl) (fun vs H Q E h => by obtain ⟨_, _, _, _, rfl, _⟩ := h; rfl) (fun cdv A outer s0 H vs Q E hr h => ?_)
  obtain ⟨x, dx, s, t, rfl, hx, hs, ht, kq⟩ := h
  refine q_expr (R := Ex) (g_call (K := KV Ex .non) (ok_need_rows T) T.g_need_rows (hr.mono (by decide)) (a_v (v_name 1 rfl) (a_1 (v_name 2 rfl))) fun vs H1 r1 k1 Q q => ?_) fun H1 r1 => ?_
  · obtain rfl := k1.now
    exact ⟨s, t, rfl, hs, ht, q⟩
  refine q_fld (R := Ex) (p_grower T (hr.mono (by decide)) (v_name 2 rfl) v_int ht) (fun v H2 r2 k2 => ?_) kP_mono
  obtain ⟨g, rfl, hg⟩ := k2.now
  have hx2 := r2 _ _ (r1 _ _ hx)
  refine ⟨x, _, dx, [], x_name 0 rfl, hx2, T.k_Kept, T.n_Kept_grower, by decide, ?_⟩
  have kx2 : Kx x H2 (upd H2 x (.ins (He.ga K "Kept") dx (putF "grower" (.ref g) []))) := (Kx.of (Ex.rf H2)).set
  have hg2 := hg.kxn kx2 hx2
  refine q_fld (R := Ex) v_non (fun H3 r3 => ⟨x, _, dx, _, x_name 0 rfl, r3 _ _ upd_same, T.k_Kept, T.n_Kept_root, Nat.lt_of_le_of_lt (length_putF _ _ _) (by decide), ?_⟩) kV_mono
  have nf1 : NoF (putF "grower" (.ref g) []) := NoF.put (fun _ _ _ _ => rfl) (.inl rfl)
  have nf2 : NoF (putF "root" .non (putF "grower" (.ref g) [])) := nf1.put (.inr (.inl rfl))
  have kx3 : Kx x H3 (upd H3 x (.ins (He.ga K "Kept") dx (putF "root" .non (putF "grower" (.ref g) [])))) := (Kx.of (Ex.rf H3)).set
  have hg3 := (hg2.ex r3).kf kx3 (r3 _ _ upd_same) nf1
  have f3 : KFs K x dx g .non (putF "root" .non (putF "grower" (.ref g) [])) (upd H3 x (.ins (He.ga K "Kept") dx (putF "root" .non (putF "grower" (.ref g) [])))) := ⟨upd_same, by walk_at "lk", by walk_at "lk", nf2, .inr (Nat.le_trans (length_putF _ _ _) (Nat.succ_le_succ (length_putF _ _ _)))⟩
  have e3 : KX K x H (upd H3 x (.ins (He.ga K "Kept") dx (putF "root" .non (putF "grower" (.ref g) [])))) := (KX.of (r1.tr r2)).tr ((KX.k kx2).tr ((KX.of r3).tr (KX.k kx3)))
  have fin : ∀ H6, KX K x H H6 → KeptAt K x s t H6 → RB (cx P w K mg base ["self", "side", "top"] "Kept.__init__" (inClass (top 67) 0) (He.fAd K ("Kept", some "__init__")) cdv A outer s0 H E) [(defBody (inClass (top 67) 0)).getD 4 (.Pass ⟨0, 0, 0, 0⟩)] { nx := fun _ H' => Q .non H', rt := Q } [some (.ref x), some (.str (mkS s)), some (.str (mkS t))] H6 := fun H6 e6 hk6 => by
    refine q_fld (R := Ex) (p_len T.b_len ((p_kpieces T (v_name 0 rfl) hk6 (hr.mono (by decide))).imp fun v H1 r1 k1 => k1.imp fun H2 r2 ⟨p, xs, h1, h2, _⟩ => ⟨p, xs, h1, h2⟩)) (fun v H7 r7 k7 => ?_) kP_mono
    obtain ⟨m, rfl⟩ := k7.now
    obtain ⟨dx, g, rt, fs, f, hg, hl, hs⟩ := hk6.ex T r7
    have kx : Kx x H7 (upd H7 x (.ins (He.ga K "Kept") dx (putF "fresh" (.int m) fs))) := (Kx.of (Ex.rf H7)).set
    exact ⟨x, _, dx, fs, x_name 0 rfl, f.at_, T.k_Kept, T.n_Kept_fresh, f.few, RB.nil (kq _ (e6.tr ((KX.of r7).tr (KX.k kx))) ⟨dx, g, rt, _, f.fresh (.int m), hg.kf kx f.at_ f.nm, hl.kf kx f.at_ f.nm, hs⟩)⟩
  refine q_if (R := Ex) ((t_ne (v_name 1 rfl) v_str).is (by rw [str_nil])) (fun h0 H4 r4 => ?_) (fun h0 H4 r4 => ?_)
  · have h0 : s ≠ [] := by simpa using h0
    have f4 := f3.ex r4
    have hg4 := hg3.ex r4
    refine q_fld (R := ExG K g t) (g_lim T (row := s) T.m_Grower_grown (ne_names (by decide +kernel)) (ok_grown T 48) (hr.mono (by decide)) (v_fld (v_name 0 rfl) (f4.grR T)) hg4 (a_1 (v_name 1 rfl)) h0 fun vs H7 Q r7 hg7 k7 q => ?_) (fun v H7 r7 k7 => ?_) kP_mono
    · subst k7
      exact ⟨g, t, s, rfl, hg7, hs, h0, hs.1, q⟩
    · obtain ⟨f7, e7, hk7⟩ := new_root T f4 hg4 r7 k7.now.l hs
      exact ⟨x, _, dx, _, x_name 0 rfl, f7.at_, T.k_Kept, T.n_Kept_root, f7.few, RB.nil (fin _ (e3.tr ((KX.of r4).tr e7)) hk7)⟩
  · have h0 : s = [] := by simpa using h0
    exact RB.nil (fin H4 (e3.tr (KX.of r4)) ⟨dx, g, .non, _, f3.ex r4, hg3.ex r4, .inl ⟨h0, rfl⟩, hs⟩)
theorem ok_kretop : Ok P w K mg base 170 (He.fAd K ("Kept", some "retop")) ["self", "top"] (spKRetop K) := by
  refine ok_of T.d_Kept_retop sc_kretop (fun _ _ _ _ _ _ us hl => match us, hl with | [_, _], _ => rfl) (fun vs H Q E h => by obtain ⟨_, _, _, _, rfl, _⟩ := h; rfl) (fun cdv A outer s0 H vs Q E hr h => ?_)
  obtain ⟨x, s, t, t', rfl, hk, ht', kq⟩ := h
  have nd := sc_kretop.nd
  refine q_expr (R := Ex) (g_call (K := KV Ex .non) (ok_need_row T) T.g_need_row (hr.mono (by decide)) (a_1 (v_name 1 rfl)) fun vs H1 r1 k1 Q q => ?_) fun H1 r1 => q_set (R := Ex) 2 (v_kside T (v_name 0 rfl) (hk.ex T r1) (hr.mono (by decide))) (fun H2 r2 => ?_) nd
  · obtain rfl := k1.now
    exact ⟨t', rfl, ht', q⟩
  obtain ⟨dx, g, rt, fs, f, hg, hl, hs⟩ := hk.ex T (r1.tr r2)
  obtain ⟨n, hgv⟩ := hg.gv T
  refine q_set (R := Ex) 3 (v_fld (v_fld (v_name 0 rfl) (f.gr T)) hgv) (fun H3 r3 => ?_) nd
  refine q_fld (R := Ex) (p_grower T (hr.mono (by decide)) (v_name 1 rfl) (v_name 3 rfl) ht') (fun v H4 r4 k4 => ?_) kP_mono
  obtain ⟨g', rfl, hg'⟩ := k4.now
  have f4 := f.ex (r3.tr r4)
  refine ⟨x, _, dx, fs, x_name 0 rfl, f4.at_, T.k_Kept, T.n_Kept_grower, f4.few, ?_⟩
  have kx4 : Kx x H4 (upd H4 x (.ins (He.ga K "Kept") dx (putF "grower" (.ref g') fs))) := (Kx.of (Ex.rf H4)).set
  have hg4 := hg'.kf kx4 f4.at_ f4.nm
  have f4' := f4.grow g'
  have e4 : KX K x H (upd H4 x (.ins (He.ga K "Kept") dx (putF "grower" (.ref g') fs))) := (KX.of (r1.tr (r2.tr (r3.tr r4)))).tr (KX.k kx4)
  have fin : ∀ H6, KX K x H H6 → KeptAt K x s t' H6 → RB (cx P w K mg base ["self", "top", "side", "before"] "Kept.retop" (inClass (top 67) 14) (He.fAd K ("Kept", some "retop")) cdv A outer s0 H E) [(defBody (inClass (top 67) 14)).getD 5 (.Pass ⟨0, 0, 0, 0⟩)] { nx := fun _ H' => Q .non H', rt := Q } [some (.ref x), some (.str (mkS t')), some (.str (mkS s)), some (.int n)] H6 := fun H6 e6 hk6 => by
    refine q_exprX (re_meth (R := Ex) T.k_Kept T.m_Kept_note (ok_note T) (hr.mono (by decide)) (x_name 0 rfl) (hk6.me (m := "note") (by decide +kernel)).now (a_1 (v_name 3 rfl)) fun vs H7 r7 k7 => ?_)
    obtain rfl := k7.now
    exact ⟨x, _, t', n, rfl, hk6.ex T r7, fun H8 e8 hk8 => RB.nil (kq H8 (e6.tr ((KX.of r7).tr e8)) hk8)⟩
  refine q_if (R := Ex) ((t_ne (v_name 2 rfl) v_str).is (by rw [str_nil])) (fun h0 H5 r5 => ?_) (fun h0 H5 r5 => ?_)
  · have h0 : s ≠ [] := by simpa using h0
    have f5 := f4'.ex r5
    have hg5 := hg4.ex r5
    refine q_fld (R := ExG K g' t') (g_lim T (row := s) T.m_Grower_grown (ne_names (by decide +kernel)) (ok_grown T 48) (hr.mono (by decide)) (v_fld (v_name 0 rfl) (f5.grR T)) hg5 (a_1 (v_name 2 rfl)) h0 fun vs H7 Q r7 hg7 k7 q => ?_) (fun v H7 r7 k7 => ?_) kP_mono
    · subst k7
      exact ⟨g', t', s, rfl, hg7, hs, h0, hs.1, q⟩
    · obtain ⟨f7, e7, hk7⟩ := new_root T f5 hg5 r7 k7.now.l hs
      exact ⟨x, _, dx, _, x_name 0 rfl, f7.at_, T.k_Kept, T.n_Kept_root, f7.few, RB.nil (fin _ (e4.tr ((KX.of r5).tr e7)) hk7)⟩
  · have h0 : s = [] := by simpa using h0
    have hrt : rt = .non := by
      rcases hl with ⟨_, h⟩ | ⟨p, R, _, h, _⟩
      · exact h
      · exact absurd (h.trans h0) R.ne
    exact RB.nil (fin H5 (e4.tr (KX.of r5)) ⟨dx, g', rt, _, f4'.ex r5, hg4.ex r5, .inl ⟨h0, hrt⟩, hs⟩)
end
end PT
namespace PT
open PySem PySem.Spec PyProof.Rows L2
/-! ### lambdas as objects that are known -/
structure LmF where
  qual : Str
  params : Arguments
  body : Expr
  scope : Scope
  cl : List (Str × Addr)
  c : Addr
abbrev LmF.nf (L : LmF) : NdefX.NF := ⟨"<lambda>", L.qual, L.params, [], L.scope, L.cl, L.c⟩
def LamO (f : Addr) (L : LmF) : HO := .ext fun h => ∃ (od : Option Addr) (sl : Array (Option Value)) (pm ctv : Value), h.get? f = some (⟨.type "function", od, .func (PySem.W.kla_fn "<lambda>" L.qual L.params L.body L.scope L.cl pm (.ref L.c) ctv), sl⟩ : Obj)
theorem lamO_at {P : Program} {w : World} {H : Hp} {h : Heap} {f : Addr} {L : LmF} (ok : HOk P w H h) (e : H f = some (LamO f L)) : ∃ (od : Option Addr) (sl : Array (Option Value)) (pm ctv : Value), h.get? f = some (⟨.type "function", od, .func (PySem.W.kla_fn "<lambda>" L.qual L.params L.body L.scope L.cl pm (.ref L.c) ctv), sl⟩ : Obj) := (ok f _ e).1
theorem lamO_nt {f : Addr} {L : LmF} (ps : Array Value) : LamO f L ≠ .tbl ps := fun z => by unfold LamO at z; cases z
section
variable {X : Cx} {pins : List (Addr × Obj)} {σ : L2.St} {H : Hp} {s : Shared}
theorem inv_lam {L : LmF} {o : Obj} {k : Nat} {pm ctv : Value} (I : Inv X pins σ H s) (eo : o = PySem.W.kla_obj "<lambda>" L.qual L.params L.body L.scope L.cl pm L.c ctv) : Inv X pins σ (upd H s.heap.objs.size (LamO s.heap.objs.size L)) { s with heap := s.heap.push o, toks := k } := by
  subst eo
  have at_ : (s.heap.push (PySem.W.kla_obj "<lambda>" L.qual L.params L.body L.scope L.cl pm L.c ctv)).get? s.heap.objs.size = some (PySem.W.kla_obj "<lambda>" L.qual L.params L.body L.scope L.cl pm L.c ctv) := Heap.get?_push_size _ rfl
  exact I.laid (a := s.heap.objs.size) (fun b u q => Heap.get?_push_of_some _ q) (Nat.le_refl _) ⟨⟨_, _, pm, ctv, at_⟩, ⟨_, at_⟩, fun _ _ ⟨a1, a2, a3, a4, z⟩ stays => ⟨a1, a2, a3, a4, stays _ z⟩⟩
end
/-! ### tables of code objects may grow -/
def MT (o : HO) : Prop := ∃ ps, o = .tbl ps
structure ExB (T : List (Addr × Str)) (H H' : Hp) : Prop where
  kp : ∀ a o, H a = some o → ¬ MT o → H' a = some o
  bk : ∀ a, H' a = none → H a = none
  t : LamX.Tabs T H → LamX.Tabs T H'
theorem ExB.of {T : List (Addr × Str)} {H H' : Hp} (e : Ex H H') : ExB T H H' := ⟨fun a o h _ => e a o h, fun a h => none_back e h, fun t => t.ext e⟩
theorem ExB.tr {T : List (Addr × Str)} {H H1 H2 : Hp} (a : ExB T H H1) (b : ExB T H1 H2) : ExB T H H2 := ⟨fun x o h n => b.kp x o (a.kp x o h n) n, fun x h => a.bk x (b.bk x h), fun t => b.t (a.t t)⟩
instance rlB (T : List (Addr × Str)) : Rl (ExB T) := ⟨MT, fun H => .of (Ex.rf H), fun a b => a.tr b, fun h => .of h, fun h e n => h.kp _ _ e n, fun h e => h.bk _ e, fun _ ⟨_, z⟩ => (nomatch z), fun _ ⟨_, z⟩ => (nomatch z)⟩
/-! ### a lambda is made -/
section
variable {X : Cx} {pins : List (Addr × Obj)} {σ : L2.St} {H : Hp} {s : Shared}
/-- what the making gives -/
def Made (T : List (Addr × Str)) (mk : Addr → LmF) (H : Hp) (Q : VK) : Prop := ∀ f c' H1, ExB T H H1 → LamX.Tabs T H1 → H f = none → H1 f = some (LamO f (mk c')) → H1 c' = some (LamX.CodeO c' (mk c').qual) → Q (.ref f) H1
theorem lam_new {T : List (Addr × Str)} {c P : Addr} {params : Arguments} {body : Expr} {scope : Scope} {pos : Pos} {E : Value → Shared → Prop} {Q : Value → Shared → Prop} (I : Inv X pins σ H s) (TB : LamX.TabB X.base X.mg c P) (hcode : X.env.code = .ref c)
    (hm : (P, X.env.qual ++ "<lambda>") ∈ T) (hu : ∀ p ∈ T, p.1 = P → p.2 = X.env.qual ++ "<lambda>") (hT : LamX.Tabs T H) (hdef : defaultsOf params X.env = ([], [])) (hfree : ∀ y ∈ scope.names, y.2 = .free → ∃ c, X.env.cells.lookup y.1 = some c)
    (k : ∀ f c' H1 s', Inv X pins σ H1 s' → ExB T H H1 → LamX.Tabs T H1 → H f = none → H1 f = some (LamO f ⟨X.env.qual ++ "<lambda>", params, body, scope, cloFrom X.env.cells scope.names [], c'⟩) → H1 c' = some (LamX.CodeO c' (X.env.qual ++ "<lambda>")) → Q (.ref f) s') :
    wpAny (model X.prog X.w) X.A (eval (.Lambda params body scope pos) X.env) Q E s := by
  obtain ⟨ps, atP, tri, each⟩ := hT _ hm
  refine PySem.W.kla_eval hdef ?_
  have bP := TB.bm.keeps I.bk
  have hpP : s.heap.get? P = some { cls := .none, data := .fields ps } := I.hok P _ atP
  cases am : codeAmong pos ps.toList with
  | none =>
    refine PySem.W.kla_makeFunction (mg := X.mg) (c := c) (P := P) (ps := ps) (closure_ok hfree) I.ok.glob (I.mod.glob.keeps I.bk) hcode (TB.code.keeps I.bk) hpP tri am TB.gP bP fun c' ctv h' tk grow ge lt rec' tab => ?_
    obtain ⟨c2, oc, vs, tq, same, hoc, hdat, hname⟩ := rec'
    obtain rfl := Value.ref.inj same
    have newC : H c' = none := I.hok.fresh ge
    have J := LamX.inv_table (t' := tk) (more := #[rawInt pos.line, rawInt pos.col, .ref c']) (h' := h') I atP (fun b o nb e => grow b o nb e) tab ge ⟨oc, vs, tq, hoc, hdat, hname⟩
    have newF := J.hok.fresh (Nat.le_refl _)
    have J2 := inv_lam (k := tk) (L := ⟨X.env.qual ++ "<lambda>", params, body, scope, cloFrom X.env.cells scope.names [], c'⟩) (pm := (X.mg "__name__").getD .none) (ctv := ctv) J rfl
    have stay : ∀ b o, H b = some o → ¬ MT o → upd (upd H P (.tbl (ps ++ #[rawInt pos.line, rawInt pos.col, .ref c']))) c' (LamX.CodeO c' (X.env.qual ++ "<lambda>")) b = some o := fun b o e n => by
      rw [upd_ne (ne_of_none e newC), upd_ne (fun z => n ⟨ps, Option.some.inj (e.symm.trans (by rw [z]; exact atP))⟩)]
      exact e
    have codeN : ¬ MT (LamX.CodeO c' (X.env.qual ++ "<lambda>")) := fun ⟨ps, z⟩ => LamX.codeO_ne ps z
    have flat : (ps ++ #[rawInt pos.line, rawInt pos.col, .ref c']).toList = ps.toList ++ [rawInt pos.line, rawInt pos.col, .ref c'] := by simp
    have T1 : LamX.Tabs T (upd (upd H P (.tbl (ps ++ #[rawInt pos.line, rawInt pos.col, .ref c']))) c' (LamX.CodeO c' (X.env.qual ++ "<lambda>"))) := by
      intro p hp
      by_cases here : p.1 = P
      · rw [hu p hp here, here]
        refine ⟨ps ++ #[rawInt pos.line, rawInt pos.col, .ref c'], (upd_ne (ne_of_none atP newC)).trans upd_same, ?_, ?_⟩
        · rw [flat]
          exact PySem.TriplesOk_snoc _ _ _ _ tri
        · intro pos' cv among
          rw [flat] at among
          cases LamX.among_app _ tri among with
          | inl old =>
            obtain ⟨c0, is0, at0⟩ := each pos' cv old
            exact ⟨c0, is0, stay _ _ at0 fun ⟨ps, z⟩ => LamX.codeO_ne ps z⟩
          | inr new => exact ⟨c', new, upd_same⟩
      · obtain ⟨qs, b1, b2, b3⟩ := hT p hp
        refine ⟨qs, (upd_ne (ne_of_none b1 newC)).trans ((upd_ne here).trans b1), b2, ?_⟩
        intro pos' cv among
        obtain ⟨c0, is0, at0⟩ := b3 pos' cv among
        exact ⟨c0, is0, stay _ _ at0 fun ⟨ps, z⟩ => LamX.codeO_ne ps z⟩
    have up : ∀ b o, upd (upd H P (.tbl (ps ++ #[rawInt pos.line, rawInt pos.col, .ref c']))) c' (LamX.CodeO c' (X.env.qual ++ "<lambda>")) b = some o → upd (upd (upd H P (.tbl (ps ++ #[rawInt pos.line, rawInt pos.col, .ref c']))) c' (LamX.CodeO c' (X.env.qual ++ "<lambda>"))) h'.objs.size (LamO h'.objs.size ⟨X.env.qual ++ "<lambda>", params, body, scope, cloFrom X.env.cells scope.names [], c'⟩) b = some o := fun b o e => (upd_ne (ne_of_none e newF)).trans e
    have T2 := T1.ext up
    exact k h'.objs.size c' _ _ J2 ⟨fun b o e n => up b o (stay b o e n), fun b e => NdefX.upd_none (NdefX.upd_none (NdefX.upd_none e)), fun _ => T2⟩ T2 (I.hok.fresh (Nat.le_trans ge (Nat.le_of_lt lt))) upd_same (up _ _ upd_same)
  | some cv =>
    obtain ⟨c', is', at'⟩ := each pos cv am
    subst is'
    refine PySem.W.kla_makeFunctionHit (mg := X.mg) (c := c) (P := P) (ps := ps) (closure_ok hfree) I.ok.glob (I.mod.glob.keeps I.bk) hcode (TB.code.keeps I.bk) hpP tri am bP fun ctv h' tk grow hsz => ?_
    have J : Inv X pins σ H { s with heap := h', toks := tk } := I.kept grow
    have newF : H h'.objs.size = none := J.hok.fresh (Nat.le_refl _)
    have J2 := inv_lam (k := tk) (L := ⟨X.env.qual ++ "<lambda>", params, body, scope, cloFrom X.env.cells scope.names [], c'⟩) (pm := (X.mg "__name__").getD .none) (ctv := ctv) J rfl
    have up : ∀ b o, H b = some o → upd H h'.objs.size (LamO h'.objs.size ⟨X.env.qual ++ "<lambda>", params, body, scope, cloFrom X.env.cells scope.names [], c'⟩) b = some o := fun b o e => (upd_ne (ne_of_none e newF)).trans e
    exact k h'.objs.size c' _ _ J2 (ExB.of up) (hT.ext up) newF upd_same (up _ _ at')
theorem pe_lam {T : List (Addr × Str)} {c P : Addr} {params : Arguments} {body : Expr} {scope : Scope} {pos : Pos} (TB : LamX.TabB X.base X.mg c P) (hcode : X.env.code = .ref c) (hm : (P, X.env.qual ++ "<lambda>") ∈ T) (hu : ∀ p ∈ T, p.1 = P → p.2 = X.env.qual ++ "<lambda>") (hdef : defaultsOf params X.env = ([], []))
    (hfree : ∀ y ∈ scope.names, y.2 = .free → X.env.scope.names.lookup y.1 = some .cell ∨ X.env.scope.names.lookup y.1 = some .free) :
    PE X (.Lambda params body scope pos) fun _ H Q => LamX.Tabs T H ∧ Made T (fun c' => ⟨X.env.qual ++ "<lambda>", params, body, scope, cloFrom X.env.cells scope.names [], c'⟩) H Q := ⟨fun pins s σ H Q I ⟨hT, h⟩ =>
  lam_new I TB hcode hm hu hT hdef (fun y hy e => (hfree y hy e).elim (fun z => I.ok.has _ (.inl z)) fun z => I.ok.has _ (.inr z)) fun f c' H1 s' I1 e1 t1 n1 f1 c1 => ⟨.ref f, H1, I1, rfl, h f c' H1 e1 t1 n1 f1 c1⟩⟩
end
end PT
namespace PT
open PySem PySem.Spec PyProof.Rows L2
/-! ### a lambda that is known is called -/
/-- what its cells held at the frame's beginning they hold still -/
theorem cells_on {Y : Cx} {pins : List (Addr × Obj)} {σ : L2.St} {H : Hp} {s : Shared} {cl : List (Str × Addr)} {fr : List Str} {ws : List (Option V)} (C : NdefX.CellsAt cl fr ws Y.s_0.heap Y.H_0) (hex : Y.ex = []) (I : Inv Y pins σ H s) : NdefX.CellsAt cl fr ws s.heap H := by
  have nex : ∀ b : Addr, b ∉ Y.ex := fun b hb => by rw [hex] at hb; cases hb
  have stays : ∀ y c v, cl.lookup y = some c → Y.s_0.heap.IsCell c v → s.heap.IsCell c v := fun y c v e ⟨o, ho, hd⟩ => by
    obtain ⟨sl, ho'⟩ := I.base.any ho (C.all y c e).1 (nex c)
    exact ⟨_, ho', hd⟩
  refine ⟨C.len, fun y c e => ?_, C.inj, fun i y e => ?_⟩
  · obtain ⟨n, v, o, ho, hd⟩ := C.all y c e
    exact ⟨I.base.free c o ho n (nex c), v, stays y c v e ⟨o, ho, hd⟩⟩
  · obtain ⟨c, hc, hv⟩ := C.has i y e
    refine ⟨c, hc, fun v ev => ?_⟩
    obtain ⟨u, r, z⟩ := hv v ev
    exact ⟨u, r, stays y c _ hc z⟩
theorem lam_fn {P : Program} {w : World} {H : Hp} {h : Heap} {f : Addr} {L : LmF} (ok : HOk P w H h) (e : H f = some (LamO f L)) : PySem.W.FnAt f h := by
  obtain ⟨od, sl, pm, ctv, ho⟩ := lamO_at ok e
  exact ⟨_, od, _, sl, ho⟩
/-- the context of its body -/
abbrev lcx (Y : Cx) (N : List Str) (L : LmF) (f : Addr) (A : Around) (outer : List Env) (s : Shared) (H : Hp) : Cx := NdefX.ncx CX0 Y.prog Y.w Y.K Y.mg Y.base N L.nf f A outer s H E0
theorem v_lam {Y : Cx} {σ : L2.St} {H : Hp} {e : Expr} {es : List Expr} {p pos : Pos} {L : LmF} {f : Addr} {N ps fr : List Str} {ws : List (Option V)} {vals : List V} {v : V} (i : Nat) {x : Str} (hs : σ[i]? = some (some (.ref f))) (S : NdefX.NScope N ps fr L.scope) (C : NdefX.CellsAt L.cl fr ws Y.s_0.heap Y.H_0) (hr : Room 1 Y.A)
    (hf : H f = some (LamO f L)) (hc : H L.c = some (LamX.CodeO L.c L.qual)) (ha : EvA Y Ex (e :: es) σ H (fun vs _ => vs = vals)) (hl : vals.length = ps.length) (hb : ∀ (pm ctv : Value) (us : List Value), us.length = ps.length → bindArgs (PySem.W.kla_fn "<lambda>" L.qual L.params L.body L.scope L.cl pm (.ref L.c) ctv) ⟨us, []⟩ = pure (ps.zip us))
    (body : ∀ A outer s H1, Ex H H1 → EvV (lcx Y N L f A outer s H1) Ex L.body (NdefX.startF N vals ws) H1 v) (hex : Y.ex = [] := by rfl) (hN : Y.N[i]? = some x := by rfl) (hv : Vis Y.env.scope x := by first | exact Or.inl rfl | exact Or.inr (Or.inl rfl) | exact Or.inr (Or.inr rfl)) (hd : (x == ("__debug__" : Str)) = false := by decide)
    (hcd : (x == ("__classdict__" : Str)) = false := by decide) (he : starEach (e :: es) Y.env = (false, eval e Y.env) :: starEach es Y.env := by rfl) (hpl : (backTo pos (starEach es Y.env)).any (·.1) = false := by rfl) : EvV Y Ex (.Call (.Name x p) (e :: es) [] pos) σ H v := by
  intro H1 r1 Q q pins s I
  refine wpAny_Call_Name_kw (thn ((pe_var (pos := p) (i := i) hN hv hd hcd).run pins s σ H1 (fun v H2 => v = .ref f ∧ H2 = H1) I ⟨.ref f, hs, rfl, rfl⟩) fun u s1 ⟨v', H2, I2, rv, ev, eH⟩ => ?_)
  subst ev
  rw [eH] at I2
  obtain rfl : u = Value.ref f := rv
  refine PySem.W.callWith_F (first := []) (lam_fn I2.hok (r1 _ _ hf)) (thn (ha H1 r1 (fun vs H3 => vs = vals ∧ Ex H1 H3) (fun vs H3 r3 k3 => ⟨k3.now, r3⟩) pos pins s1 I2) fun us s2 ⟨vs, H3, I3, r, ev, r3⟩ => ⟨lam_fn I3.hok (r3 _ _ (r1 _ _ hf)), ?_⟩) he hpl
  subst ev
  show wpAny _ _ (call (.ref f) us) _ _ _
  have hf3 := r3 _ _ (r1 _ _ hf)
  obtain ⟨od, sl, pm, ctv, ho⟩ := lamO_at I3.hok hf3
  have rc : codeAny (model Y.prog Y.w) Y.A (.call (.ref f) ⟨us, []⟩) (CR CX0 Y.stack Y.prog Y.w H3 s2 Q E0) s2 := by
    refine PySem.W.kla_callFunE hr.depth ho rfl S.co S.gen rfl (NdefX.codeO_at I3.hok (r3 _ _ (r1 _ _ hc))) ?_
    rw [hb pm ctv us (by rw [← r.length]; exact hl)]
    refine wpAny_pure (wpAny_newFunctionEnv S.nocell (fun ⟨n, _⟩ hy => S.par n (List.of_mem_zip hy).1) (fun h₁ hns hsb => ⟨I3.nolimit.fresh _ hsb, ?_⟩) S.kind)
    show codeAny _ _ (.expr L.body (NdefX.envF L.nf f s2.heap.objs.size)) _ _
    have keep : ∀ b o, s2.heap.get? b = some o → h₁.get? b = some o := fun b o q => hsb.extBut b o (Nat.ne_of_lt (Heap.lt_size q)) (Heap.get?_push_of_some _ q)
    have J : Inv (lcx Y N L f Y.A Y.stack s2 H3) [] (NdefX.startF N vs ws) H3 { s2 with heap := h₁, toks := s2.toks + (ps.zip us).length } := NdefX.inv_startN S hr.hd I3.env0 hl r (cells_on C hex I3) hns keep
    refine PySem.W.kla_codeExpr (wpAny_mono (body Y.A Y.stack s2 H3 (r1.tr r3) H3 (Ex.rf H3) Q (fun H4 r4 => q H4 (r3.tr r4)) [] _ J) (fun u s' hq => ?_) fun e s' hq => hq)
    obtain ⟨w', H', J', rv, qq⟩ := hq
    exact ⟨w', H', J'.os, J'.bare, J'.base, J'.hok, rv, qq⟩
  refine wpAny_call (codeAny_mono rc fun r s' hq => ?_)
  cases r with
  | error e => exact pass0 pins σ H3 s2 e s' I3 hq
  | ok fl =>
    cases fl with
    | ret u => exact I3.after hq
    | next => exact False.elim hq
    | brk => exact False.elim hq
    | cont => exact False.elim hq
end PT
namespace PT
open PySem PySem.Spec PyProof.Rows L2
theorem EvN.pf {X : Cx} {R : Hp → Hp → Prop} [Rl R] {σ : L2.St} {H : Hp} {e : Expr} {xs : List V} (h : EvN X R e σ H xs) : EvP X R e σ H (fun v H' => ∃ p, v = .ref p ∧ H p = none ∧ H' p = some (.lst xs)) := fun H1 r Q q => h H1 r Q fun p H2 n r2 hp => q (.ref p) H2 r2 fun H3 r3 => ⟨p, rfl, Rl.back r n, Rl.keep r3 hp (Rl.ml xs)⟩
theorem SqL.oth {K : PySem.W.Frag} {H : Hp} {q p : Addr} {o : HO} {xs : List V} (h : SqL K H q xs) (n : q ≠ p) : SqL K (upd H p o) q xs := by
  rcases h with (h | ⟨ob, h⟩) | h
  · exact .inl (.inl (by rw [upd_ne n]; exact h))
  · exact .inl (.inr ⟨ob, by rw [upd_ne n]; exact h⟩)
  · exact .inr h
/-! ### the board's walk, row by row -/
def FF (s t : List Nat) (r : Nat) : Nat → Nat := runF (rowsW s.length s t r) id
/-- downs at row r ahead of column c -/
def DD (s t : List Nat) (r c : Nat) : Nat → Nat := fun i => if i < c then EE s t r c (s.length - 1 - r + i) else EE s t r c (s.length - r + i)
def RR (s t : List Nat) (r : Nat) : Nat → Nat := fun i => FF s t r (s.length - 1 - i + t.length)
def tel (s t : List Nat) (r c : Nat) : List Nat := (List.range c).map fun j => if crs s t r j = true then 120 else 111
def rowV (s t : List Nat) (r : Nat) : V := .str (mkS (tel s t r t.length))
def rowsV (s t : List Nat) (r : Nat) : List V := (List.range r).map (rowV s t)
theorem tel_succ (s t : List Nat) (r c : Nat) : tel s t r (c + 1) = tel s t r c ++ [if crs s t r c = true then 120 else 111] := by
  unfold tel
  rw [List.range_succ, List.map_append]
  rfl
theorem tel_len (s t : List Nat) (r c : Nat) : (tel s t r c).length = c := by unfold tel; rw [List.length_map, List.length_range]
theorem rowsV_succ (s t : List Nat) (r : Nat) : rowsV s t (r + 1) = rowsV s t r ++ [rowV s t r] := by
  unfold rowsV
  rw [List.range_succ, List.map_append]
  rfl
theorem rowsV_len (s t : List Nat) (r : Nat) : (rowsV s t r).length = r := by unfold rowsV; rw [List.length_map, List.length_range]
theorem DD_0 (s t : List Nat) : (fun i => s.length + i) = DD s t 0 0 := by
  funext i
  unfold DD
  rw [if_neg (by omega), EE_0]
  rfl
theorem DD_at {s t : List Nat} {r c : Nat} (hr : r < s.length) : DD s t r c c = EE s t r c (s.length - 1 - r + c + 1) := by
  unfold DD
  rw [if_neg (by omega), show s.length - r + c = s.length - 1 - r + c + 1 by omega]
theorem DD_x {s t : List Nat} {r c i : Nat} (hr : r < s.length) (hc : c < t.length) (h : crs s t r c = true) : DD s t r (c + 1) i = DD s t r c i := by
  unfold DD
  rw [EE_succ hc, if_pos h]
  by_cases h1 : i < c
  · rw [if_pos (by omega), if_pos h1, swap_ne (by omega) (by omega)]
  · rw [if_neg h1]
    by_cases h2 : i = c
    · subst h2
      rw [if_pos (by omega), swap_at, show s.length - 1 - r + i + 1 = s.length - r + i by omega]
    · rw [if_neg (by omega), swap_ne (by omega) (by omega)]
theorem AA_x {s t : List Nat} {r c : Nat} (hc : c < t.length) (h : crs s t r c = true) : EE s t r (c + 1) (s.length - 1 - r + (c + 1)) = EE s t r c (s.length - 1 - r + c) := by
  rw [EE_succ hc, if_pos h, ← Nat.add_assoc, swap_at1]
theorem DD_o {s t : List Nat} {r c i : Nat} (hr : r < s.length) (hc : c < t.length) (h : crs s t r c = false) : DD s t r (c + 1) i = if i = c then EE s t r c (s.length - 1 - r + c) else DD s t r c i := by
  unfold DD
  rw [EE_succ hc, h, if_neg Bool.false_ne_true]
  by_cases h2 : i = c
  · subst h2
    rw [if_pos (by omega), if_pos rfl]
  · rw [if_neg h2]
    by_cases h1 : i < c
    · rw [if_pos (by omega), if_pos h1]
    · rw [if_neg (by omega), if_neg h1]
theorem AA_o {s t : List Nat} {r c : Nat} (hc : c < t.length) (h : crs s t r c = false) : EE s t r (c + 1) (s.length - 1 - r + (c + 1)) = EE s t r c (s.length - 1 - r + c + 1) := by
  rw [EE_succ hc, h, if_neg Bool.false_ne_true, ← Nat.add_assoc]
theorem DD_end {s t : List Nat} {r i : Nat} (hr : r < s.length) (hi : i < t.length) : DD s t r t.length i = DD s t (r + 1) 0 i := by
  unfold DD
  rw [if_pos hi, if_neg (by omega), EE_next, EE_0, show s.length - (r + 1) + i = s.length - 1 - r + i by omega]
theorem RR_old {s t : List Nat} {r i : Nat} (hr : r < s.length) (hi : i < r) : RR s t r i = RR s t (r + 1) i := by
  unfold RR FF
  rw [← EE_next, EE_high hr (by omega)]
theorem RR_new {s t : List Nat} {r : Nat} : EE s t r t.length (s.length - 1 - r + t.length) = RR s t (r + 1) r := by
  unfold RR FF
  rw [EE_next]
theorem vL_snoc (k : Nat) (f : Nat → Nat) : vL k f ++ [.int (f k : Int)] = vL (k + 1) f := by
  unfold vL
  rw [List.range_succ, List.map_append]
  rfl
theorem vL_set {k : Nat} {f : Nat → Nat} {i x : Nat} (h : i < k) : (vL k f).set i (.int (x : Int)) = vL k fun j => if j = i then x else f j := by
  refine vL_ext (by rw [List.length_set, vL_len]) fun j hj => ?_
  by_cases e : j = i
  · subst e
    rw [List.getElem?_set_self (by rw [vL_len]; exact h)]
    simp
  · rw [List.getElem?_set_ne (fun z => e z.symm), vL_get hj]
    simp [e]
theorem last_DR (s t : List Nat) : vL t.length (DD s t s.length 0) ++ (vL s.length (RR s t s.length)).reverse = vL (s.length + t.length) (runF (W s t) id) := by
  refine vL_ext (by rw [List.length_append, List.length_reverse, vL_len, vL_len]; omega) fun i hi => ?_
  by_cases h : i < t.length
  · rw [List.getElem?_append_left (by rw [vL_len]; exact h), vL_get h]
    unfold DD
    rw [if_neg (by omega), EE_0, runW, show s.length - s.length + i = i by omega]
  · rw [List.getElem?_append_right (by rw [vL_len]; omega), vL_len, List.getElem?_reverse (by rw [vL_len]; omega), vL_len, vL_get (by omega)]
    unfold RR FF
    rw [runW, show s.length - 1 - (s.length - 1 - (i - t.length)) + t.length = i by omega]
def IsLed (s t : List Nat) (v : V) (H : Hp) : Prop := ∃ u me sg go, v = .ref u ∧ H u = some (.tup [.ref me, .ref sg, .ref go]) ∧ H sg = some (.lst (rowsV s t s.length)) ∧ H go = some (.lst (vL (s.length + t.length) (LN s t)))
abbrev Nled : List Str := ["many", "far", "crosses", "downs", "rights", "meetings", "signs", "row", "across", "met", "told", "column", "above", "goals", "goal", "line"]
theorem sc_led : FnScope Nled ["many", "far", "crosses"] (defScope (top 25)) := ⟨rfl, rfl, rfl, by decide +kernel, rfl, by decide +kernel, by decide +kernel⟩
/-- what the lambda gives in each cell -/
def GivesC (P : Program) (w : World) (K : PySem.W.Frag) (mg : Str → Option Value) (base : Heap) (L : LmF) (f : Addr) (N : List Str) (ws : List (Option V)) (s t : List Nat) (H : Hp) : Prop := ∀ A outer s' H1, Ex H H1 → ∀ i j, i < s.length → j < t.length →
  EvV (NdefX.ncx CX0 P w K mg base N L.nf f A outer s' H1 E0) Ex L.body (NdefX.startF N [.int (i : Int), .int (j : Int), .int (EE s t i j (s.length - 1 - i + j) : Int), .int (EE s t i j (s.length - 1 - i + j + 1) : Int)] ws) H1 (.bl (crs s t i j))
structure LS (s t : List Nat) (H : Hp) (dn rg me sg : Addr) (r c : Nat) (H' : Hp) : Prop where
  ex : Ex H H'
  d : H' dn = some (.lst (vL t.length (DD s t r c)))
  g : H' rg = some (.lst (vL r (RR s t r)))
  m : ∃ xs, H' me = some (.lst xs) ∧ xs.length = r
  s : H' sg = some (.lst (rowsV s t r))
theorem LS.on {s t : List Nat} {H : Hp} {dn rg me sg : Addr} {r c : Nat} {H' H2 : Hp} (a : LS s t H dn rg me sg r c H') (e : Ex H' H2) : LS s t H dn rg me sg r c H2 := by
  obtain ⟨xs, h1, h2⟩ := a.m
  exact ⟨a.ex.tr e, e _ _ a.d, e _ _ a.g, ⟨xs, e _ _ h1, h2⟩, e _ _ a.s⟩
/-- an object that is none of them may change -/
theorem LS.oth {s t : List Nat} {H : Hp} {dn rg me sg : Addr} {r c : Nat} {H' : Hp} (a : LS s t H dn rg me sg r c H') {p : Addr} {o : HO} (h : H p = none) (h1 : dn ≠ p) (h2 : rg ≠ p) (h3 : me ≠ p) (h4 : sg ≠ p) : LS s t H dn rg me sg r c (upd H' p o) := by
  obtain ⟨xs, h5, h6⟩ := a.m
  exact ⟨a.ex.mu h, by rw [upd_ne h1]; exact a.d, by rw [upd_ne h2]; exact a.g, ⟨xs, by rw [upd_ne h3]; exact h5, h6⟩, by rw [upd_ne h4]; exact a.s⟩
theorem str_x : ("x" : Str) = mkS [120] := by decide +kernel
theorem str_o : ("o" : Str) = mkS [111] := by decide +kernel
section
variable {P : Program} {w : World} {K : PySem.W.Frag} {mg : Str → Option Value} {base : Heap} (T : Txt K mg)
include T
theorem led_body {cdv : Value} {A : Around} {outer : List Env} {s0 : Shared} {H : Hp} {E : XK} {Q : VK} {L : LmF} {f : Addr} {N fr : List Str} {ws : List (Option V)} {s t : List Nat} (hr : Room 1 (A.deeper (envOfC "led" (defScope (top 25)) s0.heap.objs.size (He.fAd K ("led", none)) cdv)))
    (S : NdefX.NScope N ["row", "column", "across", "above"] fr L.scope) (C : NdefX.CellsAt L.cl fr ws s0.heap H) (hf : H f = some (LamO f L)) (hc : H L.c = some (LamX.CodeO L.c L.qual)) (hb : ∀ (pm ctv : Value) (us : List Value), us.length = 4 → bindArgs (PySem.W.kla_fn "<lambda>" L.qual L.params L.body L.scope L.cl pm (.ref L.c) ctv) ⟨us, []⟩ = pure ((["row", "column", "across", "above"] : List Str).zip us))
    (hgv : GivesC P w K mg base L f N ws s t H) (hm : s.length ≤ 48) (hn : t.length ≤ 48) (kq : ∀ v H', Ex H H' → IsLed s t v H' → Q v H') :
    RB (cx P w K mg base Nled "led" (top 25) (He.fAd K ("led", none)) cdv A outer s0 H E) (defBody (top 25)) { nx := fun _ H' => Q .non H', rt := Q } (L2.start Nled [.int (s.length : Int), .int (t.length : Int), .ref f]) H := by
  have nd := sc_led.nd
  refine q_set (R := Ex) 3 (n_lrg2 (i := s.length) (j := s.length + t.length) rfl rfl T.b_list T.b_range (v_name 0 rfl) ((v_add (v_name 0 rfl) (v_name 1 rfl)).is (by rw [Int.natCast_add])) (by omega)) (fun dn H1 n1 r1 h1 => ?_) nd
  rw [vL_from, show s.length + t.length - s.length = t.length by omega, DD_0 s t] at h1
  refine q_set (R := Ex) 4 (n_lst a_nil (Nat.zero_le _)) (fun rg H2 n2 r2 h2 => ?_) nd
  refine q_set (R := Ex) 5 (n_lst a_nil (Nat.zero_le _)) (fun me H3 n3 r3 h3 => ?_) nd
  refine q_set (R := Ex) 6 (n_lst a_nil (Nat.zero_le _)) (fun sg H4 n4 r4 h4 => ?_) nd
  have d12 : dn ≠ rg := ne_of_none h1 n2
  have d13 : dn ≠ me := ne_of_none (r2 _ _ h1) n3
  have d14 : dn ≠ sg := ne_of_none (r3 _ _ (r2 _ _ h1)) n4
  have d23 : rg ≠ me := ne_of_none h2 n3
  have d24 : rg ≠ sg := ne_of_none (r3 _ _ h2) n4
  have d34 : me ≠ sg := ne_of_none h3 n4
  have m1 : H dn = none := n1
  have m2 : H rg = none := none_back r1 n2
  have m3 : H me = none := none_back (r1.tr r2) n3
  have m4 : H sg = none := none_back (r1.tr (r2.tr r3)) n4
  have L0 : LS s t H dn rg me sg 0 0 H4 := ⟨r1.tr (r2.tr (r3.tr r4)), r4 _ _ (r3 _ _ (r2 _ _ h1)), r4 _ _ (r3 _ _ h2), ⟨[], r4 _ _ h3, rfl⟩, h4⟩
  refine q_forR (R := Ex) 7 (fun r σ' H' => r ≤ s.length ∧ LS s t H dn rg me sg r 0 H' ∧ ∃ v7 v8 v9 v10 v11 v12, σ' = [some (.int (s.length : Int)), some (.int (t.length : Int)), some (.ref f), some (.ref dn), some (.ref rg), some (.ref me), some (.ref sg), v7, v8, v9, v10, v11, v12, none, none, none])
    (v_name 0 rfl) (by omega) (fun H5 r5 => ⟨Nat.zero_le _, L0.on r5, none, none, none, none, none, none, rfl⟩) ?_ ?_ T.b_range nd
  · rintro r σ' H5 hr0 ⟨_, ls, v7, v8, v9, v10, v11, v12, rfl⟩
    have hr1 : r < s.length := by omega
    refine q_set (R := Ex) 8 ((v_sub (v_sub (v_name 0 rfl) v_int) (v_name 7 rfl)).is (w := .int ((s.length - 1 - r : Nat) : Int)) (congrArg V.int (by omega))) (fun H6 r6 => ?_) nd
    refine q_set (R := Ex) 9 (n_lst a_nil (Nat.zero_le _)) (fun mt H7 n7 r7 h7 => ?_) nd
    refine q_set (R := Ex) 10 v_str (fun H8 r8 => ?_) nd
    have l8 := ls.on (r6.tr (r7.tr r8))
    have l6 := ls.on r6
    have e1 : dn ≠ mt := ne_of_none l6.d n7
    have e2 : rg ≠ mt := ne_of_none l6.g n7
    have e3 : me ≠ mt := by obtain ⟨xs, h, _⟩ := l6.m; exact ne_of_none h n7
    have e4 : sg ≠ mt := ne_of_none l6.s n7
    have m5 : H mt = none := none_back l6.ex n7
    refine q_forR (R := Ex) 11 (fun c σ' H' => c ≤ t.length ∧ LS s t H dn rg me sg r c H' ∧ (∃ ys, H' mt = some (.lst ys) ∧ ys.length = c) ∧ ∃ v11 v12, σ' = [some (.int (s.length : Int)), some (.int (t.length : Int)), some (.ref f), some (.ref dn), some (.ref rg), some (.ref me), some (.ref sg), some (.int (r : Int)), some (.int (EE s t r c (s.length - 1 - r + c) : Int)), some (.ref mt), some (.str (mkS (tel s t r c))), v11, v12, none, none, none])
      (v_name 1 rfl) (by omega) (fun H9 r9 => ⟨Nat.zero_le _, l8.on r9, ⟨[], r9 _ _ (r8 _ _ h7), rfl⟩, v11, v12, by rw [Nat.add_zero, EE_first hr1]; rfl⟩) ?_ ?_ T.b_range nd
    · rintro c σ' H9 hc0 ⟨_, ls9, ⟨ys, hy, yl⟩, w11, w12, rfl⟩
      have hc1 : c < t.length := by omega
      refine q_set (R := Ex) 12 ((v_ixL (v_name 3 rfl) (v_name 11 rfl) (fun H r => SqL.of (r _ _ ls9.d)) (vL_at hc1)).is (w := .int (EE s t r c (s.length - 1 - r + c + 1) : Int)) (by rw [DD_at hr1])) (fun H10 r10 => ?_) nd
      refine q_app (R := Ex) (xs := ys) (x_name 9 rfl) (r10 _ _ hy) (p_tup (a_v (v_name 8 rfl) (a_1 (v_name 12 rfl))) (fun vs _ e => by rw [e]; show 2 ≤ sizeLine; decide)) (fun v H11 r11 k11 => ⟨ys, r11 _ _ (r10 _ _ hy), by rw [yl]; exact Nat.lt_of_le_of_lt (by omega : c ≤ 48) (by decide), ?_⟩) kP_mono
      have l11 := (ls9.on (r10.tr r11)).oth (o := .lst (ys ++ [v])) m5 e1 e2 e3 e4
      have y11 : upd H11 mt (.lst (ys ++ [v])) mt = some (.lst (ys ++ [v])) := upd_same
      have yl2 : (ys ++ [v]).length = c + 1 := by rw [List.length_append, yl]; rfl
      refine q_if (R := Ex) (t_val (v_lam 2 rfl S C hr (l11.ex _ _ hf) (l11.ex _ _ hc) (a_v (v_name 7 rfl) (a_v (v_name 11 rfl) (a_v (v_name 8 rfl) (a_1 (v_name 12 rfl))))) rfl hb fun A outer s' H12 r12 => hgv A outer s' H12 (l11.ex.tr r12) r c hr1 hc1)) (fun hx H12 r12 => ?_) (fun hx H12 r12 => ?_)
      · have l12 := l11.on r12
        refine q_augS (R := Ex) 10 rfl v_str (by rw [mkS_len, tel_len]; exact Nat.le_trans (by omega : c + 1 ≤ 1000) (small_line (Nat.le_refl _))) (fun H13 r13 => RB.nil (RB.nil ⟨hc1, ?_, ⟨_, r13 _ _ (r12 _ _ y11), yl2⟩, some (.int (c : Int)), some (.int (EE s t r c (s.length - 1 - r + c + 1) : Int)), ?_⟩)) nd
        · have l13 := l12.on r13
          exact ⟨l13.ex, by rw [l13.d]; exact congrArg (fun l => some (HO.lst l)) (vL_congr fun i hi => (DD_x hr1 hc1 hx).symm), l13.g, l13.m, l13.s⟩
        · rw [AA_x hc1 hx, str_x, mkS_app, tel_succ, if_pos hx]
          rfl
      · have l12 := l11.on r12
        refine q_augS (R := Ex) 10 rfl v_str (by rw [mkS_len, tel_len]; exact Nat.le_trans (by omega : c + 1 ≤ 1000) (small_line (Nat.le_refl _))) (fun H13 r13 => ?_) nd
        have l13 := l12.on r13
        refine q_setL (R := Ex) (v_name 8 rfl) (fun H14 r14 => ⟨dn, _, _, c, x_name 3 rfl, x_name 11 rfl, r14 _ _ l13.d, ixN_nat (by rw [vL_len]; exact hc1), ?_⟩) kV_mono
        have l14 := l13.on r14
        refine q_set (R := Ex) 8 (v_name 12 rfl) (fun H15 r15 => RB.nil (RB.nil ⟨hc1, ?_, ⟨_, r15 _ _ ?_, yl2⟩, some (.int (c : Int)), some (.int (EE s t r c (s.length - 1 - r + c + 1) : Int)), ?_⟩)) nd
        · obtain ⟨xs, h5, h6⟩ := l14.m
          refine LS.on ⟨l14.ex.mu m1, ?_, by rw [upd_ne d12.symm]; exact l14.g, ⟨xs, by rw [upd_ne d13.symm]; exact h5, h6⟩, by rw [upd_ne d14.symm]; exact l14.s⟩ r15
          rw [upd_same, vL_set hc1]
          exact congrArg (fun l => some (HO.lst l)) (vL_congr fun i hi => (DD_o hr1 hc1 hx).symm)
        · rw [upd_ne e1.symm]
          exact r14 _ _ (r13 _ _ (r12 _ _ y11))
        · rw [AA_o hc1 hx, str_o, mkS_app, tel_succ, hx, if_neg Bool.false_ne_true]
          rfl
    · rintro σ' H9 ⟨_, ls9, ⟨ys, hy, yl⟩, w11, w12, rfl⟩
      rw [Int.toNat_natCast] at ls9 yl
      obtain ⟨xs, hx, xl⟩ := ls9.m
      refine q_app (R := Ex) (xs := xs) (x_name 5 rfl) hx (v_name 9 rfl) (fun H10 r10 => ⟨xs, r10 _ _ hx, by rw [xl]; exact Nat.lt_of_le_of_lt (by omega : r ≤ 48) (by decide), ?_⟩) kV_mono
      have s1 : upd H10 me (.lst (xs ++ [V.ref mt])) sg = some (.lst (rowsV s t r)) := by rw [upd_ne d34.symm]; exact r10 _ _ ls9.s
      refine q_app (R := Ex) (xs := rowsV s t r) (x_name 6 rfl) s1 (v_name 10 rfl) (fun H11 r11 => ⟨_, r11 _ _ s1, by rw [rowsV_len]; exact Nat.lt_of_le_of_lt (by omega : r ≤ 48) (by decide), ?_⟩) kV_mono
      have g1 : upd H11 sg (.lst (rowsV s t r ++ [.str (mkS (tel s t r (t.length : Int).toNat))])) rg = some (.lst (vL r (RR s t r))) := by rw [upd_ne d24, r11 _ _ (by rw [upd_ne d23]; exact r10 _ _ ls9.g)]
      refine q_app (R := Ex) (xs := vL r (RR s t r)) (x_name 4 rfl) g1 (v_name 8 rfl) (fun H12 r12 => ⟨_, r12 _ _ g1, by rw [vL_len]; exact Nat.lt_of_le_of_lt (by omega : r ≤ 48) (by decide), ?_⟩) kV_mono
      refine RB.nil ⟨hr1, ⟨?_, ?_, ?_, ⟨xs ++ [V.ref mt], ?_, by rw [List.length_append, xl]; rfl⟩, ?_⟩, _, _, _, _, _, _, rfl⟩
      · exact ((((ls9.ex.tr r10).mu m3).tr r11).mu m4 |>.tr r12).mu m2
      · rw [upd_ne d12, r12 _ _ (by rw [upd_ne d14, r11 _ _ (by rw [upd_ne d13, r10 _ _ ls9.d])])]
        exact congrArg (fun l => some (HO.lst l)) (vL_congr fun i hi => DD_end hr1 hi)
      · rw [upd_same, ← vL_snoc]
        refine congrArg (fun l => some (HO.lst l)) ?_
        rw [vL_congr fun i hi => RR_old hr1 hi, ← RR_new, Int.toNat_natCast]
      · rw [upd_ne d23.symm]
        exact r12 _ _ (by rw [upd_ne d34]; exact r11 _ _ upd_same)
      · rw [upd_ne d24.symm, r12 _ _ upd_same, rowsV_succ, Int.toNat_natCast]
        rfl
  · rintro σ' H5 ⟨_, ls, v7, v8, v9, v10, v11, v12, rfl⟩
    rw [Int.toNat_natCast] at ls
    refine q_set (R := Ex) 13 (n_rep (n_lst (a_1 v_int) (by show 1 ≤ sizeLine; decide)) ((v_add (v_name 0 rfl) (v_name 1 rfl)).is (w := .int ((s.length + t.length : Nat) : Int)) (by rw [Int.natCast_add])) (by omega) (by omega) (by rw [Int.toNat_natCast]; exact small_line (by show 1 * (s.length + t.length) ≤ 1000; omega))) (fun go H6 n6 r6 h6 => ?_) nd
    have b := bij_LN s t
    rw [rep_flat, Int.toNat_natCast, opL_0 _ (runF (W s t) id) (LN s t)] at h6
    have l6 := ls.on r6
    have m6 : H go = none := none_back ls.ex n6
    have sgo : sg ≠ go := ne_of_none ls.s n6
    refine q_forE (R := Ex) 14 15 (xs := vL (s.length + t.length) (runF (W s t) id)) (Pq := fun q => q ≠ go) (fun q i σ' H' => q ≠ go ∧ SqL K H' q (vL (s.length + t.length) (runF (W s t) id)) ∧ Ex H H' ∧ H' sg = some (.lst (rowsV s t s.length)) ∧ H' go = some (.lst (opL (s.length + t.length) (runF (W s t) id) (LN s t) i)) ∧ ∃ v14 v15, σ' = [some (.int (s.length : Int)), some (.int (t.length : Int)), some (.ref f), some (.ref dn), some (.ref rg), some (.ref me), some (.ref sg), v7, v8, v9, v10, v11, v12, some (.ref go), v14, v15])
      (((n_cat ((v_name 3 rfl).p fun H7 r7 => ⟨dn, rfl, r7 _ _ l6.d⟩) (n_rev (v_name 4 rfl) fun H7 r7 => SqL.of (r7 _ _ l6.g)).p (by rw [vL_len, List.length_reverse, vL_len]; exact small_line (by omega))).is (last_DR s t)).pf.imp fun v H7 r7 k7 => k7.imp fun H8 r8 ⟨q, e1, e2, e3⟩ => ⟨q, e1, (ne_of_none h6 e2).symm, SqL.of e3⟩)
      (fun q H7 r7 hq h7 => ⟨hq, h7.now, l6.ex.tr r7, r7 _ _ l6.s, r7 _ _ h6, none, none, rfl⟩) (fun q i σ' H' _ p' => p'.2.1) ?_ ?_ T.b_enumerate nd
    · rintro q i x σ' H' T' hi ⟨qn, hq, ex, hsg, hgo, w14, w15, rfl⟩ hT
      have hik : i < s.length + t.length := by
        have := (List.getElem?_eq_some_iff.mp hi).1
        rw [vL_len] at this
        exact this
      rw [vL_get hik] at hi
      obtain rfl := Option.some.inj hi
      have hg := b.fl i hik
      have tw : Ex H' (upd H' T' (.tup [.int (i : Int), .int (runF (W s t) id i : Int)])) := Ex.nw hT
      refine q_setL (v_name 14 rfl : EvV _ Ex _ _ _ _) (fun H8 r8 => ⟨go, opL (s.length + t.length) (runF (W s t) id) (LN s t) i, _, runF (W s t) id i, x_name 13 rfl, x_name 15 rfl, r8 _ _ (tw _ _ hgo), ixN_nat (by unfold opL; rw [vL_len]; exact hg), ?_⟩) kV_mono
      refine RB.nil ⟨qn, SqL.oth (SqL.ext hq (tw.tr r8)) qn, (ex.tr (tw.tr r8)).mu m6, by rw [upd_ne sgo]; exact r8 _ _ (tw _ _ hsg), ?_, _, _, rfl⟩
      rw [opL_set b hik]
      exact upd_same
    · rintro q σ' H' ⟨qn, hq, ex, hsg, hgo, w14, w15, rfl⟩
      rw [vL_len, opL_all b] at hgo
      refine q_ret (R := Ex) (p_tup (a_v (v_name 5 rfl) (a_v (v_name 6 rfl) (a_1 (v_name 13 rfl)))) (fun vs _ e => by rw [e]; show 3 ≤ sizeLine; decide)) fun v H8 r8 k8 => ?_
      obtain ⟨u, vs, rfl, hu, rfl⟩ := k8.now
      exact kq _ H8 (ex.tr r8) ⟨u, me, sg, go, rfl, hu, r8 _ _ hsg, r8 _ _ hgo⟩
end
end PT
namespace PT
open PySem PySem.Spec PyProof.Rows L2
/-! ### led called with a lambda that is known -/
section
variable {X : Cx} {Tb : List (Addr × Str)} {σ : L2.St} {H : Hp} {e1 e2 e3 : Expr} {p pos : Pos} (T : Txt X.K X.mg)
include T
theorem re_led {mk : Addr → LmF} {cl : List (Str × Addr)} {fr : List Str} {js : List Nat} {N : List Str} {s t : List Nat} {Q : VK} (hr : Room 2 X.A)
    (ha : EvA X (ExB Tb) [e1, e2, e3] σ H (fun vs H' => ∃ f c', vs = [.int (s.length : Int), .int (t.length : Int), .ref f] ∧ H' f = some (LamO f (mk c')) ∧ H' c' = some (LamX.CodeO c' (mk c').qual)))
    (cp : X.Ok → NdefX.Caps X cl fr js) (hcl : ∀ c', (mk c').cl = cl) (hcc : ∀ c', (mk c').c = c') (S : ∀ c', NdefX.NScope N ["row", "column", "across", "above"] fr (mk c').scope)
    (hb : ∀ (c' : Addr) (pm ctv : Value) (us : List Value), us.length = 4 → bindArgs (PySem.W.kla_fn "<lambda>" (mk c').qual (mk c').params (mk c').body (mk c').scope (mk c').cl pm (.ref (mk c').c) ctv) ⟨us, []⟩ = pure ((["row", "column", "across", "above"] : List Str).zip us))
    (hgv : ∀ c' f H1, ExB Tb H H1 → GivesC X.prog X.w X.K X.mg X.base (mk c') f N (js.map (NdefX.slotAt σ)) s t H1) (hm : s.length ≤ 48) (hn : t.length ≤ 48) (kq : ∀ v H1 H2, ExB Tb H H1 → Ex H1 H2 → IsLed s t v H2 → Q v H2) (hg : Gl X "led" := by rfl)
    (he : starEach [e1, e2, e3] X.env = (false, eval e1 X.env) :: starEach [e2, e3] X.env := by rfl) (hpl : (backTo pos (starEach [e2, e3] X.env)).any (·.1) = false := by rfl) : RE X (.Call (.Name "led" p) [e1, e2, e3] [] pos) σ H Q := by
  intro pins s0 I
  obtain ⟨fd, F⟩ := T.d_led
  have bnd := F.bindsN (ps := ["many", "far", "crosses"]) (fun _ _ _ _ _ _ us hl => match us, hl with | [_, _, _], _ => rfl)
  have kp := F.kp
  obtain ⟨oc, od, dV, kV, doc, pm, an, cdv, ct, osl, rfl, lk, hcd, _, _⟩ := F.ex
  refine wpAny_Call_Name_kw (ld_glob I hg T.g_led ?_ (by decide))
  refine PySem.W.callWith_K (h₀ := X.base) I.ok.mod.kin kp (thn (ha H (Rl.rfl H) (fun vs H2 => ExB Tb H H2 ∧ ∃ f c', vs = [.int (s.length : Int), .int (t.length : Int), .ref f] ∧ H2 f = some (LamO f (mk c')) ∧ H2 c' = some (LamX.CodeO c' (mk c').qual)) (fun vs H2 r k => ⟨r, k.now⟩) pos pins s0 I) fun us s2 ⟨vs, H2, I2, r, r2, f, c', ev, hf, hc⟩ => ⟨I2.kIn, ?_⟩) he hpl
  subst ev
  have C := NdefX.cells_of I2 (cp I2.ok)
  have rc : codeAny (model X.prog X.w) X.A (.call (.ref (He.ga X.K "led")) ⟨us, []⟩) (CR CX0 X.stack X.prog X.w H2 s2 Q E0) s2 := by
    refine LamX.run_ofS (N := Nled) (ps := ["many", "far", "crosses"]) (us := us) (vs := [.int (s.length : Int), .int (t.length : Int), .ref f]) lk hcd sc_led hr I2.env0 ?_ r rfl fun hr' => ⟨_, pss_RB.nox, ?_⟩
    · have := bnd s2 us I2.kIn (by rw [List.append_nil, ← r.length]; rfl)
      rw [List.append_nil] at this
      exact this
    · exact led_body T hr' (S c') (by rw [hcl c']; exact C) hf (by rw [hcc c']; exact hc) (hb c') (hgv c' f H2 r2) hm hn fun v H3 r3 h3 => kq v H2 H3 r2 r3 h3
  refine wpAny_call (codeAny_mono rc fun r s' hq => ?_)
  cases r with
  | error e => exact pass0 pins σ H2 s2 e s' I2 hq
  | ok fl =>
    cases fl with
    | ret u => exact I2.after hq
    | next => exact False.elim hq
    | brk => exact False.elim hq
    | cont => exact False.elim hq
end
/-! ### a def whose code object is known -/
theorem ok_ofC {P : Program} {w : World} {K : PySem.W.Frag} {mg : Str → Option Value} {base : Heap} {p : Str × Option Str} {n q : Str} {st : Stmt} {N ps : List Str} {k : Nat} {sp : Sp} (D : DefF K p n q st) (S : FnScope N ps (defScope st))
    (hb : ∀ (kV doc pm : Value) (an : Option Addr) (cdv ct : Value) (us : List Value), us.length = ps.length → bindArgs (PySem.W.fnOf n q (defArgs st) (defBody st) (defScope st) .none kV doc pm an cdv ct) ⟨us, []⟩ = pure (ps.zip us)) (len : ∀ vs H Q E, sp vs H Q E → vs.length = ps.length)
    (body : ∀ (A : Around) (outer : List Env) (s : Shared) (H : Hp) (vs : List V) (Q : VK) (E : XK), Room k (A.deeper (envOfC q (defScope st) s.heap.objs.size (He.fAd K p) (.ref (He.codeOf K p)))) → sp vs H Q E →
      RB (cx P w K mg base N q st (He.fAd K p) (.ref (He.codeOf K p)) A outer s H E) (defBody st) { nx := fun _ H' => Q .non H', rt := Q } (start N vs) H) : Ok P w K mg base (k + 1) (He.fAd K p) ps sp := by
  obtain ⟨fd, F⟩ := D
  refine ⟨⟨fd, ?_, F.bindsN hb⟩, F.kp⟩
  obtain ⟨oc, od, dV, kV, doc, pm, an, cdv, ct, osl, rfl, lk, hcd, _, _⟩ := F.ex
  obtain ⟨c, rfl⟩ := He.codeIn_ref hcd
  have e := He.codeOf_eq lk rfl
  refine fn_of lk hcd S len fun A outer s H vs Q E hr hsp => ⟨_, pss_RB.nox, ?_⟩
  rw [← e] at hr ⊢
  exact body A outer s H vs Q E hr hsp
end PT
namespace PT
open PySem PySem.Spec PyProof.Rows L2
local macro_rules | `(tactic| walk_at "lk") => `(tactic| (repeat (first | rw [L2.lookup_putF, if_pos rfl] | rw [L2.lookup_putF, if_neg (by decide +kernel)])) <;> first | rfl | assumption | done)
/-! ### == of lists of numbers and texts -/
def dv : V → PyData
  | .int i => .int i
  | .str s => .str s
  | _ => .none
def isF (v : V) : Prop := (∃ i, v = .int i) ∨ ∃ l : List Nat, v = .str (mkS l) ∧ ∀ c ∈ l, c < 1000
theorem dpAll {K : PySem.W.Frag} {H : Hp} : ∀ {xs : List V}, (∀ v ∈ xs, isF v) → DpAll K H xs (xs.map dv)
  | [], _ => .nil
  | v :: vs, h => by
    refine .cons ?_ (dpAll fun w hw => h w (List.mem_cons_of_mem _ hw))
    rcases h v (List.mem_cons_self ..) with ⟨i, rfl⟩ | ⟨s, rfl, _⟩
    · exact .int i
    · exact .str _
theorem strOk_mkS {l : List Nat} (h : ∀ c ∈ l, c < 1000) : PyData.strOk (mkS l) = true := by
  show l.toArray.all (fun x => decide (x < 0x110000)) = true
  rw [List.all_toArray, List.all_eq_true]
  exact fun c hc => decide_eq_true (Nat.lt_trans (h c hc) (by decide))
theorem dv_lay {v : V} (h : isF v) : (dv v).canLay0 = true := by
  rcases h with ⟨i, rfl⟩ | ⟨s, rfl, h⟩
  · simp [dv, PyData.canLay0]
  · show PyData.canLay0 (.str (mkS s)) = true
    rw [PyData.canLay0]
    exact strOk_mkS h
theorem dv_depth (v : V) : (dv v).depth ≤ 1 := by cases v <;> simp [dv, PyData.depth]
theorem dvs_lay : ∀ {xs : List V}, (∀ v ∈ xs, isF v) → PyData.canLayAll0 (xs.map dv) = true
  | [], _ => by simp [PyData.canLayAll0]
  | v :: vs, h => by simp [PyData.canLayAll0, dv_lay (h v (List.mem_cons_self ..)), dvs_lay fun w hw => h w (List.mem_cons_of_mem _ hw)]
theorem dvs_depth : ∀ xs : List V, PyData.depthAll (xs.map dv) ≤ 1
  | [] => by simp [PyData.depthAll]
  | v :: vs => by
    have := dvs_depth vs
    have := dv_depth v
    simp only [List.map_cons, PyData.depthAll]
    omega
theorem dvs_lay0 {xs : List V} (h : ∀ v ∈ xs, isF v) : PyData.canLay0 (.list (xs.map dv)) = true := by simp only [PyData.canLay0]; exact dvs_lay h
theorem dvs_shaped {xs : List V} (h : ∀ v ∈ xs, isF v) : SeqAt.shaped (.list (xs.map dv)) = true := by
  have := dvs_depth xs
  have h2 : PyData.depth (.list (xs.map dv)) ≤ 64 := by simp only [PyData.depth]; omega
  show (PyData.canLay0 (.list (xs.map dv)) && decide (PyData.depth (.list (xs.map dv)) ≤ 64)) = true
  rw [dvs_lay0 h, decide_eq_true h2]
  rfl
section
variable {X : Cx} {R : Hp → Hp → Prop} [Rl R] {σ : L2.St} {H : Hp} {a b : Expr} {pos : Pos} {xs : List V}
theorem v_eqD (hu : X.A.units + 64 < cLine) (ha : EvP X R a σ H (fun v H => ∃ q, v = .ref q ∧ SqL X.K H q xs)) (hb : EvP X R b σ H (fun v H => ∃ q, v = .ref q ∧ SqL X.K H q xs)) (hf : ∀ v ∈ xs, isF v) : EvV X R (.Compare a [.Eq] [b] pos) σ H (.bl true) :=
  v_cmpP (op_eqD hu) ha hb fun x y H1 r1 k1 k2 Q q => by
    obtain ⟨p, rfl, h1⟩ := k1.now
    obtain ⟨p', rfl, h2⟩ := k2.now
    refine ⟨_, _, .lst h1 (dpAll hf), .lst h2 (dpAll hf), dvs_shaped hf, dvs_shaped hf, ?_⟩
    rw [SeqAt.eqv_refl _ (dvs_lay0 hf)]
    exact q
theorem t_neD (hu : X.A.units + 64 < cLine) (ha : EvP X R a σ H (fun v H => ∃ q, v = .ref q ∧ SqL X.K H q xs)) (hb : EvP X R b σ H (fun v H => ∃ q, v = .ref q ∧ SqL X.K H q xs)) (hf : ∀ v ∈ xs, isF v) : EvT X R (.Compare a [.NotEq] [b] pos) σ H false :=
  t_cmpP (op_neD hu) ha hb fun x y H1 r1 k1 k2 Q q => by
    obtain ⟨p, rfl, h1⟩ := k1.now
    obtain ⟨p', rfl, h2⟩ := k2.now
    refine ⟨_, _, .lst h1 (dpAll hf), .lst h2 (dpAll hf), dvs_shaped hf, dvs_shaped hf, ?_⟩
    rw [SeqAt.eqv_refl _ (dvs_lay0 hf)]
    exact q
end
theorem isF_vL {k : Nat} {f : Nat → Nat} : ∀ v ∈ vL k f, isF v := fun v hv => by
  obtain ⟨i, _, rfl⟩ := List.mem_map.mp hv
  exact .inl ⟨_, rfl⟩
theorem isF_rows {s t : List Nat} {r : Nat} : ∀ v ∈ rowsV s t r, isF v := fun v hv => by
  obtain ⟨i, _, rfl⟩ := List.mem_map.mp hv
  refine .inr ⟨_, rfl, fun c hc => ?_⟩
  obtain ⟨j, _, rfl⟩ := List.mem_map.mp hc
  split <;> decide
theorem isF_row {l : List Nat} (h : rowOk l) : isF (.str (mkS l)) := .inr ⟨l, rfl, fun c hc => Nat.lt_trans (sg_lt (h.2 c hc)) (by decide)⟩
/-! ### a lambda as an argument -/
def mkL (q : Str) (ps : Arguments) (b : Expr) (sc : Scope) (cells : List (Str × Addr)) : Addr → LmF := fun c' => ⟨q, ps, b, sc, cloFrom cells sc.names [], c'⟩
def IsLam (mk : Addr → LmF) (v : V) (H : Hp) : Prop := ∃ f c', v = .ref f ∧ H f = some (LamO f (mk c')) ∧ H c' = some (LamX.CodeO c' (mk c').qual)
theorem code_nt {c : Addr} {q : Str} : ¬ MT (LamX.CodeO c q) := fun ⟨ps, z⟩ => LamX.codeO_ne ps z
theorem lam_nt {f : Addr} {L : LmF} : ¬ MT (LamO f L) := fun ⟨ps, z⟩ => lamO_nt ps z
theorem IsLam.on {Tb : List (Addr × Str)} {mk : Addr → LmF} {v : V} {H H' : Hp} (h : IsLam mk v H) (e : ExB Tb H H') : IsLam mk v H' := by
  obtain ⟨f, c', h1, h2, h3⟩ := h
  exact ⟨f, c', h1, e.kp _ _ h2 lam_nt, e.kp _ _ h3 code_nt⟩
theorem p_lam {X : Cx} {Tb : List (Addr × Str)} {σ : L2.St} {H : Hp} {c P : Addr} {ps : Arguments} {b : Expr} {sc : Scope} {pos : Pos} (TB : LamX.TabB X.base X.mg c P) (hcode : X.env.code = .ref c) (hm : (P, X.env.qual ++ "<lambda>") ∈ Tb) (hu : ∀ p ∈ Tb, p.1 = P → p.2 = X.env.qual ++ "<lambda>") (hT : LamX.Tabs Tb H)
    (hfree : ∀ y ∈ sc.names, y.2 = .free → X.env.scope.names.lookup y.1 = some .cell ∨ X.env.scope.names.lookup y.1 = some .free) (hdef : defaultsOf ps X.env = ([], []) := by rfl) : EvP X (ExB Tb) (.Lambda ps b sc pos) σ H (IsLam (mkL (X.env.qual ++ "<lambda>") ps b sc X.env.cells)) := fun H1 r1 Q q =>
  RE.of (pe_lam TB hcode hm hu hdef hfree) ⟨r1.t hT, fun f c' H2 r2 _ _ h1 h2 => q (.ref f) H2 r2 fun H3 r3 => ⟨f, c', rfl, r3.kp _ _ h1 lam_nt, r3.kp _ _ h2 code_nt⟩⟩
/-! ### boards -/
def Tb (K : PySem.W.Frag) : List (Addr × Str) := [((He.cT K pB).2, "Board.__init__.<locals>.<lambda>"), ((He.cT K pW).2, "walked.<locals>.<lambda>")]
structure Tbs (K : PySem.W.Frag) (mg : Str → Option Value) (base : Heap) : Prop where
  b : LamX.TabB base mg (He.cT K pB).1 (He.cT K pB).2
  w : LamX.TabB base mg (He.cT K pW).1 (He.cT K pW).2
  ne : (He.cT K pB).2 ≠ (He.cT K pW).2
def BoardAt (K : PySem.W.Frag) (x : Addr) (s t : List Nat) (H : Hp) : Prop := ∃ dx fs sg go, H x = some (.ins (He.ga K "Board") dx fs) ∧ fs.lookup ("signs" : Str) = some (.ref sg) ∧ fs.lookup ("goals" : Str) = some (.ref go) ∧ H sg = some (.lst (rowsV s t s.length)) ∧ H go = some (.lst (vL (s.length + t.length) (LN s t))) ∧
  fs.lookup ("lines" : Str) = none ∧ fs.lookup ("cells" : Str) = none
theorem BoardAt.on {K : PySem.W.Frag} {x : Addr} {s t : List Nat} {H H' : Hp} (h : BoardAt K x s t H) (e : ∀ a o, H a = some o → ¬ MT o → H' a = some o) : BoardAt K x s t H' := by
  obtain ⟨dx, fs, sg, go, h1, h2, h3, h4, h5, h6⟩ := h
  exact ⟨dx, fs, sg, go, e _ _ h1 (by rintro ⟨_, z⟩; cases z), h2, h3, e _ _ h4 (by rintro ⟨_, z⟩; cases z), e _ _ h5 (by rintro ⟨_, z⟩; cases z), h6⟩
/-- all but tables and x stays -/
structure ExX (T : List (Addr × Str)) (x : Addr) (H H' : Hp) : Prop where
  kp : ∀ a o, H a = some o → ¬ MT o → a ≠ x → H' a = some o
  bk : ∀ a, H' a = none → H a = none
  t : LamX.Tabs T H → LamX.Tabs T H'
theorem ExX.of {T : List (Addr × Str)} {x : Addr} {H H' : Hp} (e : ExB T H H') : ExX T x H H' := ⟨fun a o h n _ => e.kp a o h n, e.bk, e.t⟩
theorem ExX.tr {T : List (Addr × Str)} {x : Addr} {H H1 H2 : Hp} (a : ExX T x H H1) (b : ExB T H1 H2) : ExX T x H H2 := ⟨fun p o h n e => b.kp p o (a.kp p o h n e) n, fun p h => a.bk p (b.bk p h), fun h => b.t (a.t h)⟩
theorem tabs_upd {T : List (Addr × Str)} {x C dx : Addr} {fs : List (Str × V)} {H : Hp} {o : HO} (h : LamX.Tabs T H) (hx : H x = some (.ins C dx fs)) : LamX.Tabs T (upd H x o) := fun p hp => by
  obtain ⟨ps, h1, h2, h3⟩ := h p hp
  refine ⟨ps, ?_, h2, fun pos cv hc => ?_⟩
  · rw [upd_ne (fun e => by rw [e, hx] at h1; cases h1)]
    exact h1
  · obtain ⟨c, e1, e2⟩ := h3 pos cv hc
    refine ⟨c, e1, ?_⟩
    rw [upd_ne (fun e => by rw [e, hx] at e2; unfold LamX.CodeO at e2; cases e2)]
    exact e2
theorem ExX.set {T : List (Addr × Str)} {x C dx : Addr} {fs : List (Str × V)} {H H' : Hp} {o : HO} (e : ExX T x H H') (hx : H' x = some (.ins C dx fs)) : ExX T x H (upd H' x o) := ⟨fun p u h n q => by rw [upd_ne q]; exact e.kp p u h n q, fun p h => by
  by_cases q : p = x
  · subst q; rw [upd_same] at h; cases h
  · rw [upd_ne q] at h; exact e.bk p h, fun h => tabs_upd (e.t h) hx⟩
def spBInit (K : PySem.W.Frag) : Sp := fun vs H Q _ => ∃ x dx s t, vs = [.ref x, .str (mkS s), .str (mkS t)] ∧ H x = some (.ins (He.ga K "Board") dx []) ∧ rowOk s ∧ rowOk t ∧ LamX.Tabs (Tb K) H ∧ ∀ H', ExX (Tb K) x H H' → BoardAt K x s t H' → Q .non H'
def lamOf : Stmt → Expr
  | .Assign _ e _ => e
  | .Return (some (.Subscript (.Call _ [_, _, e] _ _) _ _)) _ => e
  | _ => .Constant .none 0 ⟨0, 0, 0, 0⟩
def lamS : Expr → Scope
  | .Lambda _ _ sc _ => sc
  | _ => { kind := .function, names := [], isGenerator := false, isCoroutine := false }
abbrev lB : Expr := lamOf ((defBody (inClass (top 26) 0)).getD 3 (.Pass ⟨0, 0, 0, 0⟩))
abbrev lW : Expr := lamOf ((defBody (top 28)).getD 3 (.Pass ⟨0, 0, 0, 0⟩))
abbrev NlB : List Str := ["row", "column", "across", "above", "side", "top"]
abbrev NlW : List Str := ["row", "column", "across", "above", "cells"]
theorem sc_binit : FnScope ["self", "side", "top", "rule", "meetings", "signs", "goals"] ["self", "side", "top"] (defScope (inClass (top 26) 0)) := ⟨rfl, rfl, rfl, by decide +kernel, rfl, by decide +kernel, by decide +kernel⟩
theorem sc_blines : FnScope ["self"] ["self"] (defScope (inClass (top 26) 3)) := ⟨rfl, rfl, rfl, by decide +kernel, rfl, by decide +kernel, by decide +kernel⟩
theorem sc_bcells : FnScope ["self"] ["self"] (defScope (inClass (top 26) 4)) := ⟨rfl, rfl, rfl, by decide +kernel, rfl, by decide +kernel, by decide +kernel⟩
theorem sc_walked : FnScope ["many", "far", "cells"] ["many", "far", "cells"] (defScope (top 28)) := ⟨rfl, rfl, rfl, by decide +kernel, rfl, by decide +kernel, by decide +kernel⟩
theorem sc_are_cells : FnScope ["many", "far", "thing", "row", "sign"] ["many", "far", "thing"] (defScope (top 27)) := ⟨rfl, rfl, rfl, by decide +kernel, rfl, by decide +kernel, by decide +kernel⟩
theorem sc_is_board : FnScope ["side", "top", "thing", "board"] ["side", "top", "thing"] (defScope (top 29)) := ⟨rfl, rfl, rfl, by decide +kernel, rfl, by decide +kernel, by decide +kernel⟩
theorem ls_B : NdefX.NScope NlB ["row", "column", "across", "above"] ["side", "top"] (lamS lB) := NdefX.nscope_by (by decide +kernel)
theorem ls_W : NdefX.NScope NlW ["row", "column", "across", "above"] ["cells"] (lamS lW) := NdefX.nscope_by (by decide +kernel)
theorem nf_B : NdefX.ndefB (defScope (inClass (top 26) 0)) (lamS lB) ["side", "top"] = true := by decide +kernel
theorem nf_W : NdefX.ndefB (defScope (top 28)) (lamS lW) ["cells"] = true := by decide +kernel
end PT
namespace PT
open PySem PySem.Spec PyProof.Rows L2
local macro_rules | `(tactic| walk_at "lk") => `(tactic| (repeat (first | rw [L2.lookup_putF, if_pos rfl] | rw [L2.lookup_putF, if_neg (by decide +kernel)])) <;> first | rfl | assumption | done)
theorem getD_at {l : List Nat} {i : Nat} (h : i < l.length) : l[i]? = some (l.getD i 0) := by
  simp [List.getD, List.getElem?_eq_getElem h]
/-- a, b, c = e -/
theorem q_tgtX {X : Cx} {σ : L2.St} {H : Hp} {tg e : Expr} {g : TG} {pos : Pos} {rest : List Stmt} {D : Ends} (hg : PG X tg g) (h : RE X e σ H (fun v H2 => g v σ H2 (RB X rest D))) (hs : swapsWithSole [tg] e pos.line X.env = pure false := by rfl) (hw : swappedStores [tg] e X.env = pure none := by rfl)
    (h1 : (assignEach [tg] X.env).map (·.2) = [assign tg X.env] := by rfl) : RB X (.Assign [tg] e pos :: rest) D σ H :=
  RB.cons (RS.of (ps_asg pe_RE hg hs hw h1) h)
theorem p_isl {X : Cx} {Tb : List (Addr × Str)} {σ : L2.St} {H : Hp} {e : Expr} {mk : Addr → LmF} {v : V} (hl : IsLam mk v H) (h : EvV X (ExB Tb) e σ H v) : EvP X (ExB Tb) e σ H (IsLam mk) := h.p fun H1 r1 => hl.on r1
theorem re_led2 {X : Cx} {Tb : List (Addr × Str)} {σ : L2.St} {H : Hp} {e1 e2 e3 : Expr} {p pos : Pos} (T : Txt X.K X.mg) {mk : Addr → LmF} {cl : List (Str × Addr)} {fr : List Str} {js : List Nat} {N : List Str} {s t : List Nat} {Q : VK} (h3 : EvP X (ExB Tb) e3 σ H (IsLam mk)) (hr : Room 2 X.A) (h1 : EvV X (ExB Tb) e1 σ H (.int (s.length : Int))) (h2 : EvV X (ExB Tb) e2 σ H (.int (t.length : Int)))
    (cp : X.Ok → NdefX.Caps X cl fr js) (hcl : ∀ c', (mk c').cl = cl) (hcc : ∀ c', (mk c').c = c') (S : ∀ c', NdefX.NScope N ["row", "column", "across", "above"] fr (mk c').scope)
    (hb : ∀ (c' : Addr) (pm ctv : Value) (us : List Value), us.length = 4 → bindArgs (PySem.W.kla_fn "<lambda>" (mk c').qual (mk c').params (mk c').body (mk c').scope (mk c').cl pm (.ref (mk c').c) ctv) ⟨us, []⟩ = pure ((["row", "column", "across", "above"] : List Str).zip us))
    (hgv : ∀ c' f H1, ExB Tb H H1 → GivesC X.prog X.w X.K X.mg X.base (mk c') f N (js.map (NdefX.slotAt σ)) s t H1) (hm : s.length ≤ 48) (hn : t.length ≤ 48) (kq : ∀ v H1 H2, ExB Tb H H1 → Ex H1 H2 → IsLed s t v H2 → Q v H2) (hg : Gl X "led" := by rfl)
    (he : starEach [e1, e2, e3] X.env = (false, eval e1 X.env) :: starEach [e2, e3] X.env := by rfl) (he2 : starEach [e2, e3] X.env = (false, eval e2 X.env) :: starEach [e3] X.env := by rfl) (he3 : starEach [e3] X.env = (false, eval e3 X.env) :: starEach [] X.env := by rfl)
    (hpl : (backTo pos (starEach [e2, e3] X.env)).any (·.1) = false := by rfl) : RE X (.Call (.Name "led" p) [e1, e2, e3] [] pos) σ H Q :=
  re_led T hr ((a_p (h1.p (P := fun v _ => v = .int (s.length : Int)) (kp_true rfl)) (a_p (h2.p (P := fun v _ => v = .int (t.length : Int)) (kp_true rfl)) (a_p h3 (a_nil (PA := fun ws _ => ws = [])) he3) he2) he).imp fun vs H5 r5 k5 => k5.imp fun H6 r6 h => by
    obtain ⟨_, _, rfl, rfl, _, _, rfl, rfl, _, _, rfl, ⟨f2, c2, rfl, h1, h2⟩, rfl⟩ := h
    exact ⟨f2, c2, rfl, h1, h2⟩) cp hcl hcc S hb hgv hm hn kq hg he hpl
section
variable {P : Program} {w : World} {K : PySem.W.Frag} {mg : Str → Option Value} {base : Heap} (T : Txt K mg)
include T
/-- the board's own lambda -/
theorem gives_B {L : LmF} {f : Addr} {s t : List Nat} {H : Hp} {ps : Arguments} {b : Expr} {pos : Pos} (hl : lB = .Lambda ps b L.scope pos) (hb : L.body = b) (hs : rowOk s) (ht : rowOk t) : GivesC P w K mg base L f NlB [some (.str (mkS s)), some (.str (mkS t))] s t H := by
  intro A outer s' H1 e i j hi hj
  have hsc : L.scope = lamS lB := by rw [hl]; rfl
  obtain ⟨q, pa, bo, sc, cl, c⟩ := L
  have hb : bo = b := hb
  have hsc : sc = lamS lB := hsc
  subst hb hsc
  have eb : bo = (match lB with | .Lambda _ b _ _ => b | e => e) := by rw [hl]
  subst eb
  have s1 := hs.1
  have t1 := ht.1
  refine (v_and (v_ne (v_ixS (v_name 4 rfl) (v_name 0 rfl) (by rw [mkS_len]; exact small_line (by omega)) (mkS_at (getD_at hi))) (v_ixS (v_name 5 rfl) (v_name 1 rfl) (by rw [mkS_len]; exact small_line (by omega)) (mkS_at (getD_at hj)))) fun _ => v_one (v_lt (v_name 2 rfl) (v_name 3 rfl))).is ?_
  show V.bl (!decide (sgn (s.getD i 0) = sgn (t.getD j 0)) && decide ((EE s t i j (s.length - 1 - i + j) : Int) < (EE s t i j (s.length - 1 - i + j + 1) : Int))) = .bl (crs s t i j)
  rw [sgn_eq]
  unfold crs
  congr 1
  by_cases h : s.getD i 0 = t.getD j 0 <;> simp [h]
theorem ok_binit (TB : Tbs K mg base) : Ok P w K mg base 4 (He.fAd K ("Board", some "__init__")) ["self", "side", "top"] (spBInit K) := by
  refine ok_ofC T.d_Board___init__ sc_binit (fun _ _ _ _ _ _ us hl => match us, hl with | [_, _, _], _ => rfl) (fun vs H Q E h => by obtain ⟨_, _, _, _, rfl, _⟩ := h; rfl) (fun A outer s0 H vs Q E hr h => ?_)
  obtain ⟨x, dx, s, t, rfl, hx, hs, ht, hT, kq⟩ := h
  have nd := sc_binit.nd
  refine q_expr (R := Ex) (g_call (K := KV Ex .non) (ok_need_rows T) T.g_need_rows hr (a_v (v_name 1 rfl) (a_1 (v_name 2 rfl))) fun vs H1 r1 k1 Q q => ?_) fun H1 r1 => ?_
  · obtain rfl := k1.now
    exact ⟨s, t, rfl, hs, ht, q⟩
  refine q_fld (R := Ex) (v_name 1 rfl) (fun H2 r2 => ⟨x, He.ga K "Board", dx, [], x_name 0 rfl, r2 _ _ (r1 _ _ hx), T.k_Board, T.n_Board_left_row, by decide, ?_⟩) kV_mono
  have e2 : ExX (Tb K) x H (upd H2 x (.ins (He.ga K "Board") dx (putF "left_row" (.str (mkS s)) []))) := (ExX.of (.of (r1.tr r2))).set (r2 _ _ (r1 _ _ hx))
  refine q_fld (R := Ex) (v_name 2 rfl) (fun H3 r3 => ⟨x, He.ga K "Board", dx, _, x_name 0 rfl, r3 _ _ upd_same, T.k_Board, T.n_Board_upper_row, Nat.lt_of_le_of_lt (length_putF _ _ _) (by decide), ?_⟩) kV_mono
  have e3 : ExX (Tb K) x H (upd H3 x (.ins (He.ga K "Board") dx (putF "upper_row" (.str (mkS t)) (putF "left_row" (.str (mkS s)) [])))) := (e2.tr (.of r3)).set (r3 _ _ upd_same)
  have x3 : upd H3 x (.ins (He.ga K "Board") dx (putF "upper_row" (.str (mkS t)) (putF "left_row" (.str (mkS s)) []))) x = some (.ins (He.ga K "Board") dx (putF "upper_row" (.str (mkS t)) (putF "left_row" (.str (mkS s)) []))) := upd_same
  refine q_set (R := ExB (Tb K)) 3 (p_lam (c := (He.cT K pB).1) (P := (He.cT K pB).2) TB.b rfl (List.mem_cons_self ..) (fun p hp e => ?_) (e3.t hT) (NdefX.ndef_free nf_B)) (fun v H4 r4 k4 => ?_) nd
  · rcases List.mem_cons.mp hp with rfl | hp
    · rfl
    · rw [List.mem_singleton.mp hp] at e
      exact absurd e.symm TB.ne
  refine q_tgtX (pg_tup rfl (pgs_cons (pg_name nd (i := 4) rfl (.inl rfl) (.inl rfl)) (pgs_cons (pg_name nd (i := 5) rfl (.inl rfl) (.inl rfl)) (pgs_cons (pg_name nd (i := 6) rfl (.inl rfl) (.inl rfl)) pgs_nil)))) (re_led2 (Tb := Tb K) T (p_isl k4.now (v_name 3 rfl)) (fr := ["side", "top"]) (js := [1, 2]) (N := NlB) (s := s) (t := t) (hr.mono (by decide))
    (v_lenM rfl T.b_len (v_name 1 rfl) hs.1) (v_lenM rfl T.b_len (v_name 2 rfl) ht.1)
    (fun ok => NdefX.Caps.made ok (NdefX.ndef_free nf_B) (NdefX.ndef_fr nf_B) rfl) (fun _ => rfl) (fun _ => rfl) (fun _ => ls_B) (fun c' pm ctv us hl => match us, hl with | [_, _, _, _], _ => rfl) (fun c' f H5 r5 => gives_B T rfl rfl hs ht) hs.1 ht.1 (fun v' H5 H6 r5 r6 h => ?_))
  · obtain ⟨u, me, sg, go, rfl, hu, hsg, hgo⟩ := h
    refine ⟨u, _, rfl, SqT.of hu, rfl, .ref me, _, rfl, .ref sg, _, rfl, .ref go, _, rfl, rfl, ?_⟩
    have x6 := r6 _ _ (r5.kp _ _ (r4.kp _ _ x3 (by rintro ⟨_, z⟩; cases z)) (by rintro ⟨_, z⟩; cases z))
    have e6 : ExX (Tb K) x H H6 := e3.tr (r4.tr (r5.tr (.of r6)))
    have nsg : sg ≠ x := ne_of hsg x6 (by intro z; cases z)
    have ngo : go ≠ x := ne_of hgo x6 (by intro z; cases z)
    have l3 : (putF "upper_row" (.str (mkS t)) (putF "left_row" (.str (mkS s)) [])).length ≤ 2 := Nat.le_trans (length_putF _ _ _) (Nat.succ_le_succ (length_putF _ _ _))
    refine q_fld (R := Ex) (v_name 4 rfl) (fun H7 r7 => ⟨x, He.ga K "Board", dx, _, x_name 0 rfl, r7 _ _ x6, T.k_Board, T.n_Board_meetings, by omega, ?_⟩) kV_mono
    have e7 := (e6.tr (.of r7)).set (o := .ins (He.ga K "Board") dx (putF "meetings" (.ref me) (putF "upper_row" (.str (mkS t)) (putF "left_row" (.str (mkS s)) [])))) (r7 _ _ x6)
    have l4 : (putF "meetings" (.ref me) (putF "upper_row" (.str (mkS t)) (putF "left_row" (.str (mkS s)) []))).length ≤ 3 := Nat.le_trans (length_putF _ _ _) (Nat.succ_le_succ l3)
    refine q_fld (R := Ex) (v_name 5 rfl) (fun H8 r8 => ⟨x, He.ga K "Board", dx, _, x_name 0 rfl, r8 _ _ upd_same, T.k_Board, T.n_Board_signs, by omega, ?_⟩) kV_mono
    have e8 := (e7.tr (.of r8)).set (o := .ins (He.ga K "Board") dx (putF "signs" (.ref sg) (putF "meetings" (.ref me) (putF "upper_row" (.str (mkS t)) (putF "left_row" (.str (mkS s)) []))))) (r8 _ _ upd_same)
    have l5 : (putF "signs" (.ref sg) (putF "meetings" (.ref me) (putF "upper_row" (.str (mkS t)) (putF "left_row" (.str (mkS s)) [])))).length ≤ 4 := Nat.le_trans (length_putF _ _ _) (Nat.succ_le_succ l4)
    refine q_fld (R := Ex) (v_name 6 rfl) (fun H9 r9 => ⟨x, He.ga K "Board", dx, _, x_name 0 rfl, r9 _ _ upd_same, T.k_Board, T.n_Board_goals, by omega, ?_⟩) kV_mono
    have e9 := (e8.tr (.of r9)).set (o := .ins (He.ga K "Board") dx (putF "goals" (.ref go) (putF "signs" (.ref sg) (putF "meetings" (.ref me) (putF "upper_row" (.str (mkS t)) (putF "left_row" (.str (mkS s)) [])))))) (r9 _ _ upd_same)
    refine RB.nil (kq _ e9 ⟨dx, _, sg, go, upd_same, by walk_at "lk", by walk_at "lk", ?_, ?_, by walk_at "lk", by walk_at "lk"⟩)
    · rw [upd_ne nsg]
      exact r9 _ _ (by rw [upd_ne nsg]; exact r8 _ _ (by rw [upd_ne nsg]; exact r7 _ _ hsg))
    · rw [upd_ne ngo]
      exact r9 _ _ (by rw [upd_ne ngo]; exact r8 _ _ (by rw [upd_ne ngo]; exact r7 _ _ hgo))
end
end PT
namespace PT
open PySem PySem.Spec PyProof.Rows L2
theorem exx_made {T : List (Addr × Str)} {H1 H' : Hp} {x dx C : Addr} (nx : H1 x = none) (nd : H1 dx = none) (e : ExX T x (upd (upd H1 dx (.own x)) x (.ins C dx [])) H') : ExB T H1 H' := ⟨fun a o h n => e.kp a o (made_ex nx nd a o h) n (ne_of_none h nx), fun a h => none_back (made_ex nx nd) (e.bk a h), fun t => e.t (t.ext (made_ex nx nd))⟩
theorem ins_nt {C dx : Addr} {fs : List (Str × V)} : ¬ MT (.ins C dx fs) := by rintro ⟨_, z⟩; cases z
theorem lst_nt {xs : List V} : ¬ MT (.lst xs) := by rintro ⟨_, z⟩; cases z
def IsBd (K : PySem.W.Frag) (s t : List Nat) (v : V) (H : Hp) : Prop := ∃ x, v = .ref x ∧ BoardAt K x s t H
theorem IsBd.on {K : PySem.W.Frag} {s t : List Nat} {v : V} {H H' : Hp} {T : List (Addr × Str)} (h : IsBd K s t v H) (e : ExB T H H') : IsBd K s t v H' := by
  obtain ⟨x, h1, h2⟩ := h
  exact ⟨x, h1, h2.on e.kp⟩
section
variable {P : Program} {w : World} {K : PySem.W.Frag} {mg : Str → Option Value} {base : Heap} (T : Txt K mg)
include T
theorem ok_blines : Ok P w K mg base 1 (He.fAd K ("Board", some "lines")) ["self"] (spCopy "goals" K) := by
  refine ok_of T.d_Board_lines sc_blines (fun _ _ _ _ _ _ us hl => match us, hl with | [_], _ => rfl) (fun vs H Q E h => by obtain ⟨_, _, _, rfl, _⟩ := h; rfl) (fun cdv A outer s H vs Q E hr h => ?_)
  obtain ⟨p, kn, xs, rfl, hf, hk, kq⟩ := h
  exact q_ret (R := Ex) (n_list rfl T.b_list (v_fld (v_name 0 rfl) hf.ex) fun H1 r1 => SqL.of (r1 _ _ hk)) kq
theorem ok_bcells : Ok P w K mg base 1 (He.fAd K ("Board", some "cells")) ["self"] (spCopy "signs" K) := by
  refine ok_of T.d_Board_cells sc_bcells (fun _ _ _ _ _ _ us hl => match us, hl with | [_], _ => rfl) (fun vs H Q E h => by obtain ⟨_, _, _, rfl, _⟩ := h; rfl) (fun cdv A outer s H vs Q E hr h => ?_)
  obtain ⟨p, kn, xs, rfl, hf, hk, kq⟩ := h
  exact q_ret (R := Ex) (n_list rfl T.b_list (v_fld (v_name 0 rfl) hf.ex) fun H1 r1 => SqL.of (r1 _ _ hk)) kq
def spCells : Sp := fun vs H Q _ => ∃ s t a, vs = [.int (s.length : Int), .int (t.length : Int), .ref a] ∧ H a = some (.lst (rowsV s t s.length)) ∧ s.length ≤ 48 ∧ t.length ≤ 48 ∧ Ret (.bl true) H Q
omit T in
theorem str_xo : ("xo" : Str) = mkS [120, 111] := by decide +kernel
theorem ok_are_cells : Ok P w K mg base 1 (He.fAd K ("are_cells", none)) ["many", "far", "thing"] spCells := by
  refine ok_of T.d_are_cells sc_are_cells (fun _ _ _ _ _ _ us hl => match us, hl with | [_, _, _], _ => rfl) (fun vs H Q E h => by obtain ⟨_, _, _, rfl, _⟩ := h; rfl) (fun cdv A outer s0 H vs Q E hr h => ?_)
  obtain ⟨s, t, a, rfl, ha, hm, hn, kq⟩ := h
  have nd := sc_are_cells.nd
  have hL : ∀ {H1}, Ex H H1 → Kp Ex H1 fun H => SqL K H a (rowsV s t s.length) := fun r H2 r2 => SqL.of (r2 _ _ (r _ _ ha))
  refine q_no (R := Ex) ((t_w (w_or (k := false) (l := false) (t_not (k := true) (t_val (v_isi rfl T.b_isinstance (v_name 2 rfl) (v_tyn T.b_list PyProof.Rows.boot_list) (.ty "list") (fun H1 r1 => .base (.lst (r1 _ _ ha))) kit_list_list))) fun _ => w_or1 ((t_ne (v_len rfl T.b_len (v_name 2 rfl) (hL (Ex.rf H))) (v_name 0 rfl)).is (by rw [rowsV_len]; simp))))) fun H1 r1 => ?_
  refine q_forL (R := Ex) 3 (fun i σ' H' => Ex H H' ∧ ∃ v3 v4, σ' = [some (.int (s.length : Int)), some (.int (t.length : Int)), some (.ref a), v3, v4]) (v_name 2 rfl) (hL r1) (fun H2 r2 => ⟨r1.tr r2, none, none, rfl⟩) (fun i σ' H' _ p' => (hL p'.1).now) ?_ ?_ nd
  · rintro i v σ' H' hi ⟨e, v3, v4, rfl⟩
    obtain ⟨r, _, rfl⟩ : ∃ r, r < s.length ∧ rowV s t r = v := by
      obtain ⟨r, hr, hv⟩ := List.mem_map.mp (List.mem_of_getElem? hi)
      exact ⟨r, List.mem_range.mp hr, hv⟩
    refine q_no (R := Ex) ((t_w (w_or (k := false) (l := false) (t_not (k := true) (t_val (v_isi rfl T.b_isinstance (v_name 3 rfl) (v_tyn T.b_str PyProof.Rows.boot_str) (.ty "str") (fun _ _ => .base (.str _)) kit_str_str))) fun _ => w_or1 ((t_ne (v_lenM (s := tel s t r t.length) rfl T.b_len (v_name 3 rfl) (by rw [tel_len]; exact hn)) (v_name 1 rfl)).is (by rw [tel_len]; simp))))) fun H3 r3 => ?_
    refine q_no (R := Ex) (t_not (k := true) (t_val ((v_all (bs := (tel s t r t.length).map fun _ => true) rfl T.b_all (n_lc 4 (i_str (v_name 3 rfl)) ?_ ?_ (by show 4 < 5; decide) (fun s0 H0 C cl fp i x y H2 r2 hx hy => ?_) nd (blkOk_by (N := ["many", "far", "thing", "row", "sign"]) (sc := defScope (top 27)) (by decide +kernel)))).is (by simp)))) fun H4 r4 => RB.nil ⟨e.tr (r3.tr r4), _, _, rfl⟩
    · simp [signs]
    · rw [signs_mkS, List.length_map, tel_len]; omega
    · rw [signs_mkS, List.getElem?_map] at hx
      cases e : (tel s t r t.length)[i]? with
      | none => rw [e] at hx; cases hx
      | some c =>
        rw [e] at hx
        obtain rfl : sgn c = x := Option.some.inj hx
        have hy' : y = .bl true := by
          rw [List.getElem?_map, List.getElem?_map, e] at hy
          exact (Option.some.inj hy).symm
        subst hy'
        refine (v_in (v_name 4 rfl) v_str).is ?_
        obtain ⟨j, _, rfl⟩ := List.mem_map.mp (List.mem_of_getElem? e)
        rw [str_xo]
        split <;> rfl
  · rintro σ' H' ⟨e, v3, v4, rfl⟩
    exact q_ret (R := Ex) v_bl fun H2 r2 => kq H2 (e.tr r2)
theorem gives_W {L : LmF} {f a : Addr} {s t : List Nat} {H : Hp} {ps : Arguments} {b : Expr} {pos : Pos} (hl : lW = .Lambda ps b L.scope pos) (hb : L.body = b) (ha : H a = some (.lst (rowsV s t s.length))) (hn : t.length ≤ 48) : GivesC P w K mg base L f NlW [some (.ref a)] s t H := by
  intro A outer s' H1 e i j hi hj
  have hsc : L.scope = lamS lW := by rw [hl]; rfl
  obtain ⟨q, pa, bo, sc, cl, c⟩ := L
  have hb : bo = b := hb
  have hsc : sc = lamS lW := hsc
  subst hb hsc
  have eb : bo = (match lW with | .Lambda _ b _ _ => b | e => e) := by rw [hl]
  subst eb
  have h1 : atI (rowsV s t s.length) (i : Int) = some (.str (mkS (tel s t i t.length))) := atI_nat (by unfold rowsV; rw [List.getElem?_map, List.getElem?_range hi]; rfl)
  have h2 : (tel s t i t.length)[j]? = some (if crs s t i j = true then 120 else 111) := by unfold tel; rw [List.getElem?_map, List.getElem?_range hj]; rfl
  refine (v_eq (v_ixS (v_ixL (v_name 4 rfl) (v_name 0 rfl) (fun H2 r2 => SqL.of (r2 _ _ (e _ _ ha))) h1) (v_name 1 rfl) (by rw [mkS_len, tel_len]; exact small_line (by omega)) (mkS_at h2)) v_str).is ?_
  refine congrArg V.bl ?_
  rw [str_x]
  show decide (sgn _ = sgn 120) = _
  rw [sgn_eq]
  cases crs s t i j <;> rfl
def spWalked (K : PySem.W.Frag) : Sp := fun vs H Q _ => ∃ s t a, vs = [.int (s.length : Int), .int (t.length : Int), .ref a] ∧ H a = some (.lst (rowsV s t s.length)) ∧ s.length ≤ 48 ∧ t.length ≤ 48 ∧ LamX.Tabs (Tb K) H ∧ ∀ p H', ExB (Tb K) H H' → H' p = some (.lst (vL (s.length + t.length) (LN s t))) → Q (.ref p) H'
theorem ok_walked (TB : Tbs K mg base) : Ok P w K mg base 3 (He.fAd K ("walked", none)) ["many", "far", "cells"] (spWalked K) := by
  refine ok_ofC T.d_walked sc_walked (fun _ _ _ _ _ _ us hl => match us, hl with | [_, _, _], _ => rfl) (fun vs H Q E h => by obtain ⟨_, _, _, rfl, _⟩ := h; rfl) (fun A outer s0 H vs Q E hr h => ?_)
  obtain ⟨s, t, a, rfl, ha, hm, hn, hT, kq⟩ := h
  obtain ⟨tk, htk⟩ := T.c_MOST_ROWS
  refine q_no (R := Ex) (t_not (k := true) (t_val (g_call (K := KV Ex (.bl true)) (ok_is_within T) T.g_is_within hr (a_v (v_name 0 rfl) (a_v v_int (a_1 (v_glob (v := .int 48) htk ⟨tk, rfl⟩)))) fun vs H1 r1 k1 Q q => ?_))) fun H1 r1 => q_no (R := Ex) (t_not (k := true) (t_val (g_call (K := KV Ex (.bl true)) (ok_is_within T) T.g_is_within hr (a_v (v_name 1 rfl) (a_v v_int (a_1 (v_glob (v := .int 48) htk ⟨tk, rfl⟩)))) fun vs H2 r2 k2 Q q => ?_))) fun H2 r2 =>
    q_no (R := Ex) (t_not (k := true) (t_val (g_call (K := KV Ex (.bl true)) (ok_are_cells T) T.g_are_cells (hr.mono (by decide)) (a_v (v_name 0 rfl) (a_v (v_name 1 rfl) (a_1 (v_name 2 rfl)))) fun vs H3 r3 k3 Q q => ?_))) fun H3 r3 => ?_
  · obtain rfl := k1.now
    exact ⟨_, _, _, rfl, by omega, by omega, q⟩
  · obtain rfl := k2.now
    exact ⟨_, _, _, rfl, by omega, by omega, q⟩
  · obtain rfl := k3.now
    exact ⟨s, t, a, rfl, r3 _ _ (r2 _ _ (r1 _ _ ha)), hm, hn, q⟩
  have e3 : Ex H H3 := r1.tr (r2.tr r3)
  refine q_retX (RE.of (pe_ix ix_tup pe_RE pe_RE (fun _ _ => rfl)) (re_led2 (Tb := Tb K) T (p_lam (c := (He.cT K pW).1) (P := (He.cT K pW).2) TB.w rfl (List.mem_cons_of_mem _ (List.mem_cons_self ..)) (fun p hp e => ?_) (hT.ext e3) (NdefX.ndef_free nf_W)) (fr := ["cells"]) (js := [2]) (N := NlW) (s := s) (t := t) hr
    (v_name 0 rfl) (v_name 1 rfl) (fun ok => NdefX.Caps.made ok (NdefX.ndef_free nf_W) (NdefX.ndef_fr nf_W) rfl) (fun _ => rfl) (fun _ => rfl) (fun _ => ls_W) (fun c' pm ctv us hl => match us, hl with | [_, _, _, _], _ => rfl) (fun c' f H5 r5 => gives_W T rfl rfl (r5.kp _ _ (e3 _ _ ha) lst_nt) hn) hm hn (fun v' H5 H6 r5 r6 h => ?_)))
  · rcases List.mem_cons.mp hp with rfl | hp
    · exact absurd e TB.ne
    · rw [List.mem_singleton.mp hp]
      rfl
  · obtain ⟨u, me, sg, go, rfl, hu, hsg, hgo⟩ := h
    exact RE.of pe_int ⟨u, _, 2, .ref go, rfl, rfl, SqT.of hu, rfl, kq go H6 ((ExB.of e3).tr (r5.tr (.of r6))) hgo⟩
end
end PT
namespace PT
open PySem PySem.Spec PyProof.Rows L2
section
variable {X : Cx} {σ : L2.St} {H : Hp} {o a b : Expr} {pos apos p' : Pos} (T : Txt X.K X.mg) {x : Addr} {s t : List Nat}
include T
theorem p_board (TB : Tbs X.K X.mg X.base) (hr : Room 5 X.A) (ha : EvV X (ExB (Tb X.K)) a σ H (.str (mkS s))) (hb : EvV X (ExB (Tb X.K)) b σ H (.str (mkS t))) (hs : rowOk s) (ht : rowOk t) (hT : LamX.Tabs (Tb X.K) H) (hg : Gl X "Board" := by rfl)
    (h1 : starEach [a, b] X.env = (false, eval a X.env) :: starEach [b] X.env := by rfl) (h2 : starEach [b] X.env = (false, eval b X.env) :: starEach [] X.env := by rfl) (hpl : (backTo pos (starEach [b] X.env)).any (·.1) = false := by rfl) :
    EvP X (ExB (Tb X.K)) (.Call (.Name "Board" p') [a, b] [] pos) σ H (IsBd X.K s t) := g_make T.mk_Board (ok_binit T TB) T.g_Board hr (a_v ha (a_1 hb h2) h1) (fun vs H1 r1 k1 x dx nx nd ne Q q => by
  obtain rfl := k1.now
  exact ⟨x, dx, s, t, rfl, upd_same, hs, ht, (r1.t hT).ext (made_ex nx nd), fun H' e b => ⟨rfl, q (.ref x) H' (exx_made nx nd e) fun H3 r3 => ⟨x, rfl, b.on r3.kp⟩⟩⟩) hg (by decide) h1 hpl
theorem n_blines {v : V} (ho : EvP X (ExB (Tb X.K)) o σ H (IsBd X.K s t)) (hr : Room 1 X.A) {pl : Sem Bool}
    (ht : eval (.Call (.Attribute o "lines" apos) [] [] pos) X.env = (do
      let ov ← eval o X.env
      standAt apos.atName
      let (f, first) ← holding [ov] (getMethod ov "lines" pl)
      callWith pos f first (backTo pos (starEach [] X.env)) (backToKw pos (keywordEach [] X.env))) := by rfl) : EvN X (ExB (Tb X.K)) (.Call (.Attribute o "lines" apos) [] [] pos) σ H (vL (s.length + t.length) (LN s t)) := fun H1 r1 Q q => by
  obtain ⟨fd, F, b⟩ := (ok_blines (P := X.prog) (w := X.w) (base := X.base) T).ex
  refine RE.of (pe_meth0 pe_RE T.k_Board T.m_Board_lines F hr b .nil pass0 ht) (ho H1 r1 _ fun v H2 r2 k2 => ?_)
  obtain ⟨x, rfl, dx, fs, sg, go, h1, h2, h3, h4, h5, h6, h7⟩ := k2.now
  refine ⟨x, dx, fs, rfl, h1, h6, ?_⟩
  show spCopy "goals" X.K [.ref x] H2 Q E0
  exact ⟨x, go, _, rfl, ⟨_, dx, fs, h1, T.k_Board, T.n_Board_goals, h3⟩, h5, fun p H3 n3 r3 hp => q p H3 (r2.bk _ n3) (r2.tr (.of r3)) hp⟩
theorem n_bcells {v : V} (ho : EvP X (ExB (Tb X.K)) o σ H (IsBd X.K s t)) (hr : Room 1 X.A) {pl : Sem Bool}
    (ht : eval (.Call (.Attribute o "cells" apos) [] [] pos) X.env = (do
      let ov ← eval o X.env
      standAt apos.atName
      let (f, first) ← holding [ov] (getMethod ov "cells" pl)
      callWith pos f first (backTo pos (starEach [] X.env)) (backToKw pos (keywordEach [] X.env))) := by rfl) : EvN X (ExB (Tb X.K)) (.Call (.Attribute o "cells" apos) [] [] pos) σ H (rowsV s t s.length) := fun H1 r1 Q q => by
  obtain ⟨fd, F, b⟩ := (ok_bcells (P := X.prog) (w := X.w) (base := X.base) T).ex
  refine RE.of (pe_meth0 pe_RE T.k_Board T.m_Board_cells F hr b .nil pass0 ht) (ho H1 r1 _ fun v H2 r2 k2 => ?_)
  obtain ⟨x, rfl, dx, fs, sg, go, h1, h2, h3, h4, h5, h6, h7⟩ := k2.now
  refine ⟨x, dx, fs, rfl, h1, h7, ?_⟩
  show spCopy "signs" X.K [.ref x] H2 Q E0
  exact ⟨x, sg, _, rfl, ⟨_, dx, fs, h1, T.k_Board, T.n_Board_signs, h2⟩, h4, fun p H3 n3 r3 hp => q p H3 (r2.bk _ n3) (r2.tr (.of r3)) hp⟩
end
theorem EvN.sq {X : Cx} {R : Hp → Hp → Prop} [Rl R] {σ : L2.St} {H : Hp} {e : Expr} {xs : List V} (h : EvN X R e σ H xs) : EvP X R e σ H (fun v H => ∃ q, v = .ref q ∧ SqL X.K H q xs) := h.p.imp fun v H1 r1 k1 => k1.imp fun H2 r2 ⟨p, e, hp⟩ => ⟨p, e, SqL.of hp⟩
theorem EvV.sq {X : Cx} {R : Hp → Hp → Prop} [Rl R] {σ : L2.St} {H : Hp} {e : Expr} {xs : List V} {p : Addr} (h : EvV X R e σ H (.ref p)) (hp : H p = some (.lst xs)) : EvP X R e σ H (fun v H => ∃ q, v = .ref q ∧ SqL X.K H q xs) := h.p fun H1 r1 => ⟨p, rfl, SqL.of (Rl.keep r1 hp (Rl.ml xs))⟩
def spIsBoard (K : PySem.W.Frag) : Sp := fun vs H Q _ => ∃ s t a, vs = [.str (mkS s), .str (mkS t), .ref a] ∧ H a = some (.lst (rowsV s t s.length)) ∧ rowOk s ∧ rowOk t ∧ LamX.Tabs (Tb K) H ∧ ∀ H', ExB (Tb K) H H' → Q (.bl true) H'
section
variable {P : Program} {w : World} {K : PySem.W.Frag} {mg : Str → Option Value} {base : Heap} (T : Txt K mg)
include T
theorem ok_is_board (TB : Tbs K mg base) : Ok P w K mg base 6 (He.fAd K ("is_board", none)) ["side", "top", "thing"] (spIsBoard K) := by
  refine ok_of T.d_is_board sc_is_board (fun _ _ _ _ _ _ us hl => match us, hl with | [_, _, _], _ => rfl) (fun vs H Q E h => by obtain ⟨_, _, _, rfl, _⟩ := h; rfl) (fun cdv A outer s0 H vs Q E hr h => ?_)
  obtain ⟨s, t, a, rfl, ha, hs, ht, hT, kq⟩ := h
  have nd := sc_is_board.nd
  have hu : (cx P w K mg base ["side", "top", "thing", "board"] "is_board" (top 29) (He.fAd K ("is_board", none)) cdv A outer s0 H E).A.units + 64 < cLine := hr.units
  refine q_set (R := ExB (Tb K)) 3 (p_board T TB hr (v_name 0 rfl) (v_name 1 rfl) hs ht hT) (fun v H1 r1 k1 => ?_) nd
  have a1 := r1.kp _ _ ha lst_nt
  refine q_ret (R := ExB (Tb K)) (v_and (k := true) (l := true) (v_isi rfl T.b_isinstance (v_name 2 rfl) (v_tyn T.b_list PyProof.Rows.boot_list) (.ty "list") (fun H2 r2 => .base (.lst (r2.kp _ _ a1 lst_nt))) kit_list_list) fun _ => v_one (v_eqD hu ((v_name 2 rfl).sq a1) (n_bcells (v := v) T ((v_name 3 rfl).p (P := IsBd K s t) k1) (hr.mono (by decide))).sq isF_rows)) fun H2 r2 => kq H2 (r1.tr r2)
end
end PT
namespace PT
open PySem PySem.Spec PyProof.Rows L2
/-! ### the law's small defs -/
abbrev IsI (lo hi : Int) (v : V) (_ : Hp) : Prop := ∃ i : Int, v = .int i ∧ lo ≤ i ∧ i < hi
theorem fmod_in (i : Int) {j : Int} (h : 0 < j) : 0 ≤ i.fmod j ∧ i.fmod j < j := by
  rw [Int.fmod_eq_emod_of_nonneg i (Int.le_of_lt h)]
  exact ⟨Int.emod_nonneg i (by omega), Int.emod_lt_of_pos i h⟩
theorem q_setP {X : Cx} {R : Hp → Hp → Prop} [Rl R] {σ : L2.St} {H : Hp} {e : Expr} {pos p' : Pos} {rest : List Stmt} {D : Ends} {P : V → Hp → Prop} (i : Nat) {n : Str} (h : EvP X R e σ H P) (k : ∀ v H2, R H H2 → Kp R H2 (P v) → RB X rest D (σ.set i (some v)) H2) (hN : X.N.Nodup) (hi : X.N[i]? = some n := by rfl) (hx : Loc X.env.scope n := by first | exact Or.inl rfl | exact Or.inr rfl)
    (hs : swapsWith e (some (.Name n p')) pos.line X.env = pure false := by rfl) (hf : X.fn n = true ∨ X.env.scope.names.lookup n = some .local := by first | exact .inl rfl | exact .inr rfl) : RB X (.Assign [.Name n p'] e pos :: rest) D σ H := q_set i h k hN hi hx hs hf
theorem v_pow {X : Cx} {R : Hp → Hp → Prop} [Rl R] {σ : L2.St} {H : Hp} {a b : Expr} {pos : Pos} {i j : Int} (ha : EvV X R a σ H (.int i)) (hb : EvV X R b σ H (.int j)) (hj : 0 ≤ j ∧ j ≤ 1000000 ∧ i.natAbs < 2 ^ 64) : EvV X R (.BinOp a .Pow b pos) σ H (.int (i ^ j.toNat)) := v_op op_pow ha hb fun H1 _ Q q => ⟨i, j, rfl, rfl, hj, q⟩
theorem SqL.on {K : PySem.W.Frag} {H H' : Hp} {a : Addr} {xs : List V} (h : SqL K H a xs) (e : Ex H H') : SqL K H' a xs := SqL.ext h e
def spCell (K : PySem.W.Frag) : Sp := fun vs H Q _ => ∃ (a : Addr) (xs : List Int) (k : Nat), vs = [.ref a, .int (k : Int)] ∧ SqL K H a (xs.map V.int) ∧ ∀ i : Int, Ret (.int i) H Q
def spMix : Sp := fun vs H Q _ => ∃ c k : Int, vs = [.int c, .int k] ∧ ∀ i : Int, 0 ≤ i → i < 2147483587 → Ret (.int i) H Q
/-- numbers below bounds -/
def Tk (ns bs : List Nat) : Prop := ns.length = bs.length ∧ ∀ i, i < bs.length → ns.getD i 0 < bs.getD i 0
def IsTk (bs : List Nat) (v : V) (H : Hp) : Prop := ∃ p ns, v = .ref p ∧ H p = some (.lst (vS ns)) ∧ Tk ns bs
def spTakes : Sp := fun vs H Q _ => ∃ c : Int, ∃ b bs, vs = [.int c, .ref b] ∧ H b = some (.lst (vS bs)) ∧ (∀ x ∈ bs, 0 < x ∧ x < 1000000) ∧ bs.length ≤ 100 ∧ ∀ v H', Ex H H' → IsTk bs v H' → Q v H'
def spSign : Sp := fun vs H Q _ => ∃ c b : Nat, vs = [sgn c, .int (b : Int)] ∧ isSg c = true ∧ ∀ d, isSg d = true → Ret (sgn d) H Q
def spBase : Sp := fun vs H Q _ => ∃ c : Int, vs = [.int c] ∧ ∀ b : Nat, b < 26 → Ret (.int (b : Int)) H Q
def spLWhole : Sp := fun vs H Q _ => ∃ i : Int, vs = [.int i] ∧ Ret (.bl true) H Q
def spLList (K : PySem.W.Frag) : Sp := fun vs H Q _ => ∃ a b xs, vs = [.ref a, .ref b] ∧ H a = some (.lst xs) ∧ SqL K H b xs ∧ (∀ v ∈ xs, ∃ i : Int, v = .int i) ∧ xs.length ≤ 10000 ∧ Ret (.bl true) H Q
theorem sc_cell : FnScope ["_law_script", "_law_k"] ["_law_script", "_law_k"] (defScope (top 69)) := ⟨rfl, rfl, rfl, by decide +kernel, rfl, by decide +kernel, by decide +kernel⟩
theorem sc_mix : FnScope ["_law_cell_here", "_law_k", "_law_number"] ["_law_cell_here", "_law_k"] (defScope (top 70)) := ⟨rfl, rfl, rfl, by decide +kernel, rfl, by decide +kernel, by decide +kernel⟩
theorem sc_takes : FnScope ["_law_cell_here", "_law_bases", "_law_found", "_law_left", "_law_k", "_law_base_here"] ["_law_cell_here", "_law_bases"] (defScope (top 71)) := ⟨rfl, rfl, rfl, by decide +kernel, rfl, by decide +kernel, by decide +kernel⟩
theorem sc_lsign : FnScope ["_law_sign_here", "_law_base_here", "_law_letters"] ["_law_sign_here", "_law_base_here"] (defScope (top 72)) := ⟨rfl, rfl, rfl, by decide +kernel, rfl, by decide +kernel, by decide +kernel⟩
theorem sc_lbase : FnScope ["_law_cell_here"] ["_law_cell_here"] (defScope (top 73)) := ⟨rfl, rfl, rfl, by decide +kernel, rfl, by decide +kernel, by decide +kernel⟩
theorem sc_lwhole : FnScope ["_law_thing"] ["_law_thing"] (defScope (top 75)) := ⟨rfl, rfl, rfl, by decide +kernel, rfl, by decide +kernel, by decide +kernel⟩
theorem sc_llist : FnScope ["_law_found", "_law_due", "_law_number"] ["_law_found", "_law_due"] (defScope (top 76)) := ⟨rfl, rfl, rfl, by decide +kernel, rfl, by decide +kernel, by decide +kernel⟩
theorem Tk.snoc {ns bs : List Nat} {i y x : Nat} (h : Tk ns (bs.take i)) (hi : i < bs.length) (hx : bs[i]? = some x) (hy : y < x) : Tk (ns ++ [y]) (bs.take (i + 1)) := by
  obtain ⟨h1, h2⟩ := h
  rw [List.length_take] at h1
  have hn : ns.length = i := by omega
  refine ⟨by rw [List.length_append, List.length_take]; simp; omega, fun j hj => ?_⟩
  rw [List.length_take] at hj
  by_cases e : j = i
  · subst e
    have e1 : (ns ++ [y]).getD j 0 = y := by rw [List.getD_eq_getElem?_getD, List.getElem?_append_right (by omega), hn]; simp
    have e2 : (bs.take (j + 1)).getD j 0 = x := by rw [List.getD_eq_getElem?_getD, List.getElem?_take_of_lt (by omega), hx]; rfl
    rw [e1, e2]
    exact hy
  · have e1 : (ns ++ [y]).getD j 0 = ns.getD j 0 := by rw [List.getD_eq_getElem?_getD, List.getElem?_append_left (by omega), ← List.getD_eq_getElem?_getD]
    have e2 : (bs.take (i + 1)).getD j 0 = (bs.take i).getD j 0 := by rw [List.getD_eq_getElem?_getD, List.getD_eq_getElem?_getD, List.getElem?_take_of_lt (by omega), List.getElem?_take_of_lt (by omega)]
    rw [e1, e2]
    exact h2 j (by rw [List.length_take]; omega)
section
variable {P : Program} {w : World} {K : PySem.W.Frag} {mg : Str → Option Value} {base : Heap} (T : Txt K mg)
include T
theorem ok_cell : Ok P w K mg base 1 (He.fAd K ("_law_cell", none)) ["_law_script", "_law_k"] (spCell K) := by
  refine ok_of T.d__law_cell sc_cell (fun _ _ _ _ _ _ us hl => match us, hl with | [_, _], _ => rfl) (fun vs H Q E h => by obtain ⟨_, _, _, rfl, _⟩ := h; rfl) (fun cdv A outer s0 H vs Q E hr h => ?_)
  obtain ⟨a, xs, k, rfl, ha, kq⟩ := h
  refine q_if (R := Ex) (t_lt (v_name 1 rfl) (v_len rfl T.b_len (v_name 0 rfl) fun H1 r1 => SqL.on ha r1)) (fun h1 H1 r1 => ?_) (fun h1 H1 r1 => ?_)
  · have h1 : k < xs.length := by have := of_decide_eq_true h1; rw [List.length_map] at this; omega
    refine q_ret (R := Ex) (v_ixL (v_name 0 rfl) (v_name 1 rfl) (fun H2 r2 => SqL.on ha (r1.tr r2)) (v := .int xs[k]) (atI_nat (by rw [List.getElem?_map, List.getElem?_eq_getElem h1]; rfl))) fun H2 r2 => kq _ H2 (r1.tr r2)
  · exact RB.nil (q_ret (R := Ex) (v_add (v_mul v_int (v_name 1 rfl) (by decide)) v_int) fun H2 r2 => kq _ H2 (r1.tr r2))
theorem ok_mix : Ok P w K mg base 1 (He.fAd K ("_law_mix", none)) ["_law_cell_here", "_law_k"] spMix := by
  refine ok_of T.d__law_mix sc_mix (fun _ _ _ _ _ _ us hl => match us, hl with | [_, _], _ => rfl) (fun vs H Q E h => by obtain ⟨_, _, rfl, _⟩ := h; rfl) (fun cdv A outer s0 H vs Q E hr h => ?_)
  obtain ⟨c, k, rfl, kq⟩ := h
  have nd := sc_mix.nd
  have h1 := fmod_in c (j := 2147483629) (by decide)
  refine q_set (R := Ex) 2 (v_mod (v_add (v_add (v_mul (v_mod (v_name 0 rfl) v_int (by decide)) v_int (by omega)) (v_mul v_int (v_name 1 rfl) (by decide))) v_int) v_int (by decide)) (fun H1 r1 => ?_) nd
  have h2 := fmod_in (c.fmod 2147483629 * 48271 + 7919 * k + 101) (j := 2147483647) (by decide)
  generalize (c.fmod 2147483629 * 48271 + 7919 * k + 101).fmod 2147483647 = n at h2 ⊢
  refine q_set (R := Ex) 2 (v_mod (v_add (v_add (v_mul (v_name 2 rfl) (v_name 2 rfl) (by omega)) (v_mul v_int (v_name 1 rfl) (by decide))) v_int) v_int (by decide)) (fun H2 r2 => ?_) nd
  have h3 := fmod_in (n * n + 104729 * k + 7) (j := 2147483629) (by decide)
  generalize (n * n + 104729 * k + 7).fmod 2147483629 = m at h3 ⊢
  refine q_ret (R := Ex) (v_mod (v_mul (v_name 2 rfl) (v_add (v_name 2 rfl) v_int) (by omega)) v_int (by decide)) fun H3 r3 => ?_
  have h4 := fmod_in (m * (m + 3)) (j := 2147483587) (by decide)
  exact kq _ h4.1 h4.2 H3 (r1.tr (r2.tr r3))
end
theorem p_mix {X : Cx} {R : Hp → Hp → Prop} [Rl R] {σ : L2.St} {H : Hp} {a b : Expr} {pos p' : Pos} {c k : Int} (T : Txt X.K X.mg) (hr : Room 1 X.A) (ha : EvV X R a σ H (.int c)) (hb : EvV X R b σ H (.int k)) (hg : Gl X "_law_mix" := by rfl)
    (h1 : starEach [a, b] X.env = (false, eval a X.env) :: starEach [b] X.env := by rfl) (h2 : starEach [b] X.env = (false, eval b X.env) :: starEach [] X.env := by rfl) (hpl : (backTo pos (starEach [b] X.env)).any (·.1) = false := by rfl) : EvP X R (.Call (.Name "_law_mix" p') [a, b] [] pos) σ H (IsI 0 2147483587) :=
  g_call (ok_mix T) T.g__law_mix hr (a_v ha (a_1 hb h2) h1) (fun vs H1 r1 k1 Q q => by
    obtain rfl := k1.now
    exact ⟨c, k, rfl, fun i h1 h2 H' e => q _ H' (Rl.ex e) fun _ _ => ⟨i, rfl, h1, h2⟩⟩) hg (by decide) h1 hpl
theorem p_mod {X : Cx} {R : Hp → Hp → Prop} [Rl R] {σ : L2.St} {H : Hp} {a b : Expr} {pos : Pos} {lo hi : Int} {n : Nat} (ha : EvP X R a σ H (IsI lo hi)) (hb : EvV X R b σ H (.int (n : Int))) (hn : 0 < n) : EvP X R (.BinOp a .Mod b pos) σ H (IsI 0 n) :=
  g_opP op_modN ha (hb.p (P := fun v _ => v = .int (n : Int)) (kp_true rfl)) fun x y H1 r1 k1 k2 Q q => by
    obtain ⟨i, rfl, _⟩ := k1.now
    obtain rfl := k2.now
    have := fmod_in i (j := (n : Int)) (by omega)
    exact ⟨i, n, rfl, rfl, by omega, q _ H1 (Rl.rfl H1) fun _ _ => ⟨_, rfl, this.1, this.2⟩⟩
theorem natOf {lo : Int} {n : Nat} {v : V} {H : Hp} (h : IsI 0 (n : Int) v H) : ∃ k : Nat, v = .int (k : Int) ∧ k < n := by
  obtain ⟨i, rfl, h1, h2⟩ := h
  exact ⟨i.toNat, by rw [Int.toNat_of_nonneg h1], by omega⟩
section
variable {P : Program} {w : World} {K : PySem.W.Frag} {mg : Str → Option Value} {base : Heap} (T : Txt K mg)
include T
theorem ok_takes : Ok P w K mg base 2 (He.fAd K ("_law_takes", none)) ["_law_cell_here", "_law_bases"] spTakes := by
  refine ok_of T.d__law_takes sc_takes (fun _ _ _ _ _ _ us hl => match us, hl with | [_, _], _ => rfl) (fun vs H Q E h => by obtain ⟨_, _, _, rfl, _⟩ := h; rfl) (fun cdv A outer s0 H vs Q E hr h => ?_)
  obtain ⟨c, b, bs, rfl, hb, hbs, hbl, kq⟩ := h
  have nd := sc_takes.nd
  refine q_set (R := Ex) 2 (n_lst a_nil (Nat.zero_le _)) (fun fo H1 n1 r1 h1 => ?_) nd
  refine q_set (R := Ex) 3 (v_name 0 rfl) (fun H2 r2 => ?_) nd
  have bf : b ≠ fo := ne_of_none hb n1
  refine q_forE (R := Ex) 4 5 (xs := vS bs) (Pq := fun q => q = b) (fun q i σ' H' => q = b ∧ Ex H H' ∧ (∃ ns, H' fo = some (.lst (vS ns)) ∧ Tk ns (bs.take i)) ∧ ∃ (left : Int) (v4 v5 : Option V), σ' = [some (.int c), some (.ref b), some (.ref fo), some (.int left), v4, v5])
    ((v_name 1 rfl).p fun H3 r3 => ⟨b, rfl, rfl, SqL.of (r3 _ _ (r2 _ _ (r1 _ _ hb)))⟩) (fun q H3 r3 hq h3 => ⟨hq, r1.tr (r2.tr r3), ⟨[], r3 _ _ (r2 _ _ h1), ⟨rfl, fun i h => by simp at h⟩⟩, c, none, none, rfl⟩) (fun q i σ' H' _ p' => by obtain ⟨rfl, e, _⟩ := p'; exact SqL.of (e _ _ hb)) ?_ ?_ T.b_enumerate nd
  · rintro q i x σ' H' T' hi ⟨rfl, e, ⟨ns, hf, tk⟩, left, v4, v5, rfl⟩ hT
    obtain ⟨y, hy, rfl⟩ := vS_get hi
    have il := (List.getElem?_eq_some_iff.mp hy).1
    have yb := hbs y (List.mem_of_getElem? hy)
    have tw : Ex H' (upd H' T' (.tup [.int (i : Int), .int (y : Int)])) := Ex.nw hT
    have hf' := tw _ _ hf
    have nl : ns.length < sizeLine := by
      have := tk.1
      rw [List.length_take] at this
      exact Nat.lt_of_le_of_lt (by omega : ns.length ≤ 100) (by decide)
    refine q_if (R := Ex) (t_lt (v_name 0 rfl) (v_pow v_int v_int (by decide))) (fun h0 H4 r4 => ?_) (fun h0 H4 r4 => ?_)
    · refine q_app (R := Ex) (x_name 2 rfl) (r4 _ _ hf') (p_mod (p_mix T (hr.mono (by decide)) (v_name 0 rfl) (v_name 4 rfl)) (v_name 5 rfl) yb.1) (fun v H5 r5 k5 => ⟨_, r5 _ _ (r4 _ _ hf'), by rw [vS_len]; exact nl, ?_⟩) kP_mono
      obtain ⟨z, rfl, hz⟩ := natOf (lo := 0) k5.now
      refine RB.nil (RB.nil ⟨rfl, (e.tr (tw.tr (r4.tr r5))).mu n1, ⟨ns ++ [z], ?_, tk.snoc il hy hz⟩, left, _, _, rfl⟩)
      rw [upd_same]
      unfold vS
      rw [List.map_append]
      rfl
    · refine q_app (R := Ex) (x_name 2 rfl) (r4 _ _ hf') ((v_mod (v_name 3 rfl) (v_name 5 rfl) (by omega)).p (P := IsI 0 (y : Int)) (kp_true (by have := fmod_in left (j := (y : Int)) (by omega); exact ⟨_, rfl, this.1, this.2⟩))) (fun v H5 r5 k5 => ⟨_, r5 _ _ (r4 _ _ hf'), by rw [vS_len]; exact nl, ?_⟩) kP_mono
      obtain ⟨z, rfl, hz⟩ := natOf (lo := 0) k5.now
      have f6 : upd H5 fo (.lst (vS ns ++ [.int (z : Int)])) fo = some (.lst (vS (ns ++ [z]))) := by
        rw [upd_same]
        unfold vS
        rw [List.map_append]
        rfl
      refine q_set (R := Ex) 3 (v_fdiv (v_name 3 rfl) (v_name 5 rfl) (by omega)) (fun H6 r6 => RB.nil (RB.nil ⟨rfl, (((e.tr (tw.tr (r4.tr r5))).mu n1)).tr r6, ⟨ns ++ [z], r6 _ _ f6, tk.snoc il hy hz⟩, _, _, _, rfl⟩)) nd
  · rintro q σ' H' ⟨rfl, e, ⟨ns, hf, tk⟩, left, v4, v5, rfl⟩
    rw [vS_len, List.take_length] at tk
    exact q_ret (R := Ex) (v_name 2 rfl) fun H5 r5 => kq _ H5 (e.tr r5) ⟨fo, ns, rfl, r5 _ _ hf, tk⟩
theorem ok_lbase : Ok P w K mg base 2 (He.fAd K ("_law_base", none)) ["_law_cell_here"] spBase := by
  refine ok_of T.d__law_base sc_lbase (fun _ _ _ _ _ _ us hl => match us, hl with | [_], _ => rfl) (fun vs H Q E h => by obtain ⟨_, rfl, _⟩ := h; rfl) (fun cdv A outer s0 H vs Q E hr h => ?_)
  obtain ⟨c, rfl, kq⟩ := h
  refine q_retX (RE.of (pe_ix ix_list pe_RE pe_RE (fun _ _ => rfl)) ((p_lst (R := Ex) (a_p (v_int.p (P := fun v _ => v = .int 0) (kp_true rfl)) (a_p (p_mod (n := 26) (p_mix T hr (v_name 0 rfl) v_int) v_int (by decide)) (a_nil (PA := fun ws _ => ws = [])))) fun vs H h => ?_).go fun v H1 r1 k1 => (p_mod (R := Ex) (n := 2) (p_mix T hr (v_name 0 rfl) v_int) v_int (by decide)).go fun u H2 r2 k2 => ?_))
  · obtain ⟨_, _, rfl, _, _, _, rfl, _, rfl⟩ := h
    show 2 ≤ sizeLine
    decide
  · obtain ⟨p, vs, rfl, hp, _, _, rfl, rfl, _, _, rfl, h4, rfl⟩ := (k1.on r2).now
    obtain ⟨z, rfl, hz⟩ := natOf (lo := 0) h4
    obtain ⟨k, rfl, hk⟩ := natOf (lo := 0) k2.now
    have : k = 0 ∨ k = 1 := by omega
    rcases this with rfl | rfl
    · exact ⟨p, _, _, .int 0, rfl, rfl, SqL.of hp, rfl, kq 0 (by decide) H2 (r1.tr r2)⟩
    · exact ⟨p, _, _, .int (z : Int), rfl, rfl, SqL.of hp, rfl, kq z hz H2 (r1.tr r2)⟩
theorem ok_lwhole : Ok P w K mg base 1 (He.fAd K ("_law_whole", none)) ["_law_thing"] spLWhole := by
  refine ok_of T.d__law_whole sc_lwhole (fun _ _ _ _ _ _ us hl => match us, hl with | [_], _ => rfl) (fun vs H Q E h => by obtain ⟨_, rfl, _⟩ := h; rfl) (fun cdv A outer s0 H vs Q E hr h => ?_)
  obtain ⟨i, rfl, kq⟩ := h
  exact q_ret (R := Ex) (v_and (k := true) (l := true) (v_isi rfl T.b_isinstance (v_name 0 rfl) (v_tyn T.b_int PyProof.Rows.boot_int) (.ty "int") (fun _ _ => .base (.int _)) kit_int_int) fun _ => v_one (v_not (k := false) (v_isi rfl T.b_isinstance (v_name 0 rfl) (v_tyn T.b_bool PyProof.Rows.boot_bool) (.ty "bool") (fun _ _ => .base (.int _)) kit_int_bool))) kq
theorem ok_llist : Ok P w K mg base 2 (He.fAd K ("_law_list", none)) ["_law_found", "_law_due"] (spLList K) := by
  refine ok_of T.d__law_list sc_llist (fun _ _ _ _ _ _ us hl => match us, hl with | [_, _], _ => rfl) (fun vs H Q E h => by obtain ⟨_, _, _, rfl, _⟩ := h; rfl) (fun cdv A outer s0 H vs Q E hr h => ?_)
  obtain ⟨a, b, xs, rfl, ha, hb, hx, hl, kq⟩ := h
  have nd := sc_llist.nd
  have hu : (cx P w K mg base ["_law_found", "_law_due", "_law_number"] "_law_list" (top 76) (He.fAd K ("_law_list", none)) cdv A outer s0 H E).A.units + 64 < cLine := hr.units
  refine q_no (R := Ex) (t_w (w_or (k := false) (l := false) (t_not (k := true) (t_val (v_isi rfl T.b_isinstance (v_name 0 rfl) (v_tyn T.b_list PyProof.Rows.boot_list) (.ty "list") (fun H1 r1 => .base (.lst (r1 _ _ ha))) kit_list_list))) fun _ => w_or1 (t_neD hu ((v_name 0 rfl).sq ha) ((v_name 1 rfl).p fun H1 r1 => ⟨b, rfl, SqL.on hb r1⟩) fun v hv => .inl (hx v hv)))) fun H1 r1 => ?_
  refine q_ret (R := Ex) ((v_cmpP (z := .bl true) op_eq (P := fun v _ => v = .int (xs.length : Int)) (g_b (K := KP Ex (fun v _ => v = .int (xs.length : Int))) call_len_seq T.b_len PySem.boot_len (a_p (n_lcIf 2 (fun _ => true) (i_list ((v_name 0 rfl).sq (r1 _ _ ha))) (by omega) (by show 2 < 3; decide) (fun s0 H0 C cl fp i x H2 r2 hi => ?_) nd (blkOk_by (N := ["_law_found", "_law_due", "_law_number"]) (sc := defScope (top 76)) (by decide +kernel))) (a_nil (PA := fun ws _ => ws = []))) fun vs H2 r2 k2 Q q => ?_)
    ((v_len rfl T.b_len (v_name 1 rfl) fun H2 r2 => SqL.on hb (r1.tr r2)).p (P := fun v _ => v = .int (xs.length : Int)) (kp_true rfl)) fun x y H2 r2 k2 k3 Q q => ?_)) fun H2 r2 => kq H2 (r1.tr r2)
  · obtain ⟨j, rfl⟩ := hx x (List.mem_of_getElem? hi)
    refine t_val (g_call (K := KV Ex (.bl true)) (ok_lwhole T) T.g__law_whole (hr.mono (by decide)) (a_1 (v_name 2 rfl)) fun vs H3 r3 k3 Q q => ?_)
    obtain rfl := k3.now
    exact ⟨j, rfl, q⟩
  · obtain ⟨_, _, rfl, ⟨p, acc, rfl, hp, hl'⟩, rfl⟩ := k2.now
    refine ⟨p, acc, rfl, .inl (SqL.of hp), q _ H2 (Ex.rf H2) fun _ _ => ?_⟩
    rw [hl', List.filter_eq_self.mpr (fun _ _ => rfl), List.length_range]
  · obtain rfl := k2.now
    obtain rfl := k3.now
    exact ⟨rfl, by rw [decide_eq_true rfl]; exact q⟩
end
end PT
namespace PT
open PySem PySem.Spec PyProof.Rows L2
/-- [elt for x in ..], of each element just Py is known -/
theorem n_lcP {X : Cx} {σ : L2.St} {H : Hp} {elt iter : Expr} {pos p' : Pos} (j : Nat) {n : Str} {xs : List V} {scope : Scope} {Py : V → Prop} (h : EvI X Ex (.Name n p') iter σ H xs) (hz : xs.length ≤ 100000) (hj : j < σ.length)
    (he : ∀ s0 H0 C cl fp (i : Nat) x H1, Ex H H1 → xs[i]? = some x → EvP (X.blk s0 H0 scope (compEnvC scope cl C X.env) fp) Ex elt ((wipe σ [j]).set j (some x)) H1 (fun v _ => Py v))
    (hN : X.N.Nodup) (ok : BlkOk X.N X.env.scope scope [(n, j)] := by exact blkOk_by (by decide +kernel)) (hc : X.calm = true := by rfl) (hi : X.N[j]? = some n := by rfl)
    (hx' : ∀ s0 H0 C cl fp, Loc (X.blk s0 H0 scope (compEnvC scope cl C X.env) fp).env.scope n := by first | exact fun _ _ _ _ _ => Or.inl rfl | exact fun _ _ _ _ _ => Or.inr rfl)
    (hf : ∀ s0 H0 C cl fp, (X.blk s0 H0 scope (compEnvC scope cl C X.env) fp).fn n = true ∨ (X.blk s0 H0 scope (compEnvC scope cl C X.env) fp).env.scope.names.lookup n = some .local := by first | exact fun _ _ _ _ _ => .inr rfl | exact fun _ _ _ _ _ => .inl rfl)
    (hfs : ∀ x, foldedSetIterable iter X.env x = pure x := by intro _; rfl) :
    EvP X Ex (.ListComp elt [⟨.Name n p', iter, [], 0⟩] scope pos) σ H (fun v H => ∃ p ys, v = .ref p ∧ H p = some (.lst ys) ∧ ys.length = xs.length ∧ ∀ y ∈ ys, Py y) := fun H1 r1 Q q =>
  RE.of (pe_lc (own := [(n, j)]) (g := gName j) (tt := tYes) (te := REb X scope elt) hc hN pi_RI ok (fun s0 H0 C cl fp => pg_name (X := X.blk s0 H0 scope (compEnvC scope cl C X.env) fp) hN hi (hx' s0 H0 C cl fp) (hf s0 H0 C cl fp)) (fun _ _ _ _ _ => pts_nil)
    (fun s0 H0 C cl fp => ⟨fun pins s σ H Q I h => h s0 H0 C cl fp pins s I⟩) hfs) (h H1 r1 _ fun J G H2 r2 wk kg D hD =>
    lc_it wk (fun i H' => Ex H2 H' ∧ ∃ ys, H' D = some (.lst ys) ∧ ys.length = i ∧ ∀ y ∈ ys, Py y) ⟨Ex.nw hD, [], upd_same, rfl, fun y hy => absurd hy (by simp)⟩ (fun i H' _ p => kg H' p.1) (fun i x H3 H4 hi p ⟨e1, e2⟩ => by
      subst e1
      obtain ⟨p1, ys, p2, p3, p4⟩ := p
      refine ⟨?_, ?_⟩
      · show ((σ.set j none).set j (some x)).set j none = σ.set j none
        rw [List.set_set, List.set_set]
      · intro s0 H0 C cl fp
        refine (he s0 H0 C cl fp i x H4 (r1.tr (r2.tr p1)) e2).go fun y H5 r5 k5 => ⟨ys, r5 _ _ p2, Nat.lt_of_le_of_lt (by omega : ys.length ≤ 100000) (by decide), (p1.tr r5).mu hD, _, upd_same, by rw [List.length_append, p3]; rfl, fun z hz => ?_⟩
        rcases List.mem_append.mp hz with hz | hz
        · exact p4 z hz
        · rw [List.mem_singleton.mp hz]
          exact k5.now) fun H' ⟨p1, ys, p2, p3, p4⟩ => q (.ref D) H' (r2.tr p1) fun H6 r6 => ⟨D, ys, rfl, r6 _ _ p2, p3, p4⟩)
/-- a new list at once indexed -/
theorem v_ixN {X : Cx} {R : Hp → Hp → Prop} [Rl R] {σ : L2.St} {H : Hp} {a b : Expr} {pos : Pos} {xs : List V} {i : Int} {v : V} (ha : EvN X R a σ H xs) (hb : EvV X R b σ H (.int i)) (hi : atI xs i = some v) (hp : PlainIx b := by exact fun _ _ => rfl) : EvV X R (.Subscript a b pos) σ H v := fun H1 r1 Q q =>
  RE.of (pe_ix ix_list pe_RE pe_RE hp) (ha H1 r1 _ fun p H2 n2 r2 h2 => hb H2 (Rl.trans r1 r2) _ fun H3 r3 => ⟨p, xs, i, v, rfl, rfl, SqL.of (Rl.keep r3 h2 (Rl.ml xs)), hi, q H3 (Rl.trans r2 r3)⟩)
theorem ix_al : ∀ c ∈ alpha, (Txt.index0 ("abcdefghijklmnopqrstuvwxyz" : Str) (mkS [c])).isSome = true := by decide +kernel
theorem al_sg : ∀ c ∈ alpha, isSg c = true := by decide +kernel
theorem let_mem {c : Nat} (h : isLet c = true) : c ∈ alpha := by
  rw [← mem_alpha, alpha_eq] at h
  have := of_decide_eq_true h
  simpa using this
theorem v_index {X : Cx} {σ : L2.St} {H : Hp} {a b : Expr} {pos apos : Pos} {c : Nat} (ha : EvV X Ex a σ H (.str "abcdefghijklmnopqrstuvwxyz")) (hb : EvV X Ex b σ H (sgn c)) (hc : isLet c = true) (hcalm : X.calm = true := by rfl) (hs : starEach [b] X.env = (false, eval b X.env) :: starEach [] X.env := by rfl) (hbase : attributeBase a "index" X.env (eval a X.env) = eval a X.env := by rfl)
    (hfew : ((backTo pos (starEach [b] X.env)).all (fun x => !x.1) && (backToKw pos (keywordEach [] X.env)).all (fun x => x.1.isSome) && decide (([b] : List Expr).length + ([] : List Keyword).length + (if ([] : List Keyword).isEmpty then 0 else 1) < 30)) = true := by rfl)
    (hline : (apos.endLine == pos.line) = true := by rfl) (hpl : (backTo pos (starEach [] X.env)).any (·.1) = false := by rfl) : EvP X Ex (.Call (.Attribute a "index" apos) [b] [] pos) σ H (fun v _ => ∃ k : Nat, v = .int (k : Int)) := fun H1 r1 Q q => by
  refine RE.of (pe_bmS PySem.F.plainAttrs_str PySem.F.slot_str_index PySem.F.type_str_index (mt_indexX hcalm LamX.takes0) pe_RE (pa_cons pe_RE pa_nil hs) hbase hfew hline hs hpl) (ha H1 r1 _ fun H2 r2 => ⟨rfl, hb H2 (r1.tr r2) _ fun H3 r3 => ⟨"abcdefghijklmnopqrstuvwxyz", mkS [c], rfl, rfl, fun k hk => q _ H3 (r2.tr r3) fun _ _ => ⟨k, rfl⟩, fun hn => ?_⟩⟩)
  have := ix_al c (let_mem hc)
  rw [hn] at this
  cases this
/-! ### joined signs -/
theorem join_sg (l : List Nat) : Txt.join "" (l.map fun c => (mkS [c] : Str)) = mkS l := by
  rw [TL.join_eq]
  have key : ∀ l : List Nat, TL.joinL [] (l.map fun c => [c]) = l := by
    intro l
    induction l with
    | nil => rfl
    | cons a l ih =>
      cases l with
      | nil => rfl
      | cons b l =>
        show [a] ++ ([] ++ TL.joinL [] ((b :: l).map fun c => [c])) = a :: b :: l
        rw [ih]
        rfl
  have e : TL.tl (Str.join "" (l.map fun c => (mkS [c] : Str))) = l := by
    rw [TL.tl_join, List.map_map]
    show TL.joinL [] (l.map fun c => [c]) = l
    exact key l
  generalize Str.join "" (l.map fun c => (mkS [c] : Str)) = s at e
  obtain ⟨⟨cs⟩⟩ := s
  show (⟨⟨cs⟩⟩ : Str) = ⟨⟨l⟩⟩
  have e : cs = l := e
  rw [e]
theorem sgs_of : ∀ {ys : List V}, (∀ y ∈ ys, ∃ c, y = sgn c ∧ isSg c = true) → ∃ l : List Nat, ys = (l.map fun c => (mkS [c] : Str)).map V.str ∧ l.length = ys.length ∧ ∀ c ∈ l, isSg c = true
  | [], _ => ⟨[], rfl, rfl, fun c hc => absurd hc (by simp)⟩
  | y :: ys, h => by
    obtain ⟨c, rfl, hc⟩ := h y (List.mem_cons_self ..)
    obtain ⟨l, e1, e2, e3⟩ := sgs_of fun z hz => h z (List.mem_cons_of_mem _ hz)
    refine ⟨c :: l, ?_, congrArg Nat.succ e2, fun d hd => ?_⟩
    · rw [e1]; rfl
    · rcases List.mem_cons.mp hd with rfl | hd
      · exact hc
      · exact e3 d hd
theorem sum_ones : ∀ l : List Nat, ((l.map fun c => (mkS [c] : Str)).map (·.length)).sum = l.length
  | [] => rfl
  | c :: l => by
    rw [List.map_cons, List.map_cons, List.sum_cons, sum_ones l, mkS_len, List.length_cons]
    simp
    omega
theorem p_joined {X : Cx} {σ : L2.St} {H : Hp} {a : Expr} {j : _} {p0 pos apos : Pos} {n : Nat} (ha : EvP X Ex a σ H (fun v H => ∃ p ys, v = .ref p ∧ H p = some (.lst ys) ∧ ys.length = n ∧ ∀ y ∈ ys, ∃ c, y = sgn c ∧ isSg c = true)) (hn : n ≤ 48) (hs : starEach [a] X.env = [(false, eval a X.env)] := by rfl) (hbase : attributeBase (.Constant (.str "") j p0) "join" X.env (eval (.Constant (.str "") j p0) X.env) = eval (.Constant (.str "") j p0) X.env := by rfl) (hline : (apos.endLine == pos.line) = true := by rfl) :
    EvP X Ex (.Call (.Attribute (.Constant (.str "") j p0) "join" apos) [a] [] pos) σ H (fun v _ => ∃ l, v = .str (mkS l) ∧ rowOk l ∧ l.length = n) := fun H1 r1 Q q => by
  refine RE.of (pe_join pe_RE pe_RE hs hbase hline) ((v_str (R := Ex)) H1 r1 _ fun H2 r2 => ⟨⟨_, rfl⟩, ha H2 (r1.tr r2) _ fun v H3 r3 k3 => ?_⟩)
  obtain ⟨p, ys, rfl, hp, hl, hy⟩ := k3.now
  obtain ⟨l, rfl, e2, e3⟩ := sgs_of hy
  have ll : l.length = n := by rw [e2]; exact hl
  refine ⟨"", p, l.map fun c => mkS [c], rfl, rfl, .inl (SqL.of hp), ?_, ?_⟩
  · rw [sum_ones]
    show l.length + (l.map fun c => (mkS [c] : Str)).length * 0 ≤ 16777216
    omega
  · rw [join_sg]
    exact q _ H3 (r2.tr r3) fun _ _ => ⟨l, rfl, ⟨by omega, e3⟩, ll⟩
def SG : List (List Nat) := [[97, 98], [97, 98, 99], [46, 97, 98], [97, 46, 98, 122]]
def spText : Sp := fun vs H Q _ => ∃ c : Int, ∃ b : Nat, vs = [.int c, .int 16, .int (b : Int)] ∧ ∀ l, rowOk l → l.length ≤ 16 → Ret (.str (mkS l)) H Q
theorem sc_ltext : FnScope ["_law_cell_here", "_law_most", "_law_base_here", "_law_way", "_law_few", "_law_some", "_law_kinds", "_law_many", "_law_signs", "_law_numbers", "_law_number"] ["_law_cell_here", "_law_most", "_law_base_here"] (defScope (top 74)) := ⟨rfl, rfl, rfl, by decide +kernel, rfl, by decide +kernel, by decide +kernel⟩
theorem sg_str : [("ab" : Str), "abc", ".ab", "a.bz"] = SG.map mkS := by decide +kernel
section
variable {P : Program} {w : World} {K : PySem.W.Frag} {mg : Str → Option Value} {base : Heap} (T : Txt K mg)
include T
theorem ok_lsign : Ok P w K mg base 1 (He.fAd K ("_law_sign", none)) ["_law_sign_here", "_law_base_here"] spSign := by
  refine ok_of T.d__law_sign sc_lsign (fun _ _ _ _ _ _ us hl => match us, hl with | [_, _], _ => rfl) (fun vs H Q E h => by obtain ⟨_, _, rfl, _⟩ := h; rfl) (fun cdv A outer s0 H vs Q E hr h => ?_)
  obtain ⟨c, b, rfl, hc, kq⟩ := h
  have nd := sc_lsign.nd
  refine q_set (R := Ex) 2 v_str (fun H1 r1 => ?_) nd
  refine q_if (R := Ex) ((t_eq (v_name 0 rfl) v_str).is (sgn_dot c)) (fun h1 H2 r2 => ?_) (fun h1 H2 r2 => ?_)
  · exact q_ret (R := Ex) (v_name 0 rfl) fun H3 r3 => kq c hc H3 (r1.tr (r2.tr r3))
  · have h1 := of_decide_eq_false h1
    have hl : isLet c = true := by
      unfold isSg at hc
      rw [decide_eq_false h1, Bool.or_false] at hc
      exact hc
    refine RB.nil (q_retX (RE.of (pe_ix ix_str pe_RE pe_RE (fun _ _ => rfl)) ((v_name (R := Ex) 2 rfl) H2 (Ex.rf H2) _ fun H3 r3 => (g_opP (R := Ex) (K := KP Ex (IsI 0 26)) (P' := fun v _ => v = .int 26) op_modN (g_opP (R := Ex) (K := KP Ex (fun v _ => ∃ i : Int, v = .int i)) (P' := fun v _ => v = .int (b : Int)) op_add (v_index (c := c) (v_name 2 rfl) (v_name 0 rfl) hl) ((v_name 1 rfl).p (kp_true rfl)) fun x y H4 r4 k4 k5 Q q => ?_) (v_int.p (kp_true rfl)) fun x y H4 r4 k4 k5 Q q => ?_).go (H := H3) fun v H4 r4 k4 => ?_)))
    · obtain ⟨k, rfl⟩ := k4.now
      obtain rfl := k5.now
      exact ⟨_, _, rfl, rfl, q _ H4 (Ex.rf H4) fun _ _ => ⟨_, rfl⟩⟩
    · obtain ⟨i, rfl⟩ := k4.now
      obtain rfl := k5.now
      have := fmod_in i (j := 26) (by decide)
      exact ⟨i, 26, rfl, rfl, by show (26 : Int) ≠ 0; decide, q _ H4 (Ex.rf H4) fun _ _ => ⟨_, rfl, this.1, this.2⟩⟩
    · obtain ⟨z, rfl, hz⟩ := natOf (lo := 0) (n := 26) k4.now
      have hz' : z < alpha.length := hz
      have ha : alpha[z]? = some alpha[z] := List.getElem?_eq_getElem hz'
      refine ⟨_, _, alpha[z], rfl, rfl, by decide, ?_, kq _ (al_sg _ (List.getElem_mem hz')) H4 (r1.tr (r2.tr (r3.tr r4)))⟩
      rw [alpha_eq]
      exact mkS_at ha
theorem ok_ltext : Ok P w K mg base 3 (He.fAd K ("_law_text", none)) ["_law_cell_here", "_law_most", "_law_base_here"] spText := by
  refine ok_of T.d__law_text sc_ltext (fun _ _ _ _ _ _ us hl => match us, hl with | [_, _, _], _ => rfl) (fun vs H Q E h => by obtain ⟨_, _, rfl, _⟩ := h; rfl) (fun cdv A outer s0 H vs Q E hr h => ?_)
  obtain ⟨c, b, rfl, kq⟩ := h
  have nd := sc_ltext.nd
  refine q_tgtX (pg_unl (n := 4) rfl (pgs_cons (pg_name nd (i := 3) rfl (.inl rfl) (.inl rfl)) (pgs_cons (pg_name nd (i := 4) rfl (.inl rfl) (.inl rfl)) (pgs_cons (pg_name nd (i := 5) rfl (.inl rfl) (.inl rfl)) (pgs_cons (pg_name nd (i := 6) rfl (.inl rfl) (.inl rfl)) pgs_nil)))))
    ((g_call (R := Ex) (K := KP Ex (IsTk [8, 9, 17, 4])) (ok_takes T) T.g__law_takes hr (a_p ((v_name 0 rfl).p (P := fun v _ => v = .int c) (kp_true rfl)) (a_p (n_lst (xs := [.int 8, .int 9, .int 17, .int 4]) (a_v v_int (a_v ((v_add (v_min rfl T.b_min (v_name 1 rfl) v_int) v_int).is (w := .int 9) rfl) (a_v ((v_add (v_name 1 rfl) v_int).is (w := .int 17) rfl) (a_1 v_int)))) (by show 4 ≤ sizeLine; decide)).p (a_nil (PA := fun ws _ => ws = [])))) fun vs H1 r1 k1 Q q => ?_).go fun v H1 r1 k1 => ?_)
  · obtain ⟨_, _, rfl, rfl, _, _, rfl, ⟨p, rfl, hp⟩, rfl⟩ := k1.now
    exact ⟨c, p, [8, 9, 17, 4], rfl, hp, by decide, by decide, fun v H2 r2 h => q v H2 r2 fun H3 r3 => by obtain ⟨p, ns, h1, h2, h3⟩ := h; exact ⟨p, ns, h1, r3 _ _ h2, h3⟩⟩
  obtain ⟨p, ns, rfl, hp, tl, tb⟩ := k1.now
  obtain ⟨n0, n1, n2, n3, rfl⟩ : ∃ a b c d, ns = [a, b, c, d] := by
    match ns, tl with
    | [a, b, c, d], _ => exact ⟨a, b, c, d, rfl⟩
  have b1 : n1 < 9 := tb 1 (by decide)
  have b2 : n2 < 17 := tb 2 (by decide)
  have b3 : n3 < 4 := tb 3 (by decide)
  refine ⟨p, _, rfl, SqL.of hp, rfl, _, _, rfl, _, _, rfl, _, _, rfl, _, _, rfl, rfl, ?_⟩
  refine q_set (R := Ex) 7 (v_name 4 rfl) (fun H2 r2 => ?_) nd
  have fin : ∀ m H3, m ≤ 16 → Ex H H3 → RB (cx P w K mg base ["_law_cell_here", "_law_most", "_law_base_here", "_law_way", "_law_few", "_law_some", "_law_kinds", "_law_many", "_law_signs", "_law_numbers", "_law_number"] "_law_text" (top 74) (He.fAd K ("_law_text", none)) cdv A outer s0 H E) ((defBody (top 74)).drop 3) { nx := fun _ H' => Q .non H', rt := Q }
      [some (.int c), some (.int 16), some (.int (b : Int)), some (.int (n0 : Int)), some (.int (n1 : Int)), some (.int (n2 : Int)), some (.int (n3 : Int)), some (.int ((m : Nat) : Int)), none, none, none] H3 := fun m H3 hm e3 => by
    have hsg : (SG.map mkS)[n3]? = some (mkS (SG.getD n3 [])) := by
      have : n3 < SG.length := b3
      rw [List.getElem?_map, List.getElem?_eq_getElem this]
      simp [List.getD, List.getElem?_eq_getElem this]
    have hl4 : 0 < (SG.getD n3 []).length ∧ (SG.getD n3 []).length ≤ 4 := by
      have : n3 = 0 ∨ n3 = 1 ∨ n3 = 2 ∨ n3 = 3 := by omega
      rcases this with rfl | rfl | rfl | rfl <;> decide
    have hall : ∀ c ∈ SG.getD n3 [], isSg c = true := by
      have : n3 = 0 ∨ n3 = 1 ∨ n3 = 2 ∨ n3 = 3 := by omega
      rcases this with rfl | rfl | rfl | rfl <;> decide
    generalize SG.getD n3 [] = g at hsg hl4 hall
    refine q_set (R := Ex) 8 (v_ixN (xs := [.str "ab", .str "abc", .str ".ab", .str "a.bz"]) (n_lst (a_v v_str (a_v v_str (a_v v_str (a_1 v_str)))) (by show 4 ≤ sizeLine; decide)) (v_name 6 rfl) (v := .str (mkS g)) (atI_nat (by
      show ([("ab" : Str), "abc", ".ab", "a.bz"].map V.str)[n3]? = _
      rw [sg_str, List.getElem?_map, hsg]
      rfl))) (fun H4 r4 => ?_) nd
    refine q_setP (R := Ex) (P := IsTk (List.replicate m g.length)) 9 (g_call (ok_takes T) T.g__law_takes hr (a_p ((v_fdiv (v_name 0 rfl) v_int (by decide)).p (P := fun v _ => v = .int (c.fdiv 100000)) (kp_true rfl)) (a_p (n_rep (n_lst (a_1 (v_lenM rfl T.b_len (v_name 8 rfl) (by omega))) (by show 1 ≤ sizeLine; decide)) (v_name 7 rfl) (by omega) (by omega) (by rw [Int.toNat_natCast]; exact small_line (by show 1 * m ≤ 1000; omega))).p (a_nil (PA := fun ws _ => ws = [])))) fun vs H5 r5 k5 Q q => ?_) (fun v H5 r5 k5 => ?_) nd
    · obtain ⟨_, _, rfl, rfl, _, _, rfl, ⟨p, rfl, hp⟩, rfl⟩ := k5.now
      refine ⟨_, p, List.replicate m g.length, rfl, ?_, fun x hx => ?_, by rw [List.length_replicate]; omega, fun v H2 r2 h => q v H2 r2 fun H3 r3 => by obtain ⟨p, ns, h1, h2, h3⟩ := h; exact ⟨p, ns, h1, r3 _ _ h2, h3⟩⟩
      · rw [hp, rep_flat, Int.toNat_natCast]
        unfold vS
        rw [List.map_replicate]
      · rw [List.eq_of_mem_replicate hx]
        omega
    · obtain ⟨p5, ks, rfl, hp5, kl, kb⟩ := k5.now
      rw [List.length_replicate] at kl
      refine q_ret (R := Ex) (p_joined (n := m) ((n_lcP (Py := fun v => ∃ c, v = sgn c ∧ isSg c = true) 10 (i_list ((v_name 9 rfl).sq hp5)) (by rw [vS_len]; omega) (by show 10 < 11; decide) (fun s0 H0 C cl fp i x H6 r6 hx => ?_) nd (blkOk_by (N := ["_law_cell_here", "_law_most", "_law_base_here", "_law_way", "_law_few", "_law_some", "_law_kinds", "_law_many", "_law_signs", "_law_numbers", "_law_number"]) (sc := defScope (top 74)) (by decide +kernel))).imp fun v H6 r6 k6 => k6.imp fun H7 r7 ⟨p, ys, h1, h2, h3, h4⟩ => ⟨p, ys, h1, h2, by rw [h3, vS_len, kl], h4⟩) (by omega)) fun v H6 r6 k6 => ?_
      · obtain ⟨k, hk, rfl⟩ := vS_get hx
        have il := (List.getElem?_eq_some_iff.mp hk).1
        have hkg : k < g.length := by
          have := kb i (by rw [List.length_replicate]; omega)
          rw [List.getD_eq_getElem?_getD, hk, List.getD_eq_getElem?_getD, List.getElem?_replicate, if_pos (by omega)] at this
          exact this
        have hg : g[k]? = some g[k] := List.getElem?_eq_getElem hkg
        refine g_call (ok_lsign T) T.g__law_sign (hr.mono (by decide)) (a_v (v_ixS (k := g[k]) (v_name 8 rfl) (v_name 10 rfl) (by rw [mkS_len]; exact small_line (by omega)) (mkS_at hg)) (a_1 (v_name 2 rfl))) fun vs H7 r7 k7 Q q => ?_
        obtain rfl := k7.now
        exact ⟨g[k], b, rfl, hall _ (List.getElem_mem hkg), fun d hd H8 r8 => q _ H8 r8 fun _ _ => ⟨d, rfl, hd⟩⟩
      · obtain ⟨l, rfl, hl, hn⟩ := k6.now
        exact kq l hl (by omega) H6 (e3.tr (r4.tr (r5.tr r6)))
  refine q_if (R := Ex) (t_eq (v_name 3 rfl) v_int) (fun h1 H3 r3 => ?_) (fun h1 H3 r3 => ?_)
  · exact q_set (R := Ex) 7 (v_name 5 rfl) (fun H4 r4 => RB.nil (fin n2 H4 (by omega) (r1.tr (r2.tr (r3.tr r4))))) nd
  · exact RB.nil (fin n1 H3 (by omega) (r1.tr (r2.tr r3)))
end
end PT
namespace PT
open PySem PySem.Spec PyProof.Rows L2
/-! ### the law's own walk -/
def IsDue (s t : List Nat) (v : V) (H : Hp) : Prop := ∃ u g c, v = .ref u ∧ H u = some (.tup [.ref g, .ref c]) ∧ H g = some (.lst (vL (s.length + t.length) (LN s t))) ∧ H c = some (.lst (rowsV s t s.length))
def spLWalk : Sp := fun vs H Q _ => ∃ s t, vs = [.str (mkS s), .str (mkS t)] ∧ rowOk s ∧ rowOk t ∧ ∀ v H', Ex H H' → IsDue s t v H' → Q v H'
abbrev Nlw : List Str := ["_law_side", "_law_top", "_law_many", "_law_falling", "_law_goals", "_law_cells", "_law_row", "_law_line", "_law_signs", "_law_column", "_law_above"]
theorem sc_lwalk : FnScope Nlw ["_law_side", "_law_top"] (defScope (top 77)) := ⟨rfl, rfl, rfl, by decide +kernel, rfl, by decide +kernel, by decide +kernel⟩
theorem i_rangeN {X : Cx} {R : Hp → Hp → Prop} [Rl R] {σ : L2.St} {H : Hp} {tg e : Expr} {n : Nat} {pr pc : Pos} (h : EvV X R e σ H (.int (n : Int))) (hb : n ≤ 100000) (hm : X.mg "range" = none) (hg : Gl X "range" := by rfl) (hs : starEach [e] X.env = (false, eval e X.env) :: starEach [] X.env := by rfl) (hs1 : starEach [e] X.env = [(false, eval e X.env)] := by rfl) :
    EvI X R tg (.Call (.Name "range" pr) [e] [] pc) σ H (intsV n) := i_range h (by omega) hm hg hs hs1
/-- the goals of the lines that have left on the right -/
def GD (s t : List Nat) (r : Nat) (kvs : List (Key × V)) : Prop := (∀ i, i < r → valV kvs (.inl (RR s t r i : Int)) = some (.int ((s.length - 1 - i + t.length : Nat) : Int))) ∧ kvs.length ≤ r
theorem FF_bij {s t : List Nat} {r : Nat} (hr : r ≤ s.length) : ∃ g, Bij (s.length + t.length) (FF s t r) g := ⟨_, bij_run fun p hp => (rowsW_in s t r hr p hp).2⟩
theorem GD.next {s t : List Nat} {r : Nat} {kvs : List (Key × V)} (g : GD s t r kvs) (hr : r < s.length) : GD s t (r + 1) (putK kvs (.inl (RR s t (r + 1) r : Int)) (.int ((s.length - 1 - r + t.length : Nat) : Int))) := by
  obtain ⟨b, hb⟩ := FF_bij (s := s) (t := t) (r := r + 1) hr
  refine ⟨fun i hi => ?_, Nat.le_trans (length_putK _ _ _) (by have := g.2; omega)⟩
  rw [valV_put]
  by_cases h : i = r
  · subst h
    rw [if_pos rfl]
  · have hi2 : i < r := by omega
    have ne : (.inl (RR s t (r + 1) i : Int) : Key) ≠ .inl (RR s t (r + 1) r : Int) := fun e => by
      have e2 : RR s t (r + 1) i = RR s t (r + 1) r := by have := Sum.inl.inj e; omega
      have := hb.inj (by omega) (by omega) e2
      omega
    rw [if_neg ne, ← RR_old hr hi2]
    exact g.1 i hi2
/-- then those at the bottom -/
def GE (s t : List Nat) (c : Nat) (kvs : List (Key × V)) : Prop := (∀ p, p < s.length + t.length → p < c ∨ t.length ≤ p → valV kvs (.inl (runF (W s t) id p : Int)) = some (.int (p : Int))) ∧ kvs.length ≤ s.length + c
theorem GE.start {s t : List Nat} {kvs : List (Key × V)} (g : GD s t s.length kvs) : GE s t 0 kvs := ⟨fun p hp h => by
  have h1 := g.1 (s.length - 1 - (p - t.length)) (by omega)
  unfold RR FF at h1
  rw [runW, show s.length - 1 - (s.length - 1 - (p - t.length)) + t.length = p by omega] at h1
  exact h1, by have := g.2; omega⟩
theorem GE.next {s t : List Nat} {c : Nat} {kvs : List (Key × V)} (g : GE s t c kvs) (hc : c < t.length) : GE s t (c + 1) (putK kvs (.inl (runF (W s t) id c : Int)) (.int (c : Int))) := by
  have hb := bij_LN s t
  refine ⟨fun p hp h => ?_, Nat.le_trans (length_putK _ _ _) (by have := g.2; omega)⟩
  rw [valV_put]
  by_cases e : p = c
  · subst e
    rw [if_pos rfl]
  · have ne : (.inl (runF (W s t) id p : Int) : Key) ≠ .inl (runF (W s t) id c : Int) := fun z => by
      have e2 : runF (W s t) id p = runF (W s t) id c := by have := Sum.inl.inj z; omega
      exact e (hb.inj hp (by omega) e2)
    rw [if_neg ne]
    exact g.1 p hp (by omega)
theorem GE.all {s t : List Nat} {kvs : List (Key × V)} (g : GE s t t.length kvs) {v : Nat} (hv : v < s.length + t.length) : valV kvs (.inl (v : Int)) = some (.int (LN s t v : Int)) := by
  have hb := bij_LN s t
  have h := g.1 (LN s t v) (hb.gl v hv) (by omega)
  rw [hb.fg v hv] at h
  exact h
theorem crs_not {s t : List Nat} {r c : Nat} (hr : r < s.length) (hc : c < t.length) : (decide (sgn (s.getD r 0) = sgn (t.getD c 0)) || decide ((EE s t r c (s.length - 1 - r + c + 1) : Int) < (EE s t r c (s.length - 1 - r + c) : Int))) = !crs s t r c := by
  rw [sgn_eq]
  unfold crs
  obtain ⟨b, hb⟩ := EE_bij (s := s) (t := t) (r := r) (c := c) hr
  have ne : EE s t r c (s.length - 1 - r + c) ≠ EE s t r c (s.length - 1 - r + c + 1) := fun e => by have := hb.inj (by omega) (by omega) e; omega
  by_cases h : s.getD r 0 = t.getD c 0
  · rw [decide_eq_true h, decide_eq_false (p := s.getD r 0 ≠ t.getD c 0) (fun z => z h)]
    rfl
  · rw [decide_eq_false h, decide_eq_true h, Bool.false_or, Bool.true_and]
    by_cases h2 : EE s t r c (s.length - 1 - r + c) < EE s t r c (s.length - 1 - r + c + 1)
    · rw [decide_eq_true h2, decide_eq_false (p := (EE s t r c (s.length - 1 - r + c + 1) : Int) < (EE s t r c (s.length - 1 - r + c) : Int)) (by omega)]; rfl
    · rw [decide_eq_false h2, decide_eq_true (p := (EE s t r c (s.length - 1 - r + c + 1) : Int) < (EE s t r c (s.length - 1 - r + c) : Int)) (by omega)]; rfl
structure LW (s t : List Nat) (H : Hp) (fa go ce : Addr) (r c : Nat) (H' : Hp) : Prop where
  ex : Ex H H'
  d : H' fa = some (.lst (vL t.length (DD s t r c)))
  g : ∃ kvs, H' go = some (.dK kvs) ∧ GD s t r kvs
  s : H' ce = some (.lst (rowsV s t r))
theorem LW.on {s t : List Nat} {H : Hp} {fa go ce : Addr} {r c : Nat} {H' H2 : Hp} (a : LW s t H fa go ce r c H') (e : Ex H' H2) : LW s t H fa go ce r c H2 := by
  obtain ⟨xs, h1, h2⟩ := a.g
  exact ⟨a.ex.tr e, e _ _ a.d, ⟨xs, e _ _ h1, h2⟩, e _ _ a.s⟩
section
variable {P : Program} {w : World} {K : PySem.W.Frag} {mg : Str → Option Value} {base : Heap} (T : Txt K mg)
include T
theorem ok_lwalk : Ok P w K mg base 1 (He.fAd K ("_law_walk", none)) ["_law_side", "_law_top"] spLWalk := by
  refine ok_of T.d__law_walk sc_lwalk (fun _ _ _ _ _ _ us hl => match us, hl with | [_, _], _ => rfl) (fun vs H Q E h => by obtain ⟨_, _, rfl, _⟩ := h; rfl) (fun cdv A outer s0 H vs Q E hr h => ?_)
  obtain ⟨s, t, rfl, hs, ht, kq⟩ := h
  have nd := sc_lwalk.nd
  have sl := hs.1
  have tl := ht.1
  have hu : (cx P w K mg base Nlw "_law_walk" (top 77) (He.fAd K ("_law_walk", none)) cdv A outer s0 H E).A.units + 1 < cLine := by have := hr.units; show (A.deeper _).units + 1 < cLine; omega
  refine q_set (R := Ex) 2 (v_lenM rfl T.b_len (v_name 0 rfl) sl) (fun H1 r1 => ?_) nd
  refine q_setLc 3 9 (xs := intsV t.length) (ys := vL t.length (DD s t 0 0)) (i_rangeN (v_lenM rfl T.b_len (v_name 1 rfl) tl) (by omega) T.b_range) (by rw [vL_len, intsV_eq, vL_len]) (by rw [intsV_eq, vL_len]; omega) (by show 9 < 11; decide) (fun s1 H0 C cl fp i x y H2 r2 hx hy => ?_) (fun fa H2 n2 r2 h2 => ?_) nd rfl rfl rfl (blkOk_by (N := Nlw) (sc := defScope (top 77)) (by decide +kernel))
  · rw [intsV_eq] at hx
    have hi : i < t.length := by have := (List.getElem?_eq_some_iff.mp hx).1; rw [vL_len] at this; exact this
    rw [vL_get hi] at hx hy
    obtain rfl := Option.some.inj hx
    obtain rfl := Option.some.inj hy
    refine (v_add (v_name 2 rfl) (v_name 9 rfl)).is ?_
    rw [← DD_0]
    show V.int ((s.length : Int) + (i : Int)) = .int ((s.length + i : Nat) : Int)
    rw [Int.natCast_add]
  refine q_set (R := Ex) 4 n_dnew (fun go H3 n3 r3 h3 => ?_) nd
  refine q_set (R := Ex) 5 (n_lst a_nil (Nat.zero_le _)) (fun ce H4 n4 r4 h4 => ?_) nd
  have d1 : fa ≠ go := ne_of_none h2 n3
  have d2 : fa ≠ ce := ne_of_none (r3 _ _ h2) n4
  have d3 : go ≠ ce := ne_of_none h3 n4
  have m1 : H fa = none := none_back r1 n2
  have m2 : H go = none := none_back (r1.tr r2) n3
  have m3 : H ce = none := none_back (r1.tr (r2.tr r3)) n4
  have l4 : LW s t H fa go ce 0 0 H4 := ⟨r1.tr (r2.tr (r3.tr r4)), r4 _ _ (r3 _ _ h2), ⟨[], r4 _ _ h3, fun i hi => absurd hi (by omega), Nat.le_refl _⟩, h4⟩
  refine q_forR (R := Ex) 6 (fun r σ' H' => r ≤ s.length ∧ LW s t H fa go ce r 0 H' ∧ ∃ v6 v7 v8 v9 v10, σ' = [some (.str (mkS s)), some (.str (mkS t)), some (.int (s.length : Int)), some (.ref fa), some (.ref go), some (.ref ce), v6, v7, v8, v9, v10])
    (v_name 2 rfl) (by omega) (fun H5 r5 => ⟨Nat.zero_le _, l4.on r5, none, none, none, none, none, rfl⟩) ?_ ?_ T.b_range nd
  · rintro r σ' H5 hr0 ⟨_, ls, v6, v7, v8, v9, v10, rfl⟩
    have hr1 : r < s.length := by omega
    refine q_set (R := Ex) 7 ((v_sub (v_sub (v_name 2 rfl) v_int) (v_name 6 rfl)).is (w := .int ((s.length - 1 - r : Nat) : Int)) (congrArg V.int (by omega))) (fun H6 r6 => ?_) nd
    refine q_set (R := Ex) 8 v_str (fun H7 r7 => ?_) nd
    have l7 := ls.on (r6.tr r7)
    refine q_forR (R := Ex) 9 (fun c σ' H' => c ≤ t.length ∧ LW s t H fa go ce r c H' ∧ ∃ v9 v10, σ' = [some (.str (mkS s)), some (.str (mkS t)), some (.int (s.length : Int)), some (.ref fa), some (.ref go), some (.ref ce), some (.int (r : Int)), some (.int (EE s t r c (s.length - 1 - r + c) : Int)), some (.str (mkS (tel s t r c))), v9, v10])
      (v_lenM rfl T.b_len (v_name 1 rfl) tl) (by omega) (fun H8 r8 => ⟨Nat.zero_le _, l7.on r8, v9, v10, by rw [Nat.add_zero, EE_first hr1]; rfl⟩) ?_ ?_ T.b_range nd
    · rintro c σ' H8 hc0 ⟨_, l8, w9, w10, rfl⟩
      have hc1 : c < t.length := by omega
      refine q_set (R := Ex) 10 ((v_ixL (v_name 3 rfl) (v_name 9 rfl) (fun H r => SqL.of (r _ _ l8.d)) (vL_at hc1)).is (w := .int (EE s t r c (s.length - 1 - r + c + 1) : Int)) (by rw [DD_at hr1])) (fun H9 r9 => ?_) nd
      have l9 := l8.on r9
      refine q_if (R := Ex) ((t_w (w_or (t_eq (v_ixS (v_name 0 rfl) (v_name 6 rfl) (by rw [mkS_len]; exact small_line (by omega)) (mkS_at (getD_at hr1))) (v_ixS (v_name 1 rfl) (v_name 9 rfl) (by rw [mkS_len]; exact small_line (by omega)) (mkS_at (getD_at hc1)))) fun _ => w_or1 (t_gt (v_name 7 rfl) (v_name 10 rfl)))).is (crs_not hr1 hc1)) (fun hx H10 r10 => ?_) (fun hx H10 r10 => ?_)
      · have hx : crs s t r c = false := by simpa using hx
        have l10 := l9.on r10
        refine q_setL (R := Ex) (v_name 7 rfl) (fun H11 r11 => ⟨fa, _, _, c, x_name 3 rfl, x_name 9 rfl, r11 _ _ l10.d, ixN_nat (by rw [vL_len]; exact hc1), ?_⟩) kV_mono
        have l11 := l10.on r11
        have l11' : LW s t H fa go ce r (c + 1) (upd H11 fa (.lst ((vL t.length (DD s t r c)).set c (.int (EE s t r c (s.length - 1 - r + c) : Int))))) := by
          obtain ⟨kvs, h5, h6⟩ := l11.g
          refine ⟨l11.ex.mu m1, ?_, ⟨kvs, by rw [upd_ne d1.symm]; exact h5, h6⟩, by rw [upd_ne d2.symm]; exact l11.s⟩
          rw [upd_same, vL_set hc1]
          exact congrArg (fun l => some (HO.lst l)) (vL_congr fun i hi => (DD_o hr1 hc1 hx).symm)
        refine q_set (R := Ex) 7 (v_name 10 rfl) (fun H12 r12 => q_set (R := Ex) 8 (v_cat (v_name 8 rfl) v_str (by rw [mkS_len, tel_len]; exact Nat.le_trans (by omega : c + 1 ≤ 1000) (small_line (Nat.le_refl _)))) (fun H13 r13 => RB.nil (RB.nil ⟨hc1, l11'.on (r12.tr r13), some (.int (c : Int)), some (.int (EE s t r c (s.length - 1 - r + c + 1) : Int)), ?_⟩)) nd) nd
        rw [AA_o hc1 hx, str_o, mkS_app, tel_succ, hx, if_neg Bool.false_ne_true]
        rfl
      · have hx : crs s t r c = true := by simpa using hx
        have l10 := l9.on r10
        refine q_set (R := Ex) 8 (v_cat (v_name 8 rfl) v_str (by rw [mkS_len, tel_len]; exact Nat.le_trans (by omega : c + 1 ≤ 1000) (small_line (Nat.le_refl _)))) (fun H11 r11 => RB.nil (RB.nil ⟨hc1, ?_, some (.int (c : Int)), some (.int (EE s t r c (s.length - 1 - r + c + 1) : Int)), ?_⟩)) nd
        · have l11 := l10.on r11
          exact ⟨l11.ex, by rw [l11.d]; exact congrArg (fun l => some (HO.lst l)) (vL_congr fun i hi => (DD_x hr1 hc1 hx).symm), l11.g, l11.s⟩
        · rw [AA_x hc1 hx, str_x, mkS_app, tel_succ, if_pos hx]
          rfl
    · rintro σ' H8 ⟨_, l8, w9, w10, rfl⟩
      rw [Int.toNat_natCast] at l8
      obtain ⟨kvs, hk, gd⟩ := l8.g
      refine q_dput (R := Ex) hu ((v_sub (v_sub (v_add (v_lenM rfl T.b_len (v_name 1 rfl) tl) (v_name 2 rfl)) v_int) (v_name 6 rfl)).is (w := .int ((s.length - 1 - r + t.length : Nat) : Int)) (congrArg V.int (by omega))) (fun H9 r9 => ⟨go, kvs, .inl (RR s t (r + 1) r : Int), x_name 4 rfl, x_name 7 (by rw [Int.toNat_natCast, RR_new]; rfl), r9 _ _ hk, Nat.lt_of_le_of_lt (by have := gd.2; omega : kvs.length ≤ 48) (by decide), ?_⟩) kV_mono
      have g1 := gd.next hr1
      generalize hkv : putK kvs (.inl (RR s t (r + 1) r : Int)) (.int ((s.length - 1 - r + t.length : Nat) : Int)) = kvs' at g1 ⊢
      have s1 : upd H9 go (.dK kvs') ce = some (.lst (rowsV s t r)) := by rw [upd_ne d3.symm]; exact r9 _ _ l8.s
      refine q_app (R := Ex) (xs := rowsV s t r) (x_name 5 rfl) s1 (v_name 8 rfl) (fun H10 r10 => ⟨_, r10 _ _ s1, by rw [rowsV_len]; exact Nat.lt_of_le_of_lt (by omega : r ≤ 48) (by decide), ?_⟩) kV_mono
      refine RB.nil ⟨hr1, ⟨(((l8.ex.tr r9).mu m2).tr r10).mu m3, ?_, ⟨kvs', ?_, g1⟩, ?_⟩, _, _, _, _, _, rfl⟩
      · rw [upd_ne d2, r10 _ _ (by rw [upd_ne d1]; exact r9 _ _ l8.d)]
        exact congrArg (fun l => some (HO.lst l)) (vL_congr fun i hi => DD_end hr1 hi)
      · rw [upd_ne d3]
        exact r10 _ _ upd_same
      · rw [upd_same, rowsV_succ, Int.toNat_natCast]
        rfl
  · rintro σ' H5 ⟨_, ls, v6, v7, v8, v9, v10, rfl⟩
    rw [Int.toNat_natCast] at ls
    obtain ⟨kvs0, hk0, gd0⟩ := ls.g
    have hD : ∀ i, i < t.length → DD s t s.length 0 i = runF (W s t) id i := fun i hi => by
      unfold DD
      rw [if_neg (by omega), EE_0, runW, show s.length - s.length + i = i by omega]
    refine q_forR (R := Ex) 9 (fun c σ' H' => c ≤ t.length ∧ Ex H H' ∧ H' fa = some (.lst (vL t.length (DD s t s.length 0))) ∧ H' ce = some (.lst (rowsV s t s.length)) ∧ (∃ kvs, H' go = some (.dK kvs) ∧ GE s t c kvs) ∧ ∃ v9, σ' = [some (.str (mkS s)), some (.str (mkS t)), some (.int (s.length : Int)), some (.ref fa), some (.ref go), some (.ref ce), v6, v7, v8, v9, v10])
      (v_lenM rfl T.b_len (v_name 1 rfl) tl) (by omega) (fun H6 r6 => ⟨Nat.zero_le _, ls.ex.tr r6, r6 _ _ ls.d, r6 _ _ ls.s, ⟨kvs0, r6 _ _ hk0, GE.start gd0⟩, v9, rfl⟩) ?_ ?_ T.b_range nd
    · rintro c σ' H6 hc0 ⟨_, e6, hf, hc, ⟨kvs, hk, ge⟩, w9, rfl⟩
      have hc1 : c < t.length := by omega
      refine q_dput (R := Ex) hu (v_name 9 rfl) (fun H7 r7 => ⟨go, kvs, .inl (runF (W s t) id c : Int), x_name 4 rfl, x_ixL (x_name 3 rfl) (x_name 9 rfl) (SqL.of (r7 _ _ hf)) (by rw [← hD c hc1]; exact vL_at hc1), r7 _ _ hk, Nat.lt_of_le_of_lt (by have := ge.2; omega : kvs.length ≤ 96) (by decide), RB.nil ⟨hc1, (e6.tr r7).mu m2, by rw [upd_ne d1]; exact r7 _ _ hf, by rw [upd_ne d3.symm]; exact r7 _ _ hc, ⟨_, upd_same, ge.next hc1⟩, _, rfl⟩⟩) kV_mono
    · rintro σ' H6 ⟨_, e6, hf, hc, ⟨kvs, hk, ge⟩, w9, rfl⟩
      rw [Int.toNat_natCast] at ge
      refine q_ret (R := Ex) (p_tup (a_p (n_lc (xs := intsV (s.length + t.length)) (ys := vL (s.length + t.length) (LN s t)) 7 (i_rangeN ((v_add (v_name 2 rfl) (v_lenM rfl T.b_len (v_name 1 rfl) tl)).is (w := .int ((s.length + t.length : Nat) : Int)) (by rw [Int.natCast_add])) (by omega) T.b_range) (by rw [vL_len, intsV_eq, vL_len]) (by rw [intsV_eq, vL_len]; omega) (by show 7 < 11; decide) (fun s1 H0 C cl fp i x y H7 r7 hx hy => ?_) nd (blkOk_by (N := Nlw) (sc := defScope (top 77)) (by decide +kernel))).p
        (a_p ((v_name 5 rfl).p (P := fun v _ => v = .ref ce) (kp_true rfl)) (a_nil (PA := fun ws _ => ws = [])))) (fun vs _ h => ?_)) fun v H7 r7 k7 => ?_
      · rw [intsV_eq] at hx
        have hi : i < s.length + t.length := by have := (List.getElem?_eq_some_iff.mp hx).1; rw [vL_len] at this; exact this
        rw [vL_get hi] at hx hy
        obtain rfl := Option.some.inj hx
        obtain rfl := Option.some.inj hy
        exact v_dget (k := .inl (i : Int)) hu (v_name 4 rfl) (v_name 7 rfl) (kp_ex (r7 _ _ hk)) (ge.all hi)
      · obtain ⟨_, _, rfl, _, _, _, rfl, _, rfl⟩ := h
        show 2 ≤ sizeLine
        decide
      · obtain ⟨u, vs, rfl, hu', _, _, rfl, ⟨g, rfl, hg⟩, _, _, rfl, rfl, rfl⟩ := k7.now
        exact kq _ H7 (e6.tr r7) ⟨u, g, ce, rfl, hu', hg, r7 _ _ hc⟩
end
end PT
namespace PT
open PySem PySem.Spec PyProof.Rows L2
/-! ### the steps at all cells of unlike signs -/
def vsOf (s t : List Nat) (r c : Nat) : List Nat := rowsW s.length s t r ++ rowW (s.length - 1 - r) (s.getD r 0) (t.take c)
theorem vs_run (s t : List Nat) (r c : Nat) : runF (vsOf s t r c) id = EE s t r c := by
  unfold vsOf EE
  rw [runF_app]
theorem vs_0 (s t : List Nat) (r : Nat) : vsOf s t r 0 = rowsW s.length s t r := by
  unfold vsOf
  rw [List.take_zero]
  exact List.append_nil _
theorem vs_end (s t : List Nat) (r : Nat) : vsOf s t r t.length = rowsW s.length s t (r + 1) := by
  unfold vsOf
  rw [List.take_length]
  rfl
theorem vs_like {s t : List Nat} {r c : Nat} (hc : c < t.length) (h : s.getD r 0 = t.getD c 0) : vsOf s t r (c + 1) = vsOf s t r c := by
  unfold vsOf
  rw [rowW_take _ _ _ hc, if_pos h, List.append_nil]
theorem vs_unlike {s t : List Nat} {r c : Nat} (hc : c < t.length) (h : s.getD r 0 ≠ t.getD c 0) : vsOf s t r (c + 1) = vsOf s t r c ++ [s.length - 1 - r + c] := by
  unfold vsOf
  rw [rowW_take _ _ _ hc, if_neg h, List.append_assoc]
theorem vs_len (s t : List Nat) : ∀ r c, c ≤ t.length → (vsOf s t r c).length ≤ r * t.length + c := by
  intro r
  induction r with
  | zero =>
    intro c
    induction c with
    | zero => intro _; rw [vs_0]; exact Nat.zero_le _
    | succ c ih =>
      intro hc
      have := ih (by omega)
      by_cases h : s.getD 0 0 = t.getD c 0
      · rw [vs_like (by omega) h]; omega
      · rw [vs_unlike (by omega) h, List.length_append]; simp; omega
  | succ r ihr =>
    intro c
    induction c with
    | zero =>
      intro _
      have := ihr t.length (Nat.le_refl _)
      rw [vs_0, ← vs_end, Nat.succ_mul]
      omega
    | succ c ih =>
      intro hc
      have := ih (by omega)
      by_cases h : s.getD (r + 1) 0 = t.getD c 0
      · rw [vs_like (by omega) h]; omega
      · rw [vs_unlike (by omega) h, List.length_append]; simp; omega
/-- the working ones among them, a step more -/
theorem wk_more {s t : List Nat} {r c : Nat} (hc : c < t.length) (h : s.getD r 0 ≠ t.getD c 0) : wk (vsOf s t r (c + 1)) id 0 = wk (vsOf s t r c) id 0 ++ (if crs s t r c = true then [(vsOf s t r c).length] else []) := by
  rw [vs_unlike hc h, wk_app, vs_run]
  unfold crs
  rw [decide_eq_true h, Bool.true_and, Nat.zero_add]
  by_cases h2 : EE s t r c (s.length - 1 - r + c) < EE s t r c (s.length - 1 - r + c + 1)
  · rw [if_pos h2, if_pos (decide_eq_true h2)]
  · rw [if_neg h2, if_neg (fun z => h2 (of_decide_eq_true z))]
theorem vS_snoc (w : List Nat) (p : Nat) : vS w ++ [.int (p : Int)] = vS (w ++ [p]) := by
  unfold vS
  rw [List.map_append]
  rfl
theorem wk_vs_len (s t : List Nat) (r c : Nat) (hc : c ≤ t.length) : (wk (vsOf s t r c) id 0).length ≤ r * t.length + c := Nat.le_trans (wk_len _ _ _) (vs_len s t r c hc)
theorem tel_at {s t : List Nat} {r j : Nat} (hj : j < t.length) : (tel s t r t.length)[j]? = some (if crs s t r j = true then 120 else 111) := by
  unfold tel
  rw [List.getElem?_map, List.getElem?_range hj]
  rfl
theorem rows_at {s t : List Nat} {r : Nat} (hr : r < s.length) : atI (rowsV s t s.length) (r : Int) = some (.str (mkS (tel s t r t.length))) := atI_nat (by unfold rowsV; rw [List.getElem?_map, List.getElem?_range hr]; rfl)
theorem x_crs (s t : List Nat) (r c : Nat) : decide (sgn (if crs s t r c = true then 120 else 111) = V.str "x") = crs s t r c := by
  rw [str_x]
  show decide (sgn _ = sgn 120) = _
  rw [sgn_eq]
  cases crs s t r c <;> rfl
def spLSteps : Sp := fun vs H Q _ => ∃ s t d, vs = [.str (mkS s), .str (mkS t), .ref d] ∧ rowOk s ∧ rowOk t ∧ IsDue s t (.ref d) H ∧ Ret (.bl true) H Q
abbrev Nls : List Str := ["_law_side", "_law_top", "_law_due", "_law_many", "_law_steps_here", "_law_working", "_law_row", "_law_column"]
theorem sc_lsteps : FnScope Nls ["_law_side", "_law_top", "_law_due"] (defScope (top 80)) := ⟨rfl, rfl, rfl, by decide +kernel, rfl, by decide +kernel, by decide +kernel⟩
theorem IsDue.ex {s t : List Nat} {v : V} {H H' : Hp} (h : IsDue s t v H) (e : Ex H H') : IsDue s t v H' := by
  obtain ⟨u, g, c, h1, h2, h3, h4⟩ := h
  exact ⟨u, g, c, h1, e _ _ h2, e _ _ h3, e _ _ h4⟩
theorem isI_vL {k : Nat} {f : Nat → Nat} : ∀ v ∈ vL k f, ∃ i : Int, v = .int i := fun v hv => by
  obtain ⟨i, _, rfl⟩ := List.mem_map.mp hv
  exact ⟨_, rfl⟩
theorem isI_vS {w : List Nat} : ∀ v ∈ vS w, ∃ i : Int, v = .int i := fun v hv => by
  obtain ⟨i, _, rfl⟩ := List.mem_map.mp hv
  exact ⟨_, rfl⟩
section
variable {X : Cx} {R : Hp → Hp → Prop} [Rl R] {σ : L2.St} {H : Hp} {a b : Expr} {pos p' : Pos} (T : Txt X.K X.mg)
include T
theorem v_llist {xs : List V} (hr : Room 2 X.A) (ha : EvN X R a σ H xs) (hb : EvP X R b σ H (fun v H => ∃ q, v = .ref q ∧ SqL X.K H q xs)) (hx : ∀ v ∈ xs, ∃ i : Int, v = .int i) (hl : xs.length ≤ 10000) (hg : Gl X "_law_list" := by rfl)
    (h1 : starEach [a, b] X.env = (false, eval a X.env) :: starEach [b] X.env := by rfl) (h2 : starEach [b] X.env = (false, eval b X.env) :: starEach [] X.env := by rfl) (hpl : (backTo pos (starEach [b] X.env)).any (·.1) = false := by rfl) : EvV X R (.Call (.Name "_law_list" p') [a, b] [] pos) σ H (.bl true) :=
  g_call (ok_llist T) T.g__law_list hr (a_p ha.p (a_p hb (a_nil (PA := fun ws _ => ws = [])) h2) h1) (fun vs H1 r1 k1 Q q => by
    obtain ⟨_, _, rfl, ⟨p, rfl, hp⟩, _, _, rfl, ⟨p2, rfl, hp2⟩, rfl⟩ := k1.now
    exact ⟨p, p2, xs, rfl, hp, hp2, hx, hl, fun H' e => q H' (Rl.ex e)⟩) hg (by decide) h1 hpl
end
section
variable {P : Program} {w : World} {K : PySem.W.Frag} {mg : Str → Option Value} {base : Heap} (T : Txt K mg)
include T
theorem ok_lsteps : Ok P w K mg base 7 (He.fAd K ("_law_steps", none)) ["_law_side", "_law_top", "_law_due"] spLSteps := by
  refine ok_of T.d__law_steps sc_lsteps (fun _ _ _ _ _ _ us hl => match us, hl with | [_, _, _], _ => rfl) (fun vs H Q E h => by obtain ⟨_, _, _, rfl, _⟩ := h; rfl) (fun cdv A outer s0 H vs Q E hr h => ?_)
  obtain ⟨s, t, d, rfl, hs, ht, ⟨_, dg, dc, hd0, hd, hdg, hdc⟩, kq⟩ := h
  obtain rfl := V.ref.inj hd0
  have nd := sc_lsteps.nd
  have sl := hs.1
  have tl := ht.1
  refine q_set (R := Ex) 3 (v_lenM rfl T.b_len (v_name 0 rfl) sl) (fun H1 r1 => ?_) nd
  refine q_set (R := Ex) 4 (n_lst a_nil (Nat.zero_le _)) (fun st H2 n2 r2 h2 => ?_) nd
  refine q_set (R := Ex) 5 (n_lst a_nil (Nat.zero_le _)) (fun wo H3 n3 r3 h3 => ?_) nd
  have d1 : st ≠ wo := ne_of_none h2 n3
  have m1 : H st = none := none_back r1 n2
  have m2 : H wo = none := none_back (r1.tr r2) n3
  have bd : ∀ r c, r ≤ s.length → c ≤ t.length → r * t.length + c ≤ 2400 := fun r c h1 h2 => by
    have : r * t.length ≤ 48 * 48 := Nat.mul_le_mul (by omega) (by omega)
    omega
  refine q_forR (R := Ex) 6 (fun r σ' H' => r ≤ s.length ∧ Ex H H' ∧ H' st = some (.lst (vS (vsOf s t r 0))) ∧ H' wo = some (.lst (vS (wk (vsOf s t r 0) id 0))) ∧ ∃ v6 v7, σ' = [some (.str (mkS s)), some (.str (mkS t)), some (.ref d), some (.int (s.length : Int)), some (.ref st), some (.ref wo), v6, v7])
    (v_name 3 rfl) (by omega) (fun H4 r4 => ⟨Nat.zero_le _, r1.tr (r2.tr (r3.tr r4)), by rw [vs_0]; exact r4 _ _ (r3 _ _ h2), by rw [vs_0]; exact r4 _ _ h3, none, none, rfl⟩) ?_ ?_ T.b_range nd
  · rintro r σ' H4 hr0 ⟨_, e4, hst, hwo, v6, v7, rfl⟩
    have hr1 : r < s.length := by omega
    refine q_forR (R := Ex) 7 (fun c σ' H' => c ≤ t.length ∧ Ex H H' ∧ H' st = some (.lst (vS (vsOf s t r c))) ∧ H' wo = some (.lst (vS (wk (vsOf s t r c) id 0))) ∧ ∃ v7, σ' = [some (.str (mkS s)), some (.str (mkS t)), some (.ref d), some (.int (s.length : Int)), some (.ref st), some (.ref wo), some (.int (r : Int)), v7])
      (v_lenM rfl T.b_len (v_name 1 rfl) tl) (by omega) (fun H5 r5 => ⟨Nat.zero_le _, e4.tr r5, r5 _ _ hst, r5 _ _ hwo, v7, rfl⟩) ?_ ?_ T.b_range nd
    · rintro c σ' H5 hc0 ⟨_, e5, hst, hwo, w7, rfl⟩
      have hc1 : c < t.length := by omega
      have lv := vs_len s t r c (by omega)
      have lw := wk_vs_len s t r c (by omega)
      have lb := bd r c (by omega) (by omega)
      refine q_if (R := Ex) ((t_ne (v_ixS (v_name 0 rfl) (v_name 6 rfl) (by rw [mkS_len]; exact small_line (by omega)) (mkS_at (getD_at hr1))) (v_ixS (v_name 1 rfl) (v_name 7 rfl) (by rw [mkS_len]; exact small_line (by omega)) (mkS_at (getD_at hc1)))).is (by rw [sgn_eq])) (fun hx H6 r6 => ?_) (fun hx H6 r6 => ?_)
      · have hx : s.getD r 0 ≠ t.getD c 0 := by simpa using hx
        have e6 := e5.tr r6
        have hst6 := r6 _ _ hst
        have hwo6 := r6 _ _ hwo
        have vl : (vS (vsOf s t r c)).length < sizeLine := by rw [vS_len]; exact Nat.lt_of_le_of_lt (by omega : (vsOf s t r c).length ≤ 2400) (by decide)
        have wl : (vS (wk (vsOf s t r c) id 0)).length < sizeLine := by rw [vS_len]; exact Nat.lt_of_le_of_lt (by omega : (wk (vsOf s t r c) id 0).length ≤ 2400) (by decide)
        refine q_if (R := Ex) ((t_eq (v_ixS (v_ixL (v_ixT (v_name 2 rfl) v_int (fun H7 r7 => SqT.of (r7 _ _ (e6 _ _ hd))) (v := .ref dc) (atI_nat (j := 1) rfl)) (v_name 6 rfl) (fun H7 r7 => SqL.of (r7 _ _ (e6 _ _ hdc))) (rows_at hr1)) (v_name 7 rfl) (by rw [mkS_len, tel_len]; exact small_line (by omega)) (mkS_at (tel_at hc1))) v_str).is (x_crs s t r c)) (fun hy H7 r7 => ?_) (fun hy H7 r7 => ?_)
        · refine q_app (R := Ex) (x_name 5 rfl) (r7 _ _ hwo6) (v_len rfl T.b_len (v_name 4 rfl) fun H8 r8 => SqL.of (r8 _ _ (r7 _ _ hst6))) (fun H8 r8 => ⟨_, r8 _ _ (r7 _ _ hwo6), wl, ?_⟩) kV_mono
          have st8 : upd H8 wo (.lst (vS (wk (vsOf s t r c) id 0) ++ [.int ((vS (vsOf s t r c)).length : Int)])) st = some (.lst (vS (vsOf s t r c))) := by rw [upd_ne d1]; exact r8 _ _ (r7 _ _ hst6)
          refine RB.nil (q_app (R := Ex) (x_name 4 rfl) st8 ((v_add (v_sub (v_sub (v_name 3 rfl) v_int) (v_name 6 rfl)) (v_name 7 rfl)).is (w := .int ((s.length - 1 - r + c : Nat) : Int)) (congrArg V.int (by omega))) (fun H9 r9 => ⟨_, r9 _ _ st8, vl, RB.nil (RB.nil ⟨hc1, (((e6.tr (r7.tr r8)).mu m2).tr r9).mu m1, ?_, ?_, _, rfl⟩)⟩) kV_mono)
          · rw [upd_same, vS_snoc, vs_unlike hc1 hx]
          · rw [upd_ne d1.symm, r9 _ _ upd_same, wk_more hc1 hx, if_pos hy, vS_len, vS_snoc]
        · refine RB.nil (q_app (R := Ex) (x_name 4 rfl) (r7 _ _ hst6) ((v_add (v_sub (v_sub (v_name 3 rfl) v_int) (v_name 6 rfl)) (v_name 7 rfl)).is (w := .int ((s.length - 1 - r + c : Nat) : Int)) (congrArg V.int (by omega))) (fun H9 r9 => ⟨_, r9 _ _ (r7 _ _ hst6), vl, RB.nil (RB.nil ⟨hc1, (e6.tr (r7.tr r9)).mu m1, ?_, ?_, _, rfl⟩)⟩) kV_mono)
          · rw [upd_same, vS_snoc, vs_unlike hc1 hx]
          · rw [upd_ne d1.symm, r9 _ _ (r7 _ _ hwo6), wk_more hc1 hx, if_neg (by rw [hy]; exact Bool.false_ne_true), List.append_nil]
      · have hx : s.getD r 0 = t.getD c 0 := by simpa using hx
        refine RB.nil (RB.nil ⟨hc1, e5.tr r6, ?_, ?_, _, rfl⟩)
        · rw [vs_like hc1 hx]; exact r6 _ _ hst
        · rw [vs_like hc1 hx]; exact r6 _ _ hwo
    · rintro σ' H5 ⟨_, e5, hst, hwo, w7, rfl⟩
      rw [Int.toNat_natCast, vs_end, ← vs_0] at hst hwo
      exact RB.nil ⟨hr1, e5, hst, hwo, _, _, rfl⟩
  · rintro σ' H4 ⟨_, e4, hst, hwo, v6, v7, rfl⟩
    rw [Int.toNat_natCast, vs_0, rowsW_all] at hst hwo
    have lW : (W s t).length ≤ 2400 := by
      have h1 := vs_len s t s.length 0 (Nat.zero_le _)
      have h2 := bd s.length 0 (Nat.le_refl _) (Nat.zero_le _)
      rw [vs_0, rowsW_all] at h1
      omega
    refine q_no (R := Ex) (t_not (k := true) (t_val (v_llist T (hr.mono (by decide)) (xs := vL (s.length + t.length) (LN s t)) (g_call (ok_by_steps T) T.g_by_steps hr (a_v ((v_add (v_name 3 rfl) (v_lenM rfl T.b_len (v_name 1 rfl) tl)).is (w := .int ((s.length + t.length : Nat) : Int)) (by rw [Int.natCast_add])) (a_1 (v_name 4 rfl))) fun vs H5 r5 k5 Q q => ?_) ((v_ixT (v_name 2 rfl) v_int (fun H5 r5 => SqT.of (r5 _ _ (e4 _ _ hd))) (v := .ref dg) (atI_nat (j := 0) rfl)).sq (e4 _ _ hdg)) isI_vL (by rw [vL_len]; omega)))) fun H5 r5 => ?_
    · obtain rfl := k5.now
      exact ⟨st, _, W s t, rfl, r5 _ _ hst, W_in s t, by omega, by omega, q⟩
    refine q_ret (R := Ex) (v_llist T (hr.mono (by decide)) (xs := vS (wk (W s t) id 0)) (g_call (ok_working_steps T) T.g_working_steps hr (a_v ((v_add (v_name 3 rfl) (v_lenM rfl T.b_len (v_name 1 rfl) tl)).is (w := .int ((s.length + t.length : Nat) : Int)) (by rw [Int.natCast_add])) (a_1 (v_name 4 rfl))) fun vs H6 r6 k6 Q q => ?_) ((v_name 5 rfl).sq (r5 _ _ hwo)) isI_vS (by rw [vS_len]; exact Nat.le_trans (wk_len _ _ _) (by omega))) fun H6 r6 => kq H6 (e4.tr (r5.tr r6))
    obtain rfl := k6.now
    exact ⟨st, _, W s t, rfl, r6 _ _ (r5 _ _ hst), W_in s t, by omega, by omega, q⟩
end
end PT
namespace PT
open PySem PySem.Spec PyProof.Rows L2
/-! ### halves of a board -/
theorem tup_nt {xs : List V} : ¬ MT (.tup xs) := by rintro ⟨_, z⟩; cases z
theorem IsDue.on {Tb : List (Addr × Str)} {s t : List Nat} {v : V} {H H' : Hp} (h : IsDue s t v H) (e : ExB Tb H H') : IsDue s t v H' := by
  obtain ⟨u, g, c, h1, h2, h3, h4⟩ := h
  exact ⟨u, g, c, h1, e.kp _ _ h2 tup_nt, e.kp _ _ h3 lst_nt, e.kp _ _ h4 lst_nt⟩
def spHalves (K : PySem.W.Frag) : Sp := fun vs H Q _ => ∃ s1 s2 t d, vs = [.str (mkS (s1 ++ s2)), .str (mkS t), .int (s1.length : Int), .ref d] ∧ rowOk (s1 ++ s2) ∧ rowOk t ∧ IsDue (s1 ++ s2) t (.ref d) H ∧ LamX.Tabs (Tb K) H ∧ ∀ H', ExB (Tb K) H H' → Q (.bl true) H'
abbrev Nlh : List Str := ["_law_side", "_law_top", "_law_at", "_law_due", "_law_upper", "_law_lower", "_law_shift", "_law_first", "_law_goal"]
theorem sc_lhalves : FnScope Nlh ["_law_side", "_law_top", "_law_at", "_law_due"] (defScope (top 81)) := ⟨rfl, rfl, rfl, by decide +kernel, rfl, by decide +kernel, by decide +kernel⟩
theorem rowOk.left {a b : List Nat} (h : rowOk (a ++ b)) : rowOk a := by have := h.take a.length; rwa [List.take_left] at this
theorem rowOk.right {a b : List Nat} (h : rowOk (a ++ b)) : rowOk b := by have := h.drop a.length; rwa [List.drop_left] at this
section
variable {P : Program} {w : World} {K : PySem.W.Frag} {mg : Str → Option Value} {base : Heap} (T : Txt K mg)
include T
theorem ok_lhalves (TB : Tbs K mg base) : Ok P w K mg base 8 (He.fAd K ("_law_halves", none)) ["_law_side", "_law_top", "_law_at", "_law_due"] (spHalves K) := by
  refine ok_of T.d__law_halves sc_lhalves (fun _ _ _ _ _ _ us hl => match us, hl with | [_, _, _, _], _ => rfl) (fun vs H Q E h => by obtain ⟨_, _, _, _, rfl, _⟩ := h; rfl) (fun cdv A outer s0 H vs Q E hr h => ?_)
  obtain ⟨s1, s2, t, d, rfl, hs, ht, hdue, hT, kq⟩ := h
  have nd := sc_lhalves.nd
  have sl := hs.1
  have tl := ht.1
  have ll := sl
  rw [List.length_append] at ll
  refine q_set (R := ExB (Tb K)) 4 (n_blines (v := .non) T (p_board T TB (hr.mono (by decide)) ((v_take (k := s1.length) (v_name 0 rfl) (v_name 2 rfl) sl).is (by rw [List.take_left])) (v_name 1 rfl) hs.left ht hT) (hr.mono (by decide))) (fun up H1 n1 r1 h1 => ?_) nd
  refine q_set (R := ExB (Tb K)) 5 (n_blines (v := .non) T (p_board T TB (hr.mono (by decide)) ((v_drop (k := s1.length) (v_name 0 rfl) (v_name 2 rfl) sl).is (by rw [List.drop_left])) (v_name 1 rfl) hs.right ht (r1.t hT)) (hr.mono (by decide))) (fun lo H2 n2 r2 h2 => ?_) nd
  have u2 := r2.kp _ _ h1 lst_nt
  refine q_set (R := Ex) 6 ((v_sub (v_lenM rfl T.b_len (v_name 0 rfl) sl) (v_name 2 rfl)).is (w := .int (s2.length : Int)) (congrArg V.int (by rw [List.length_append]; omega))) (fun H3 r3 => ?_) nd
  have u3 := r3 _ _ u2
  have l3 := r3 _ _ h2
  refine q_set (R := Ex) 7 (n_cat (n_lrg rfl rfl T.b_list T.b_range (v_name 6 rfl) (by omega)).p (n_lc (ys := vL (s1.length + t.length) (fun i => s2.length + LN s1 t i)) 8 (i_list ((v_name 4 rfl).sq u3)) (by rw [vL_len, vL_len]) (by rw [vL_len]; omega) (by show 8 < 9; decide)
    (fun s1' H0 C cl fp i x y H7 r7 hx hy => ?_) nd (blkOk_by (N := Nlh) (sc := defScope (top 81)) (by decide +kernel))).p (by rw [intsV_eq, vL_len, vL_len]; exact small_line (by omega))) (fun fi H4 nf r4 hf => ?_) nd
  · have hi : i < s1.length + t.length := by
      have := (List.getElem?_eq_some_iff.mp hx).1
      rw [vL_len] at this
      exact this
    rw [vL_get hi] at hx hy
    obtain rfl := Option.some.inj hx
    obtain rfl := Option.some.inj hy
    exact (v_add (v_name 6 rfl) (v_name 8 rfl)).is (by rw [Int.natCast_add])
  rw [intsV_eq, vL_first] at hf
  have l4 := r4 _ _ l3
  obtain ⟨_, dg, dc, hd0, hd, hdg, hdc⟩ := hdue.on (r1.tr (r2.tr (.of (r3.tr r4))))
  obtain rfl := V.ref.inj hd0
  refine q_ret (R := Ex) (v_llist T (hr.mono (by decide)) (xs := vL ((s1 ++ s2).length + t.length) (LN (s1 ++ s2) t)) (g_call (ok_laid T) T.g_laid hr (a_p ((v_name 7 rfl).p (P := fun v _ => v = .ref fi) (kp_true rfl)) (a_p (n_cat ((v_name 5 rfl).p fun H5 r5 => ⟨lo, rfl, r5 _ _ l4⟩) (n_lrg2 (i := s2.length + t.length) (j := s2.length + (s1.length + t.length)) rfl rfl T.b_list T.b_range ((v_len rfl T.b_len (v_name 5 rfl) fun H5 r5 => SqL.of (r5 _ _ l4)).is (by rw [vL_len])) ((v_len rfl T.b_len (v_name 7 rfl) fun H5 r5 => SqL.of (r5 _ _ hf)).is (by rw [vL_len])) (by omega)).p (by rw [vL_len, List.length_map, List.length_range]; exact small_line (by omega))).p (a_nil (PA := fun ws _ => ws = [])))) fun vs H5 r5 k5 Q q => ?_)
    ((v_ixT (v_name 3 rfl) v_int (fun H5 r5 => SqT.of (r5 _ _ hd)) (v := .ref dg) (atI_nat (j := 0) rfl)).sq hdg) isI_vL (by rw [vL_len]; omega)) fun H5 r5 => kq H5 (r1.tr (r2.tr (.of (r3.tr (r4.tr r5)))))
  obtain ⟨_, _, rfl, rfl, _, _, rfl, ⟨se, rfl, hse⟩, rfl⟩ := k5.now
  rw [vL_from, vL_second _ _ _ (s2.length + (s1.length + t.length)) (by omega)] at hse
  refine ⟨fi, se, _, _, _, _, W s2 t, rfl, r5 _ _ hf, hse, (over_first s1 s2 t).symm, (over_second s1 s2 t).symm, fun p' hp' => by have := W_in s2 t p' hp'; omega, by omega, fun p H6 n6 r6 h6 => q p H6 n6 r6 ?_⟩
  rw [h6, List.length_append, show s2.length + (s1.length + t.length) = s1.length + s2.length + t.length by omega]
  refine congrArg (fun l => some (HO.lst l)) (vL_congr fun i hi => ?_)
  rw [show s1.length + s2.length + t.length = s2.length + (s1.length + t.length) by omega]
  exact over_lay s1 s2 t i
end
end PT
namespace PT
open PySem PySem.Spec PyProof.Rows L2
/-! ### a piece laid together by numbers -/
theorem Kx.tr {x : Addr} {H H1 H2 : Hp} (a : Kx x H H1) (b : Kx x H1 H2) : Kx x H H2 := fun p o h n => b p o (a p o h n) n
theorem PcF.kx {K : PySem.W.Frag} {H0 H H' : Hp} {p nl : Addr} {s t : List Nat} {o : HO} {xs : List V} (a : PcF K H0 p s t H) (k : Kx nl H H') (h0 : H0 nl = some o) (hl : H nl = some (.lst xs)) : PcF K H0 p s t H' := by
  obtain ⟨c, dx, kn, lv, fs, a, n⟩ := a
  have n1 : p ≠ nl := ne_of a.at_ hl (by intro z; cases z)
  have n2 : kn ≠ nl := (ne_of_none h0 n).symm
  exact ⟨c, dx, kn, lv, fs, a.keep (by rw [k _ _ a.at_ n1, a.at_]) (by rw [k _ _ a.kn_ n2, a.kn_]), n⟩
theorem PcF.backx {K : PySem.W.Frag} {H0 H1 H : Hp} {p nl : Addr} {s t : List Nat} {o : HO} (a : PcF K H1 p s t H) (k : Kx nl H0 H1) (h : H1 nl = some o) : PcF K H0 p s t H := by
  obtain ⟨c, dx, kn, lv, fs, a, n⟩ := a
  refine ⟨c, dx, kn, lv, fs, a, ?_⟩
  cases z : H0 kn with
  | none => rfl
  | some u =>
    have n2 : kn ≠ nl := (ne_of_none h n).symm
    rw [k _ _ z n2] at n
    cases n
theorem RE.mono {X : Cx} {e : Expr} {σ : L2.St} {H : Hp} {Q Q' : VK} (h : RE X e σ H Q) (k : ∀ v H, Q v H → Q' v H) : RE X e σ H Q' := fun pins s I => wpAny_mono (h pins s I) (fun u s' ⟨v, H', J, r, q⟩ => ⟨v, H', J, r, k v H' q⟩) fun _ _ z => z
/-- a new piece, told of the very state -/
theorem re_new2 {X : Cx} {σ : L2.St} {H : Hp} {a b : Expr} {pos p' : Pos} {c n : Str} {k : Nat} {ps : List Str} {Pre : List V → List Nat → List Nat → Hp → Prop} {s t : List Nat} {Q : VK} (M : Mk X.K (He.ga X.K c) (He.fAd X.K (c, some "__init__"))) (O : Ok X.prog X.w X.K X.mg X.base k (He.fAd X.K (c, some "__init__")) ps (spNew c X.K Pre)) (hm : X.mg n = some (.ref (He.ga X.K c))) (hr : Room (k + 1) X.A)
    (ha : RE X a σ H fun u H1 => RE X b σ H1 fun v H2 => (∀ H3, Ex H2 H3 → Pre [u, v] s t H3) ∧ ∀ p H3, Ex H2 H3 → PcF X.K H2 p s t H3 → Q (.ref p) H3) (hg : Gl X n := by rfl) (hdb : (n == ("__debug__" : Str)) = false := by decide)
    (h1 : starEach [a, b] X.env = (false, eval a X.env) :: starEach [b] X.env := by rfl) (h2 : starEach [b] X.env = (false, eval b X.env) :: starEach [] X.env := by rfl) (hpl : (backTo pos (starEach [b] X.env)).any (·.1) = false := by rfl) : RE X (.Call (.Name n p') [a, b] [] pos) σ H Q := by
  obtain ⟨fd, F, bd⟩ := O.ex
  refine RE.of (pe_make M F hr hg hm bd .nil pass0 (pa_cons pe_RE (pa_cons pe_RE pa_nil h2) h1) hdb h1 hpl) (RE.mono ha fun u H1 hb => RE.mono hb fun v H2 ⟨hp, hq⟩ => ?_)
  intro x dx nx nd ne
  show spNew c X.K Pre [.ref x, u, v] _ _ E0
  have e1 := made_ex (C := He.ga X.K c) nx nd
  exact ⟨x, dx, [u, v], s, t, rfl, rfl, upd_same, hp _ e1, fun H' k1 k2 => ⟨rfl, hq x H' (made_kx nx nd k1) (k2.back e1)⟩⟩
def KL (nl : Addr) (H H' : Hp) : Prop := Kx nl H H' ∧ ∃ ns, H' nl = some (.lst (vS ns))
def spBuilt (n : Nat) (K : PySem.W.Frag) : Sp := fun vs H Q _ => ∃ s t nl ns, vs = [.str (mkS s), .str (mkS t), .ref nl] ∧ H nl = some (.lst (vS ns)) ∧ rowOk s ∧ rowOk t ∧ s.length + t.length ≤ n ∧ ∀ p H', KL nl H H' → PcF K H p s t H' → Q (.ref p) H'
abbrev Nlb : List Str := ["_law_side", "_law_top", "_law_numbers", "_law_number", "_law_at", "_law_upper", "_law_left"]
theorem sc_lbuilt : FnScope Nlb ["_law_side", "_law_top", "_law_numbers"] (defScope (top 78)) := ⟨rfl, rfl, rfl, by decide +kernel, rfl, by decide +kernel, by decide +kernel⟩
/-- numbers == [] -/
theorem t_isnil {X : Cx} {σ : L2.St} {H : Hp} {a : Expr} {pos p2 : Pos} {nl : Addr} {ns : List Nat} (hu : X.A.units + 64 < cLine) (ha : EvV X Ex a σ H (.ref nl)) (hn : H nl = some (.lst (vS ns))) : EvT X Ex (.Compare a [.Eq] [.List [] p2] pos) σ H (decide (ns = [])) :=
  t_cmpP (op_eqD hu) (P := fun v H' => v = .ref nl ∧ H' nl = some (.lst (vS ns))) (ha.p fun H1 r1 => ⟨rfl, r1 _ _ hn⟩) (n_lst a_nil (Nat.zero_le _)).p fun x y H1 r1 k1 k2 Q q => by
    obtain ⟨rfl, h1⟩ := k1.now
    obtain ⟨p', rfl, h2⟩ := k2.now
    refine ⟨_, _, .lst (SqL.of h1) (dpAll fun v hv => .inl (isI_vS v hv)), .lst (SqL.of h2) .nil, dvs_shaped fun v hv => .inl (isI_vS v hv), by decide, ?_⟩
    cases ns with
    | nil => exact q
    | cons n ns => exact q
theorem fdiv9 (n : Nat) (k : Nat) (hk : 0 < k) : (((n : Int)).fdiv 9).fmod ((k : Nat) : Int) = ((n / 9 % k : Nat) : Int) := by
  rw [Int.fdiv_eq_ediv_of_nonneg _ (by decide), Int.fmod_eq_emod_of_nonneg _ (by omega)]
  rfl
section
variable {P : Program} {w : World} {K : PySem.W.Frag} {mg : Str → Option Value} {base : Heap} (T : Txt K mg)
include T
theorem ok_lbuilt_of (n : Nat) (ih : ∀ k, k + 1 = n → Ok P w K mg base (k + 109) (He.fAd K ("_law_built", none)) ["_law_side", "_law_top", "_law_numbers"] (spBuilt k K)) : Ok P w K mg base (n + 109) (He.fAd K ("_law_built", none)) ["_law_side", "_law_top", "_law_numbers"] (spBuilt n K) := by
  refine ok_of (sp := spBuilt n K) T.d__law_built sc_lbuilt (fun _ _ _ _ _ _ us hl => match us, hl with | [_, _, _], _ => rfl) (fun vs H Q E h => by obtain ⟨_, _, _, _, rfl, _⟩ := h; rfl) (fun cdv A outer s0 H vs Q E hr h => ?_)
  obtain ⟨s, t, nl, ns, rfl, hn, hs, ht, hl, kq⟩ := h
  have nd := sc_lbuilt.nd
  have sl := hs.1
  have tl := ht.1
  have hu : (cx P w K mg base Nlb "_law_built" (top 78) (He.fAd K ("_law_built", none)) cdv A outer s0 H E).A.units + 64 < cLine := hr.units
  refine q_if (R := Ex) (t_w (w_or (t_eq (v_name 0 rfl) v_str) fun _ => w_or1 (t_eq (v_name 1 rfl) v_str))) (fun h0 H1 r1 => ?_) (fun h0 H1 r1 => ?_)
  · rw [str_nil, str_nil, Bool.or_eq_true, decide_eq_true_eq, decide_eq_true_eq] at h0
    refine q_ret (R := Ex) (p_new (c := "Blank") (s := s) (t := t) T.mk_Blank (ok_blank T) T.g_Blank (hr.mono (by omega)) (a_v (v_name 0 rfl) (a_1 (v_name 1 rfl))) fun vs H4 r4 k4 => ?_) fun v H4 r4 k4 => ?_
    · obtain rfl := k4
      exact ⟨rfl, rfl, hs, ht, h0⟩
    · obtain ⟨p, rfl, hp⟩ := k4.now
      exact kq p H4 ⟨Kx.of (r1.tr r4), ns, r4 _ _ (r1 _ _ hn)⟩ (hp.back r1)
  rw [str_nil, str_nil, Bool.or_eq_false_iff, decide_eq_false_iff_not, decide_eq_false_iff_not] at h0
  have s0' : 0 < s.length := List.length_pos_iff.mpr h0.1
  have t0' : 0 < t.length := List.length_pos_iff.mpr h0.2
  have hn1 := r1 _ _ hn
  refine RB.nil (q_if (R := Ex) (t_isnil hu (v_name 2 rfl) hn1) (fun h1 H2 r2 => ?_) (fun h1 H2 r2 => ?_))
  · refine q_ret (R := Ex) (K := KP Ex (IsPf K H2 s t)) (g_call (ok_balanced T) T.g_balanced (hr.mono (by omega)) (a_v (v_name 0 rfl) (a_1 (v_name 1 rfl))) fun vs H3 r3 k3 Q q => ?_) fun v H3 r3 k3 => ?_
    · obtain rfl := k3.now
      exact ⟨s, t, rfl, hs, ht, fun p H4 r4 hp => q (.ref p) H4 r4 fun H5 r5 => ⟨p, rfl, (hp.back r3).ex r5⟩⟩
    · obtain ⟨p, rfl, hp⟩ := k3.now
      exact kq p H3 ⟨Kx.of (r1.tr (r2.tr r3)), ns, r3 _ _ (r2 _ _ hn1)⟩ (hp.back (r1.tr r2))
  have h1 := of_decide_eq_false h1
  have nlen : 0 < ns.length := List.length_pos_iff.mpr h1
  have hn2 := r2 _ _ hn1
  obtain ⟨m, hm⟩ : ∃ m, ns[ns.length - 1]? = some m := ⟨ns[ns.length - 1], List.getElem?_eq_getElem (by omega)⟩
  refine RB.nil (q_setX 3 (RE.of (pe_bm0 PySem.F.plainAttrs_list PySem.F.slot_list_pop PySem.F.type_list_pop mt_pop pe_RE) ((v_name (R := Ex) (v := .ref nl) 2 rfl) H2 (Ex.rf H2) _ fun H3 r3 => ⟨.inl ⟨rfl, _, SqL.of (r3 _ _ hn2)⟩, nl, vS ns, .int (m : Int), rfl, rfl, r3 _ _ hn2, by rw [vS_len]; unfold vS; rw [List.getElem?_map, hm]; rfl, ?_⟩)) nd)
  have e3 : Ex H H3 := r1.tr (r2.tr r3)
  have hdl : (vS ns).dropLast = vS ns.dropLast := by unfold vS; rw [List.map_dropLast]
  rw [hdl]
  have kx : Kx nl H (upd H3 nl (.lst (vS ns.dropLast))) := (Kx.of e3).set
  have hb : upd H3 nl (.lst (vS ns.dropLast)) nl = some (.lst (vS ns.dropLast)) := upd_same
  generalize upd H3 nl (.lst (vS ns.dropLast)) = Hb at kx hb ⊢
  -- a piece made without a call of this def
  have fin : ∀ p H4 H5, Ex Hb H4 → Ex H4 H5 → PcF K H4 p s t H5 → Q (.ref p) H5 := fun p H4 H5 e4 e5 hp => kq p H5 ⟨kx.ex (e4.tr e5), _, e5 _ _ (e4 _ _ hb)⟩ (hp.backx (kx.ex e4) (e4 _ _ hb))
  refine q_if (R := Ex) (t_eq (v_add (v_lenM rfl T.b_len (v_name 0 rfl) sl) (v_lenM rfl T.b_len (v_name 1 rfl) tl)) v_int) (fun h2 H4 r4 => ?_) (fun h2 H4 r4 => ?_)
  · have h2 : s.length + t.length = 2 := by have := V.int.inj (of_decide_eq_true h2); omega
    obtain ⟨a, rfl⟩ := List.length_eq_one_iff.mp (show s.length = 1 by omega)
    obtain ⟨b, rfl⟩ := List.length_eq_one_iff.mp (show t.length = 1 by omega)
    refine q_ret (R := Ex) (p_new (c := "One") (s := [a]) (t := [b]) T.mk_One (ok_one T) T.g_One (hr.mono (by omega)) (a_v (v_name 0 rfl) (a_1 (v_name 1 rfl))) fun vs H6 r6 k6 => ?_) fun v H6 r6 k6 => ?_
    · obtain rfl := k6
      exact ⟨rfl, a, b, rfl, rfl, rfl, hs.2 a (by simp), ht.2 b (by simp)⟩
    · obtain ⟨p, rfl, hp⟩ := k6.now
      exact fin p H4 H6 r4 r6 hp
  have h2 : s.length + t.length ≠ 2 := fun z => by
    have := of_decide_eq_false h2
    exact this (by rw [← Int.natCast_add, z]; rfl)
  refine RB.nil (q_if (R := Ex) (t_w (w_and (t_eq (v_mod (v_name 3 rfl) v_int (by decide)) v_int) fun _ => w_and1 (t_eq (v_lenM rfl T.b_len (v_name 0 rfl) sl) v_int))) (fun h3 H5 r5 => ?_) (fun h3 H5 r5 => ?_))
  · rw [Bool.and_eq_true] at h3
    have h3 : s.length = 1 := by have := V.int.inj (of_decide_eq_true h3.2); omega
    obtain ⟨a, rfl⟩ := List.length_eq_one_iff.mp h3
    refine q_ret (R := Ex) (K := KP Ex (IsPf K H5 [a] t)) (g_call (ok_strip T) T.g_strip (hr.mono (by omega)) (a_v (v_name 0 rfl) (a_1 (v_name 1 rfl))) fun vs H6 r6 k6 Q q => ?_) fun v H6 r6 k6 => ?_
    · obtain rfl := k6.now
      exact ⟨a, t, rfl, hs.2 a (by simp), ht, fun p H7 r7 hp => q (.ref p) H7 r7 fun H8 r8 => ⟨p, rfl, (hp.back r6).ex r8⟩⟩
    · obtain ⟨p, rfl, hp⟩ := k6.now
      exact fin p H5 H6 (r4.tr r5) r6 hp
  obtain ⟨k, hk⟩ : ∃ k, k + 1 = n := ⟨n - 1, by omega⟩
  have O := ih k hk
  have hrk : Room (k + 109) _ := hr.mono (by omega)
  have e5 : Ex Hb H5 := r4.tr r5
  have hb5 := e5 _ _ hb
  have kx5 := kx.ex e5
  refine RB.nil (q_if (R := Ex) (t_w (w_and (t_gt (v_lenM rfl T.b_len (v_name 0 rfl) sl) v_int) fun _ => w_and1 (t_w (w_or (t_eq (v_lenM rfl T.b_len (v_name 1 rfl) tl) v_int) fun _ => w_or1 (t_eq (v_mod (v_name 3 rfl) v_int (by decide)) v_int))))) (fun h4 H6 r6 => ?_) (fun h4 H6 r6 => ?_))
  · rw [Bool.and_eq_true] at h4
    have h4 : 1 < s.length := by have := of_decide_eq_true h4.1; omega
    refine q_set (R := Ex) 4 ((v_add v_int (v_mod (v_fdiv (v_name 3 rfl) v_int (by decide)) ((v_sub (v_lenM rfl T.b_len (v_name 0 rfl) sl) v_int).is (w := .int ((s.length - 1 : Nat) : Int)) (congrArg V.int (by omega))) (by omega))).is (w := .int ((1 + m / 9 % (s.length - 1) : Nat) : Int)) (congrArg V.int (by rw [fdiv9 _ _ (by omega)]; omega))) (fun H7 r7 => ?_) nd
    have hat : m / 9 % (s.length - 1) < s.length - 1 := Nat.mod_lt _ (by omega)
    generalize m / 9 % (s.length - 1) = q at hat ⊢
    have e : s = s.take (1 + q) ++ s.drop (1 + q) := (List.take_append_drop _ _).symm
    have hl1 : (s.take (1 + q)).length = 1 + q := by rw [List.length_take]; omega
    have hl2 : (s.drop (1 + q)).length = s.length - (1 + q) := List.length_drop
    have hb7 := r7 _ _ (r6 _ _ hb5)
    have kx7 := kx5.ex (r6.tr r7)
    refine q_setX 5 (re_call (R := Ex) O T.g__law_built hrk (a_v (v_take (v_name 0 rfl) (v_name 4 rfl) sl) (a_v (v_name 1 rfl) (a_1 (v_name 2 rfl)))) fun vs H8 r8 k8 => ?_) nd
    obtain rfl := k8.now
    refine ⟨_, t, nl, _, rfl, r8 _ _ hb7, hs.take _, ht, by omega, fun pu H9 ⟨kx9, ns9, hb9⟩ hpu => ?_⟩
    have kxh9 := (kx7.ex r8).tr kx9
    refine q_retX (re_new2 (c := "Over") (s := s) (t := t) T.mk_Over (ok_over T) T.g_Over (hr.mono (by omega)) ((v_name (R := Ex) 5 rfl).go fun H10 r10 => re_call (R := Ex) O T.g__law_built hrk (a_v (v_drop (v_name 0 rfl) (v_name 4 rfl) sl) (a_v (v_name 1 rfl) (a_1 (v_name 2 rfl)))) fun vs H11 r11 k11 => ?_))
    obtain rfl := k11.now
    refine ⟨_, t, nl, _, rfl, r11 _ _ (r10 _ _ hb9), hs.drop _, ht, by omega, fun pl H12 ⟨kx12, ns12, hb12⟩ hpl => ⟨fun H13 r13 => ⟨pu, pl, _, _, e, rfl, ?_, hpl.k.ex r13, by omega⟩, fun p H13 r13 hp => ?_⟩⟩
    · exact ((hpu.ex (r10.tr r11)).kx kx12 (r8 _ _ hb7) (r11 _ _ (r10 _ _ hb9))).k.ex r13
    · have kf := (kxh9.ex (r10.tr r11)).tr kx12
      exact kq p H13 ⟨kf.ex r13, ns12, r13 _ _ hb12⟩ (hp.backx kf hb12)
  · have h5 : 1 < t.length := by
      rcases Nat.lt_or_ge 1 t.length with z | z
      · exact z
      · have t1 : t.length = 1 := by omega
        have s2 : 1 < s.length := by omega
        rw [Bool.and_eq_false_iff] at h4
        rcases h4 with h4 | h4
        · have := of_decide_eq_false h4; omega
        · rw [Bool.or_eq_false_iff] at h4
          have := of_decide_eq_false h4.1
          exact absurd (by rw [t1]; rfl) this
    refine RB.nil (q_set (R := Ex) 4 ((v_add v_int (v_mod (v_fdiv (v_name 3 rfl) v_int (by decide)) ((v_sub (v_lenM rfl T.b_len (v_name 1 rfl) tl) v_int).is (w := .int ((t.length - 1 : Nat) : Int)) (congrArg V.int (by omega))) (by omega))).is (w := .int ((1 + m / 9 % (t.length - 1) : Nat) : Int)) (congrArg V.int (by rw [fdiv9 _ _ (by omega)]; omega))) (fun H7 r7 => ?_) nd)
    have hat : m / 9 % (t.length - 1) < t.length - 1 := Nat.mod_lt _ (by omega)
    generalize m / 9 % (t.length - 1) = q at hat ⊢
    have e : t = t.take (1 + q) ++ t.drop (1 + q) := (List.take_append_drop _ _).symm
    have hl1 : (t.take (1 + q)).length = 1 + q := by rw [List.length_take]; omega
    have hl2 : (t.drop (1 + q)).length = t.length - (1 + q) := List.length_drop
    have hb7 := r7 _ _ (r6 _ _ hb5)
    have kx7 := kx5.ex (r6.tr r7)
    refine q_setX 6 (re_call (R := Ex) O T.g__law_built hrk (a_v (v_name 0 rfl) (a_v (v_take (v_name 1 rfl) (v_name 4 rfl) tl) (a_1 (v_name 2 rfl)))) fun vs H8 r8 k8 => ?_) nd
    obtain rfl := k8.now
    refine ⟨s, _, nl, _, rfl, r8 _ _ hb7, hs, ht.take _, by omega, fun pu H9 ⟨kx9, ns9, hb9⟩ hpu => ?_⟩
    have kxh9 := (kx7.ex r8).tr kx9
    refine q_retX (re_new2 (c := "Beside") (s := s) (t := t) T.mk_Beside (ok_beside T) T.g_Beside (hr.mono (by omega)) ((v_name (R := Ex) 6 rfl).go fun H10 r10 => re_call (R := Ex) O T.g__law_built hrk (a_v (v_name 0 rfl) (a_v (v_drop (v_name 1 rfl) (v_name 4 rfl) tl) (a_1 (v_name 2 rfl)))) fun vs H11 r11 k11 => ?_))
    obtain rfl := k11.now
    refine ⟨s, _, nl, _, rfl, r11 _ _ (r10 _ _ hb9), hs, ht.drop _, by omega, fun pl H12 ⟨kx12, ns12, hb12⟩ hpl => ⟨fun H13 r13 => ⟨pu, pl, _, _, e, rfl, ?_, hpl.k.ex r13, by omega⟩, fun p H13 r13 hp => ?_⟩⟩
    · exact ((hpu.ex (r10.tr r11)).kx kx12 (r8 _ _ hb7) (r11 _ _ (r10 _ _ hb9))).k.ex r13
    · have kf := (kxh9.ex (r10.tr r11)).tr kx12
      exact kq p H13 ⟨kf.ex r13, ns12, r13 _ _ hb12⟩ (hp.backx kf hb12)
theorem ok_lbuilt : ∀ n, Ok P w K mg base (n + 109) (He.fAd K ("_law_built", none)) ["_law_side", "_law_top", "_law_numbers"] (spBuilt n K) := fun n => by
  induction n with
  | zero => exact ok_lbuilt_of T 0 fun k h => by omega
  | succ n ih => exact ok_lbuilt_of T (n + 1) fun k h => (Nat.succ.inj h) ▸ ih
end
end PT
namespace PT
open PySem PySem.Spec PyProof.Rows L2
/-! ### one set of lines -/
section
variable {X : Cx} {σ : L2.St} {H : Hp} {a b c o : Expr} {pos apos p' : Pos} (T : Txt X.K X.mg)
include T
theorem v_llistP {R : Hp → Hp → Prop} [Rl R] {xs : List V} (hr : Room 2 X.A) (ha : EvP X R a σ H (fun v H => ∃ q, v = .ref q ∧ H q = some (.lst xs))) (hb : EvP X R b σ H (fun v H => ∃ q, v = .ref q ∧ SqL X.K H q xs)) (hx : ∀ v ∈ xs, ∃ i : Int, v = .int i) (hl : xs.length ≤ 10000) (hg : Gl X "_law_list" := by rfl)
    (h1 : starEach [a, b] X.env = (false, eval a X.env) :: starEach [b] X.env := by rfl) (h2 : starEach [b] X.env = (false, eval b X.env) :: starEach [] X.env := by rfl) (hpl : (backTo pos (starEach [b] X.env)).any (·.1) = false := by rfl) : EvV X R (.Call (.Name "_law_list" p') [a, b] [] pos) σ H (.bl true) :=
  g_call (ok_llist T) T.g__law_list hr (a_p ha (a_p hb (a_nil (PA := fun ws _ => ws = [])) h2) h1) (fun vs H1 r1 k1 Q q => by
    obtain ⟨_, _, rfl, ⟨p, rfl, hp⟩, _, _, rfl, ⟨p2, rfl, hp2⟩, rfl⟩ := k1.now
    exact ⟨p, p2, xs, rfl, hp, hp2, hx, hl, fun H' e => q H' (Rl.ex e)⟩) hg (by decide) h1 hpl
/-- built by a copy of the numbers -/
theorem p_built {s t : List Nat} {ns : List Nat} (hr : Room 205 X.A) (ha : EvV X Ex a σ H (.str (mkS s))) (hb : EvV X Ex b σ H (.str (mkS t))) (hc : EvN X Ex c σ H (vS ns)) (hs : rowOk s) (ht : rowOk t) (hg : Gl X "_law_built" := by rfl)
    (h1 : starEach [a, b, c] X.env = (false, eval a X.env) :: starEach [b, c] X.env := by rfl) (h2 : starEach [b, c] X.env = (false, eval b X.env) :: starEach [c] X.env := by rfl) (h3 : starEach [c] X.env = (false, eval c X.env) :: starEach [] X.env := by rfl) (hpl : (backTo pos (starEach [b, c] X.env)).any (·.1) = false := by rfl) :
    EvP X Ex (.Call (.Name "_law_built" p') [a, b, c] [] pos) σ H (IsP X.K s t) := fun H1 r1 Q q => by
  have ha1 : EvV X Ex a σ H1 (.str (mkS s)) := EvG.on ha r1
  have hb1 : EvV X Ex b σ H1 (.str (mkS t)) := EvG.on hb r1
  have hc1 : EvN X Ex c σ H1 (vS ns) := EvG.on hc r1
  refine re_call (R := Ex) (ok_lbuilt T 96) T.g__law_built hr (a_p (ha1.p (P := fun v _ => v = .str (mkS s)) (kp_true rfl)) (a_p (hb1.p (P := fun v _ => v = .str (mkS t)) (kp_true rfl)) (a_p hc1.pf (a_nil (PA := fun ws _ => ws = [])) h3) h2) h1) (fun vs H2 r2 k2 => ?_) hg (by decide) h1 hpl
  obtain ⟨_, _, rfl, rfl, _, _, rfl, rfl, _, _, rfl, ⟨p, rfl, np, hp⟩, rfl⟩ := k2.now
  have l1 := hs.1
  have l2 := ht.1
  exact ⟨s, t, p, ns, rfl, hp, hs, ht, by omega, fun x H' kl hpf => q (.ref x) H' (fun d u hd => kl.1 d u (r2 d u hd) (ne_of_none hd np)) fun H3 r3 => ⟨x, rfl, hpf.k.ex r3⟩⟩
theorem n_plinesP {s t : List Nat} (ho : EvP X Ex o σ H (IsP X.K s t)) (hr : Room 1 X.A) {pl : Sem Bool}
    (ht : eval (.Call (.Attribute o "lines" apos) [] [] pos) X.env = (do
      let ov ← eval o X.env
      standAt apos.atName
      let (f, first) ← holding [ov] (getMethod ov "lines" pl)
      callWith pos f first (backTo pos (starEach [] X.env)) (backToKw pos (keywordEach [] X.env))) := by rfl) : EvP X Ex (.Call (.Attribute o "lines" apos) [] [] pos) σ H (fun v H => ∃ q, v = .ref q ∧ H q = some (.lst (vL (s.length + t.length) (LN s t)))) := fun H1 r1 Q q => by
  intro pins st I
  refine PySem.W.methodCall_KW (pl := pl) (thn (ho H1 r1 (fun v H2 => Ex H1 H2 ∧ IsP X.K s t v H2) (fun v H2 r2 k2 => ⟨r2, k2.now⟩) pins st I) fun u s1 ⟨x, H2, I2, rx, e2, p, ex, c, dx, kn, lv, fs, a⟩ => ?_) ht
  subst ex
  obtain rfl : u = Value.ref p := rx
  obtain ⟨fd, F, b⟩ := (ok_plines (P := X.prog) (w := X.w) (base := X.base) T a.pc).ex
  refine getmeth_ok I2 a.at_ (pc_k T a.pc) (pc_m3 T a.pc) a.m3 (PySem.W.callWith_K0 (first := [.ref p]) I2.kIn (pc_m3 T a.pc).kp (run_fn (us := [.ref p]) (vs := [.ref p]) F hr b .nil pass0 I2 (.cons rfl .nil) ?_))
  show spCopy "known" X.K [.ref p] H2 Q E0
  exact ⟨p, kn, _, rfl, ⟨_, dx, fs, a.at_, pc_k T a.pc, pc_n3 T a.pc, a.l3⟩, a.kn_, fun d H3 n3 r3 h3 => q (.ref d) H3 (e2.tr r3) fun H4 r4 => ⟨d, rfl, r4 _ _ h3⟩⟩
end
def spOneSet (K : PySem.W.Frag) : Sp := fun vs H Q _ => ∃ k s t nl ns, vs = [.ref k, .str (mkS s), .str (mkS t), .ref nl] ∧ KeptAt K k s t H ∧ H nl = some (.lst (vS ns)) ∧ ns ≠ [] ∧ LamX.Tabs (Tb K) H ∧ ∀ H', ExB (Tb K) H H' → Q (.bl true) H'
abbrev Nlo : List Str := ["_law_kept", "_law_side", "_law_top", "_law_numbers", "_law_due", "_law_board", "_law_at"]
theorem sc_lone : FnScope Nlo ["_law_kept", "_law_side", "_law_top", "_law_numbers"] (defScope (top 82)) := ⟨rfl, rfl, rfl, by decide +kernel, rfl, by decide +kernel, by decide +kernel⟩
section
variable {P : Program} {w : World} {K : PySem.W.Frag} {mg : Str → Option Value} {base : Heap} (T : Txt K mg)
include T
theorem ok_lone (TB : Tbs K mg base) : Ok P w K mg base 210 (He.fAd K ("_law_one_set", none)) ["_law_kept", "_law_side", "_law_top", "_law_numbers"] (spOneSet K) := by
  refine ok_of T.d__law_one_set sc_lone (fun _ _ _ _ _ _ us hl => match us, hl with | [_, _, _, _], _ => rfl) (fun vs H Q E h => by obtain ⟨_, _, _, _, _, rfl, _⟩ := h; rfl) (fun cdv A outer s0 H vs Q E hr h => ?_)
  obtain ⟨k, s, t, nl, ns, rfl, hk, hn, hne, hT, kq⟩ := h
  have nd := sc_lone.nd
  have hs := hk.rows.1
  have ht := hk.rows.2
  have sl := hs.1
  have tl := ht.1
  have hu : (cx P w K mg base Nlo "_law_one_set" (top 82) (He.fAd K ("_law_one_set", none)) cdv A outer s0 H E).A.units + 64 < cLine := hr.units
  refine q_setP (R := Ex) (P := IsDue s t) 4 (g_call (ok_lwalk T) T.g__law_walk (hr.mono (by decide)) (a_v (v_name 1 rfl) (a_1 (v_name 2 rfl))) fun vs H1 r1 k1 Q q => ?_) (fun v H1 r1 k1 => ?_) nd
  · obtain rfl := k1.now
    exact ⟨s, t, rfl, hs, ht, fun v H2 r2 h2 => q v H2 r2 fun H3 r3 => h2.ex r3⟩
  have due1 : IsDue s t v H1 := k1.now
  obtain ⟨d, dg, dc, rfl, hd, hdg, hdc⟩ := due1
  have due1 : IsDue s t (.ref d) H1 := ⟨d, dg, dc, rfl, hd, hdg, hdc⟩
  have hk1 := hk.ex T r1
  refine q_no (R := Ex) (t_w (w_or (k := false) (l := false) (t_neD (xs := [.str (mkS s), .str (mkS t)]) hu (n_lst (a_v (v_kside T (v_name 0 rfl) hk1 (hr.mono (by decide))) (a_1 (v_ktop T (v_name 0 rfl) hk1 (hr.mono (by decide))))) (by show 2 ≤ sizeLine; decide)).sq (n_lst (a_v (v_name 1 rfl) (a_1 (v_name 2 rfl))) (by show 2 ≤ sizeLine; decide)).sq (fun v hv => ?_)) fun _ =>
    w_or1 (t_not (k := true) (t_val (v_llist T (hr.mono (by decide)) (n_klines T (v_name 0 rfl) hk1 (hr.mono (by decide))) ((v_ixT (v_name 4 rfl) v_int (fun H2 r2 => SqT.of (r2 _ _ hd)) (v := .ref dg) (atI_nat (j := 0) rfl)).sq hdg) isI_vL (by rw [vL_len]; omega)))))) fun H2 r2 => ?_
  · rcases List.mem_cons.mp hv with rfl | hv
    · exact isF_row hs
    · rw [List.mem_singleton.mp hv]
      exact isF_row ht
  have hT2 : LamX.Tabs (Tb K) H2 := hT.ext (r1.tr r2)
  refine q_setP (R := ExB (Tb K)) 5 (p_board T TB (hr.mono (by decide)) (v_name 1 rfl) (v_name 2 rfl) hs ht hT2) (fun v H3 r3 k3 => ?_) nd
  have due3 := (due1.ex r2).on r3
  obtain ⟨_, dg3, dc3, e3, hd3, hdg3, hdc3⟩ := due3
  obtain rfl := V.ref.inj e3
  have due3 : IsDue s t (.ref d) H3 := ⟨d, dg3, dc3, rfl, hd3, hdg3, hdc3⟩
  have hT3 := r3.t hT2
  have cells : ∀ {H4}, ExB (Tb K) H3 H4 → Kp (ExB (Tb K)) H4 fun H => SqT K H d [.ref dg3, .ref dc3] := fun r H5 r5 => SqT.of (r5.kp _ _ (r.kp _ _ hd3 tup_nt) tup_nt)
  refine q_no (R := ExB (Tb K)) (t_w (w_or (k := false) (l := false) (t_neD hu (n_bcells (v := v) T ((v_name 5 rfl).p (P := IsBd K s t) k3) (hr.mono (by decide))).sq ((v_ixT (v_name 4 rfl) v_int (cells (Rl.rfl H3)) (v := .ref dc3) (atI_nat (j := 1) rfl)).sq hdc3) isF_rows) fun _ =>
    w_or (k := false) (l := false) (t_not (k := true) (t_val (v_llist T (hr.mono (by decide)) (n_blines (v := v) T ((v_name 5 rfl).p (P := IsBd K s t) k3) (hr.mono (by decide))) ((v_ixT (v_name 4 rfl) v_int (cells (Rl.rfl H3)) (v := .ref dg3) (atI_nat (j := 0) rfl)).sq hdg3) isI_vL (by rw [vL_len]; omega)))) fun _ =>
    w_or1 (t_not (k := true) (t_val (g_call (K := KV (ExB (Tb K)) (.bl true)) (ok_is_board T TB) T.g_is_board (hr.mono (by decide)) (a_v (v_name 1 rfl) (a_v (v_name 2 rfl) (a_1 (v_ixT (v_name 4 rfl) v_int (cells (Rl.rfl H3)) (v := .ref dc3) (atI_nat (j := 1) rfl))))) fun vs H4 r4 k4 Q q => ?_))))) fun H4 r4 => ?_
  · obtain rfl := k4.now
    exact ⟨s, t, dc3, rfl, r4.kp _ _ hdc3 lst_nt, hs, ht, r4.t hT3, q⟩
  have hT4 := r4.t hT3
  refine q_no (R := ExB (Tb K)) (t_not (k := true) (t_val (v_llistP T (hr.mono (by decide)) (xs := vL (s.length + t.length) (LN s t)) (g_call (ok_walked T TB) T.g_walked (hr.mono (by decide)) (a_v (v_lenM rfl T.b_len (v_name 1 rfl) sl) (a_v (v_lenM rfl T.b_len (v_name 2 rfl) tl) (a_1 (v_ixT (v_name 4 rfl) v_int (cells r4) (v := .ref dc3) (atI_nat (j := 1) rfl))))) fun vs H5 r5 k5 Q q => ?_) ((v_ixT (v_name 4 rfl) v_int (cells r4) (v := .ref dg3) (atI_nat (j := 0) rfl)).sq (r4.kp _ _ hdg3 lst_nt)) isI_vL (by rw [vL_len]; omega)))) fun H5 r5 => ?_
  · obtain rfl := k5.now
    exact ⟨s, t, dc3, rfl, r5.kp _ _ (r4.kp _ _ hdc3 lst_nt) lst_nt, sl, tl, r5.t hT4, fun p H6 r6 hp => q (.ref p) H6 r6 fun H7 r7 => ⟨p, rfl, r7.kp _ _ hp lst_nt⟩⟩
  have hT5 := r5.t hT4
  have due5 := (due3.on r4).on r5
  have e5 : ExB (Tb K) H H5 := (ExB.of (r1.tr r2)).tr (r3.tr (r4.tr r5))
  have hn5 := e5.kp _ _ hn lst_nt
  obtain ⟨n0, hn0⟩ : ∃ n0, ns[0]? = some n0 := by
    cases ns with
    | nil => exact absurd rfl hne
    | cons a l => exact ⟨a, rfl⟩
  refine q_set (R := Ex) 6 ((v_mod (v_ixL (v_name 3 rfl) v_int (fun H6 r6 => SqL.of (r6 _ _ hn5)) (v := .int (n0 : Int)) (atI_nat (j := 0) (by unfold vS; rw [List.getElem?_map, hn0]; rfl))) ((v_add (v_lenM rfl T.b_len (v_name 1 rfl) sl) v_int).is (w := .int ((s.length + 1 : Nat) : Int)) (by rw [Int.natCast_add]; rfl)) (by omega)).is (w := .int ((n0 % (s.length + 1) : Nat) : Int)) (congrArg V.int (by rw [Int.fmod_eq_emod_of_nonneg _ (by omega)]; rfl))) (fun H6 r6 => ?_) nd
  have hat : n0 % (s.length + 1) ≤ s.length := by have := Nat.mod_lt n0 (show 0 < s.length + 1 by omega); omega
  generalize n0 % (s.length + 1) = at0 at hat ⊢
  have due6 := due5.ex r6
  have hT6 := hT5.ext r6
  have sp : s = s.take at0 ++ s.drop at0 := (List.take_append_drop _ _).symm
  have la : (s.take at0).length = at0 := by rw [List.length_take]; omega
  refine q_no (R := ExB (Tb K)) (t_w (w_or (k := false) (l := false) (t_not (k := true) (t_val (g_call (K := KV (ExB (Tb K)) (.bl true)) (ok_lhalves T TB) T.g__law_halves (hr.mono (by decide)) (a_v (v_name 1 rfl) (a_v (v_name 2 rfl) (a_v (v_name 6 rfl) (a_1 (v_name 4 rfl))))) fun vs H7 r7 k7 Q q => ?_))) fun _ => w_or1 (t_not (k := true) (t_val (g_call (K := KV (ExB (Tb K)) (.bl true)) (ok_lsteps T) T.g__law_steps (hr.mono (by decide)) (a_v (v_name 1 rfl) (a_v (v_name 2 rfl) (a_1 (v_name 4 rfl)))) fun vs H7 r7 k7 Q q => ?_))))) fun H7 r7 => ?_
  · obtain rfl := k7.now
    refine ⟨s.take at0, s.drop at0, t, d, by rw [← sp, la], by rw [← sp]; exact hs, ht, by rw [← sp]; exact due6.on r7, r7.t hT6, q⟩
  · obtain rfl := k7.now
    exact ⟨s, t, d, rfl, hs, ht, due6.on r7, fun H8 r8 => q H8 (.of r8)⟩
  have due7 := due6.on r7
  obtain ⟨_, dg7, dc7, e7, hd7, hdg7, hdc7⟩ := due7
  obtain rfl := V.ref.inj e7
  have hn7 := r7.kp _ _ (r6 _ _ hn5) lst_nt
  exact q_ret (R := Ex) (v_llistP T (hr.mono (by decide)) (n_plinesP T (p_built T (hr.mono (by decide)) (v_name 1 rfl) (v_name 2 rfl) (n_list rfl T.b_list (v_name 3 rfl) fun H8 r8 => SqL.of (r8 _ _ hn7)) hs ht) (hr.mono (by decide))) ((v_ixT (v_name 4 rfl) v_int (fun H8 r8 => SqT.of (r8 _ _ hd7)) (v := .ref dg7) (atI_nat (j := 0) rfl)).sq hdg7) isI_vL (by rw [vL_len]; omega)) fun H8 r8 => kq H8 (e5.tr ((ExB.of r6).tr (r7.tr (.of r8))))
end
end PT
namespace PT
open PySem PySem.Spec PyProof.Rows L2
/-- for x in range(a, b, c) -/
theorem q_forR3 {X : Cx} {R : Hp → Hp → Prop} [Rl R] {σ : L2.St} {H : Hp} {a b c : Expr} {pos p' : Pos} {bd rest : List Stmt} {D : Ends} (j : Nat) {n : Str} {lo hi st : Int} {m : Nat} {pr pc : Pos} (Pv : Nat → L2.St → Hp → Prop) (ha : EvV X R a σ H (.int lo)) (hb : EvV X R b σ H (.int hi)) (hc' : EvV X R c σ H (.int st)) (hrg : RgC lo hi st m) (h0 : ∀ H1, R H H1 → Pv 0 σ H1)
    (ht : ∀ (i : Nat) σ' H', i < m → Pv i σ' H' → RB X bd { D with nx := Pv (i + 1), ct := Pv (i + 1), bk := RB X rest D } (σ'.set j (some (.int (lo + (i : Nat) * st)))) H') (hd : ∀ σ' H', Pv m σ' H' → RB X rest D σ' H') (hm : X.mg "range" = none) (hN : X.N.Nodup) (hi' : X.N[j]? = some n := by rfl)
    (hx' : Loc X.env.scope n := by first | exact Or.inl rfl | exact Or.inr rfl) (hf : X.fn n = true ∨ X.env.scope.names.lookup n = some .local := by first | exact .inl rfl | exact .inr rfl) (hp : PassesOwn (model X.prog X.w) X.A X.env X.xe := by exact PassesOwn.never) (hc : X.calm = true := by rfl) (hg : Gl X "range" := by rfl)
    (h1 : starEach [a, b, c] X.env = (false, eval a X.env) :: starEach [b, c] X.env := by rfl) (h2 : starEach [b, c] X.env = (false, eval b X.env) :: starEach [c] X.env := by rfl) (h3 : starEach [c] X.env = (false, eval c X.env) :: starEach [] X.env := by rfl) (hpl : (backTo pc (starEach [b, c] X.env)).any (·.1) = false := by rfl) :
    RB X (.For (.Name n p') (.Call (.Name "range" pr) [a, b, c] [] pc) bd [] pos :: rest) D σ H :=
  RB.cons (RS.of (ps_for hp hc (pi_range3 hg hm (pa_cons pe_RE (pa_cons pe_RE (pa_cons pe_RE pa_nil h3) h2) h1) h1 hpl) (pg_name hN hi' hx' hf) pss_RB) (ha H (Rl.rfl H) _ fun H1 r1 => hb H1 r1 _ fun H2 r2 => hc' H2 (Rl.trans r1 r2) _ fun H3 r3 => ⟨lo, hi, st, m, rfl, hrg, for_rangeC Pv (h0 H3 (Rl.trans r1 (Rl.trans r2 r3))) (fun i σ' H' hi p => ht i σ' H' hi p) hd⟩))
theorem v_catM {X : Cx} {R : Hp → Hp → Prop} [Rl R] {σ : L2.St} {H : Hp} {a b : Expr} {l m : List Nat} {pos : Pos} (ha : EvV X R a σ H (.str (mkS l))) (hb : EvV X R b σ H (.str (mkS m))) (hz : l.length + m.length ≤ 1000) : EvV X R (.BinOp a .Add b pos) σ H (.str (mkS (l ++ m))) :=
  (v_cat ha hb (by rw [mkS_len, mkS_len]; exact small_line hz)).is (by rw [mkS_app])
theorem vS_three {ns : List Nat} {i : Nat} (h : i + 3 ≤ ns.length) : cutV (vS ns) (some (i : Int)) (some ((i : Int) + 3)) = [.int (ns.getD i 0 : Int), .int (ns.getD (i + 1) 0 : Int), .int (ns.getD (i + 2) 0 : Int)] := by
  unfold cutV
  rw [show ((i : Int) + 3) = ((i + 3 : Nat) : Int) by omega, HT.sIx_nat, HT.sIx_nat, vS_len, Nat.min_eq_left (by omega), Nat.min_eq_left (by omega), show i + 3 - i = 3 by omega]
  have at_ : ∀ j, j < ns.length → (vS ns)[j]? = some (.int (ns.getD j 0 : Int)) := fun j hj => by
    unfold vS
    rw [List.getElem?_map, List.getD_eq_getElem?_getD, List.getElem?_eq_getElem hj]
    rfl
  refine List.ext_getElem? fun j => ?_
  rw [List.getElem?_take]
  by_cases h2 : j < 3
  · rw [if_pos h2, List.getElem?_drop, at_ _ (by omega)]
    have : j = 0 ∨ j = 1 ∨ j = 2 := by omega
    rcases this with rfl | rfl | rfl <;> rfl
  · rw [if_neg h2]
    obtain ⟨k, rfl⟩ : ∃ k, j = k + 3 := ⟨j - 3, by omega⟩
    rfl
def bsD : List Nat := [9, 21, 4, 9, 21, 4, 9, 21, 4, 9, 21, 4, 9, 21, 4, 9, 21, 4]
def IsRw (K : PySem.W.Frag) (k : Addr) (v : V) (H : Hp) : Prop := ∃ u s t, v = .ref u ∧ H u = some (.tup [.str (mkS s), .str (mkS t)]) ∧ KeptAt K k s t H
def spDeeds (K : PySem.W.Frag) : Sp := fun vs H Q _ => ∃ k s t nl ns, ∃ b : Nat, vs = [.ref k, .str (mkS s), .str (mkS t), .ref nl, .int (b : Int)] ∧ KeptAt K k s t H ∧ s.length ≤ 20 ∧ t.length ≤ 16 ∧ H nl = some (.lst (vS ns)) ∧ Tk ns bsD ∧ ∀ v H', KX K k H H' → IsRw K k v H' → Q v H'
abbrev Nld : List Str := ["_law_kept", "_law_side", "_law_top", "_law_numbers", "_law_base_here", "_law_at", "_law_way", "_law_place", "_law_letter", "_law_sign_here", "_law_here"]
theorem sc_ldeeds : FnScope Nld ["_law_kept", "_law_side", "_law_top", "_law_numbers", "_law_base_here"] (defScope (top 79)) := ⟨rfl, rfl, rfl, by decide +kernel, rfl, by decide +kernel, by decide +kernel⟩
theorem rg_deeds : RgC 0 18 3 6 := by unfold RgC; decide +kernel
theorem abc_str : ("ab.c" : Str) = mkS [97, 98, 46, 99] := by decide +kernel
theorem KeptAt.at_ {K : PySem.W.Frag} {k : Addr} {s t : List Nat} {H : Hp} (a : KeptAt K k s t H) : ∃ dx fs, H k = some (.ins (He.ga K "Kept") dx fs) := by
  obtain ⟨dx, g, rt, fs, f, _⟩ := a
  exact ⟨dx, fs, f.at_⟩
section
variable {P : Program} {w : World} {K : PySem.W.Frag} {mg : Str → Option Value} {base : Heap} (T : Txt K mg)
include T
theorem ok_ldeeds : Ok P w K mg base 172 (He.fAd K ("_law_deeds", none)) ["_law_kept", "_law_side", "_law_top", "_law_numbers", "_law_base_here"] (spDeeds K) := by
  refine ok_of T.d__law_deeds sc_ldeeds (fun _ _ _ _ _ _ us hl => match us, hl with | [_, _, _, _, _], _ => rfl) (fun vs H Q E h => by obtain ⟨_, _, _, _, _, _, rfl, _⟩ := h; rfl) (fun cdv A outer s0 H vs Q E hr h => ?_)
  obtain ⟨k, s, t, nl, ns, b, rfl, hk, hs20, ht16, hn, ⟨nsl, nsb⟩, kq⟩ := h
  have nd := sc_ldeeds.nd
  have nsl : ns.length = 18 := nsl
  have nk : nl ≠ k := by
    obtain ⟨dx, fs, h⟩ := hk.at_
    exact ne_of hn h (by intro z; cases z)
  refine q_forR3 (R := Ex) 5 (fun i σ' H' => ∃ s t v5 v6 v7 v8 v9 v10, σ' = [some (.ref k), some (.str (mkS s)), some (.str (mkS t)), some (.ref nl), some (.int (b : Int)), v5, v6, v7, v8, v9, v10] ∧ KX K k H H' ∧ KeptAt K k s t H' ∧ s.length ≤ 20 ∧ t.length ≤ 16)
    v_int ((v_len rfl T.b_len (v_name 3 rfl) fun H1 r1 => SqL.of (r1 _ _ hn)).is (w := .int 18) (by rw [vS_len, nsl]; rfl)) v_int rg_deeds (fun H1 r1 => ⟨s, t, none, none, none, none, none, none, rfl, KX.of r1, hk.ex T r1, hs20, ht16⟩) ?_ ?_ T.b_range nd
  · rintro i σ' H1 hi ⟨s, t, v5, v6, v7, v8, v9, v10, rfl, kx, hk, hs20, ht16⟩
    have hs := hk.rows.1
    have ht := hk.rows.2
    have hn1 : H1 nl = some (.lst (vS ns)) := kx _ _ hn (MG.nl _) nk
    have b1 : ns.getD (3 * i) 0 < 9 := by
      have h1 := nsb (3 * i) (by show 3 * i < 18; omega)
      have : i = 0 ∨ i = 1 ∨ i = 2 ∨ i = 3 ∨ i = 4 ∨ i = 5 := by omega
      rcases this with rfl | rfl | rfl | rfl | rfl | rfl <;> exact h1
    have b3 : ns.getD (3 * i + 2) 0 < 4 := by
      have h1 := nsb (3 * i + 2) (by show 3 * i + 2 < 18; omega)
      have : i = 0 ∨ i = 1 ∨ i = 2 ∨ i = 3 ∨ i = 4 ∨ i = 5 := by omega
      rcases this with rfl | rfl | rfl | rfl | rfl | rfl <;> exact h1
    have cut := vS_three (ns := ns) (i := 3 * i) (by omega)
    generalize ns.getD (3 * i) 0 = w1 at b1 cut
    generalize ns.getD (3 * i + 1) 0 = w2 at cut
    generalize ns.getD (3 * i + 2) 0 = w3 at b3 cut
    have eat : (0 : Int) + (i : Nat) * 3 = ((3 * i : Nat) : Int) := by omega
    rw [eat]
    refine q_tgtX (pg_unl (n := 3) rfl (pgs_cons (pg_name nd (i := 6) rfl (.inl rfl) (.inl rfl)) (pgs_cons (pg_name nd (i := 7) rfl (.inl rfl) (.inl rfl)) (pgs_cons (pg_name nd (i := 8) rfl (.inl rfl) (.inl rfl)) pgs_nil))))
      ((n_slL (R := Ex) (v_name 3 rfl) (o_some (v_name 5 rfl)) (o_some (v_add (v_name 5 rfl) v_int)) fun H2 r2 => SqL.of (r2 _ _ hn1)).go fun p2 H2 n2 r2 h2 => ?_)
    rw [cut] at h2
    refine ⟨p2, _, rfl, SqL.of h2, rfl, _, _, rfl, _, _, rfl, _, _, rfl, rfl, ?_⟩
    have habc : ([97, 98, 46, 99] : List Nat)[w3]? = some (([97, 98, 46, 99] : List Nat).getD w3 0) := getD_at b3
    have hsg : isSg (([97, 98, 46, 99] : List Nat).getD w3 0) = true := by
      have : w3 = 0 ∨ w3 = 1 ∨ w3 = 2 ∨ w3 = 3 := by omega
      rcases this with rfl | rfl | rfl | rfl <;> decide
    generalize ([97, 98, 46, 99] : List Nat).getD w3 0 = c0 at habc hsg
    refine q_setP (R := Ex) (P := fun v _ => ∃ c, v = sgn c ∧ isSg c = true) 9 (g_call (ok_lsign T) T.g__law_sign (hr.mono (by decide)) (a_v (v_ixS (k := c0) v_str (v_name 8 rfl) (by decide) (by rw [abc_str]; exact mkS_at habc)) (a_1 (v_name 4 rfl))) fun vs H3 r3 k3 Q q => ?_) (fun v H3 r3 k3 => ?_) nd
    · obtain rfl := k3.now
      exact ⟨c0, b, rfl, hsg, fun d hd H4 r4 => q _ H4 r4 fun _ _ => ⟨d, rfl, hd⟩⟩
    obtain ⟨c, rfl, hc⟩ := k3.now
    refine q_set (R := Ex) 10 ((v_mod (v_name 7 rfl) ((v_max rfl T.b_max v_int (v_lenM rfl T.b_len (v_name 1 rfl) hs.1)).is (w := .int ((max 1 s.length : Nat) : Int)) (congrArg V.int (by split <;> omega))) (by omega)).is (w := .int ((w2 % max 1 s.length : Nat) : Int)) (congrArg V.int (by rw [Int.fmod_eq_emod_of_nonneg _ (by omega)]; rfl))) (fun H4 r4 => ?_) nd
    have e4 : Ex H1 H4 := r2.tr (r3.tr r4)
    have hk4 := hk.ex T e4
    have kx4 := kx.tr (KX.of e4)
    have hh : w2 % max 1 s.length < max 1 s.length := Nat.mod_lt _ (by omega)
    generalize w2 % max 1 s.length = h0 at hh ⊢
    refine q_if (R := Ex) (t_w (w_and (t_lt (v_name 6 rfl) v_int) fun _ => w_and1 (t_lt (v_lenM rfl T.b_len (v_name 1 rfl) hs.1) v_int))) (fun hx H5 r5 => ?_) (fun hx H5 r5 => ?_)
    · rw [Bool.and_eq_true] at hx
      have l20 : s.length < 20 := by have := of_decide_eq_true hx.2; omega
      refine q_set (R := Ex) 10 ((v_mod (v_name 7 rfl) ((v_add (v_lenM rfl T.b_len (v_name 1 rfl) hs.1) v_int).is (w := .int ((s.length + 1 : Nat) : Int)) (by rw [Int.natCast_add]; rfl)) (by omega)).is (w := .int ((w2 % (s.length + 1) : Nat) : Int)) (congrArg V.int (by rw [Int.fmod_eq_emod_of_nonneg _ (by omega)]; rfl))) (fun H6 r6 => ?_) nd
      have h1 : w2 % (s.length + 1) ≤ s.length := by have := Nat.mod_lt w2 (show 0 < s.length + 1 by omega); omega
      generalize w2 % (s.length + 1) = h1' at h1 ⊢
      have hk6 := hk4.ex T (r5.tr r6)
      refine q_exprX (re_meth (R := Ex) T.k_Kept T.m_Kept_put (ok_kput T) (hr.mono (by decide)) (x_name 0 rfl) (hk6.me (m := "put") (by decide +kernel)).now (a_v (v_name 10 rfl) (a_1 (v_name 9 rfl))) fun vs H7 r7 k7 => ?_)
      obtain rfl := k7.now
      refine ⟨k, s, t, c, h1', rfl, hk6.ex T r7, hc, h1, by omega, fun H8 kx8 hk8 => ?_⟩
      have hs8 := hk8.rows.1
      have ll : (s.take h1').length = h1' := by rw [List.length_take]; omega
      have ld : (s.drop h1').length = s.length - h1' := List.length_drop
      refine q_set (R := Ex) 1 ((v_catM (v_catM (m := [c]) (v_take (v_name 1 rfl) (v_name 10 rfl) hs.1) (v_name 9 rfl) (by simp; omega)) (v_drop (v_name 1 rfl) (v_name 10 rfl) hs.1) (by simp; omega)).is (w := .str (mkS (s.take h1' ++ c :: s.drop h1'))) (by rw [List.append_assoc]; rfl)) (fun H9 r9 => RB.nil (RB.nil ⟨_, t, _, _, _, _, _, _, rfl, kx4.tr ((KX.of (r5.tr (r6.tr r7))).tr (kx8.tr (KX.of r9))), hk8.ex T r9, by rw [List.length_append, List.length_cons]; omega, ht16⟩)) nd
    refine q_if (R := Ex) (t_w (w_and (t_lt (v_name 6 rfl) v_int) fun _ => w_and1 (t_ne (v_name 1 rfl) v_str))) (fun hx2 H6 r6 => ?_) (fun hx2 H6 r6 => ?_)
    · rw [Bool.and_eq_true, str_nil] at hx2
      have sne : s ≠ [] := by simpa using hx2.2
      have spos : 0 < s.length := List.length_pos_iff.mpr sne
      have hlt : h0 < s.length := by omega
      have hget : s[h0]? = some (s.getD h0 0) := getD_at hlt
      generalize s.getD h0 0 = d0 at hget
      have hk6 := hk4.ex T (r5.tr r6)
      refine q_ifX (RT.of (pt_cmpR op_ne pe_RE pe_RE rfl) (re_meth (R := Ex) T.k_Kept T.m_Kept_drop (ok_kdrop T) (hr.mono (by decide)) (x_name 0 rfl) (hk6.me (m := "drop") (by decide +kernel)).now (a_1 (v_name 10 rfl)) fun vs H7 r7 k7 => ?_))
      obtain rfl := k7.now
      refine ⟨k, s, t, d0, h0, rfl, hk6.ex T r7, hget, fun H8 kx8 hk8 => (v_ixS (R := Ex) (k := d0) (v_name 1 rfl) (v_name 10 rfl) (by rw [mkS_len]; exact small_line (by omega)) (mkS_at hget)).go fun H9 r9 => ⟨rfl, false, by simp, ?_⟩⟩
      show ite (false = true) _ _
      rw [if_neg Bool.false_ne_true]
      have ll : (s.take h0).length = h0 := by rw [List.length_take]; omega
      have ld : (s.drop (h0 + 1)).length = s.length - (h0 + 1) := List.length_drop
      refine RB.nil (q_set (R := Ex) 1 (v_catM (v_take (v_name 1 rfl) (v_name 10 rfl) hs.1) (v_drop (k := h0 + 1) (v_name 1 rfl) ((v_add (v_name 10 rfl) v_int).is (by rw [Int.natCast_add]; rfl)) hs.1) (by omega)) (fun H10 r10 => RB.nil (RB.nil (RB.nil ⟨_, t, _, _, _, _, _, _, rfl, kx4.tr ((KX.of (r5.tr (r6.tr r7))).tr (kx8.tr (KX.of (r9.tr r10)))), hk8.ex T (r9.tr r10), by rw [List.length_append]; omega, ht16⟩))) nd)
    refine q_if (R := Ex) (t_w (w_and (t_lt (v_name 6 rfl) v_int) fun _ => w_and1 (t_ne (v_name 1 rfl) v_str))) (fun hx3 H7 r7 => ?_) (fun hx3 H7 r7 => ?_)
    · rw [Bool.and_eq_true, str_nil] at hx3
      have sne : s ≠ [] := by simpa using hx3.2
      have spos : 0 < s.length := List.length_pos_iff.mpr sne
      have hlt : h0 < s.length := by omega
      have hget : s[h0]? = some (s.getD h0 0) := getD_at hlt
      generalize s.getD h0 0 = d0 at hget
      have hk7 := hk4.ex T (r5.tr (r6.tr r7))
      refine q_ifX (RT.of (pt_cmpR op_ne pe_RE pe_RE rfl) (re_meth (R := Ex) T.k_Kept T.m_Kept_change (ok_kchange T) (hr.mono (by decide)) (x_name 0 rfl) (hk7.me (m := "change") (by decide +kernel)).now (a_v (v_name 10 rfl) (a_1 (v_name 9 rfl))) fun vs H8 r8 k8 => ?_))
      obtain rfl := k8.now
      refine ⟨k, s, t, c, d0, h0, rfl, hk7.ex T r8, hc, hget, fun H9 kx9 hk9 => (v_ixS (R := Ex) (k := d0) (v_name 1 rfl) (v_name 10 rfl) (by rw [mkS_len]; exact small_line (by omega)) (mkS_at hget)).go fun H10 r10 => ⟨rfl, false, by simp, ?_⟩⟩
      show ite (false = true) _ _
      rw [if_neg Bool.false_ne_true]
      have ll : (s.take h0).length = h0 := by rw [List.length_take]; omega
      have ld : (s.drop (h0 + 1)).length = s.length - (h0 + 1) := List.length_drop
      refine RB.nil (q_set (R := Ex) 1 ((v_catM (v_catM (m := [c]) (v_take (v_name 1 rfl) (v_name 10 rfl) hs.1) (v_name 9 rfl) (by simp; omega)) (v_drop (k := h0 + 1) (v_name 1 rfl) ((v_add (v_name 10 rfl) v_int).is (by rw [Int.natCast_add]; rfl)) hs.1) (by simp; omega)).is (w := .str (mkS (s.take h0 ++ c :: s.drop (h0 + 1)))) (by rw [List.append_assoc]; rfl)) (fun H11 r11 => RB.nil (RB.nil (RB.nil (RB.nil ⟨_, t, _, _, _, _, _, _, rfl, kx4.tr ((KX.of (r5.tr (r6.tr (r7.tr r8)))).tr (kx9.tr (KX.of (r10.tr r11)))), hk9.ex T (r10.tr r11), by rw [List.length_append, List.length_cons]; omega, ht16⟩)))) nd)
    · refine q_if (R := Ex) (t_eq (v_name 6 rfl) v_int) (fun hx4 H8 r8 => ?_) (fun hx4 H8 r8 => ?_)
      · have tl := ht.1
        have hpm : w2 % (t.length + 1) ≤ t.length := by have := Nat.mod_lt w2 (show 0 < t.length + 1 by omega); omega
        have e8 : Ex H4 H8 := r5.tr (r6.tr (r7.tr r8))
        have hk8 := hk4.ex T e8
        have ld : (t.drop (w2 % (t.length + 1))).length = t.length - w2 % (t.length + 1) := List.length_drop
        have lt2 : (t.take 2).length ≤ 2 := by rw [List.length_take]; omega
        refine q_set (R := Ex) 2 (v_take (s := t.drop (w2 % (t.length + 1)) ++ [c] ++ t.take 2) (k := 16) (v_catM (v_catM (m := [c]) (v_drop (k := w2 % (t.length + 1)) (v_name 2 rfl) ((v_mod (v_name 7 rfl) ((v_add (v_lenM rfl T.b_len (v_name 2 rfl) tl) v_int).is (w := .int ((t.length + 1 : Nat) : Int)) (by rw [Int.natCast_add]; rfl)) (by omega)).is (congrArg V.int (by rw [Int.fmod_eq_emod_of_nonneg _ (by omega)]; rfl))) tl) (v_name 9 rfl) (by simp; omega)) (v_take (k := 2) (v_name 2 rfl) v_int tl) (by simp; omega)) v_int (by simp; omega)) (fun H9 r9 => ?_) nd
        have hr16 : rowOk ((t.drop (w2 % (t.length + 1)) ++ [c] ++ t.take 2).take 16) := (((ht.drop _).app (rowOk.one hc) (by simp; omega)).app (ht.take 2) (by simp; omega)).take 16
        have l16 : ((t.drop (w2 % (t.length + 1)) ++ [c] ++ t.take 2).take 16).length ≤ 16 := by rw [List.length_take]; omega
        generalize (t.drop (w2 % (t.length + 1)) ++ [c] ++ t.take 2).take 16 = t' at hr16 l16 ⊢
        have hk9 := hk8.ex T r9
        refine q_exprX (re_meth (R := Ex) T.k_Kept T.m_Kept_retop (ok_kretop T) (hr.mono (by decide)) (x_name 0 rfl) (hk9.me (m := "retop") (by decide +kernel)).now (a_1 (v_name 2 rfl)) fun vs H10 r10 k10 => ?_)
        obtain rfl := k10.now
        exact ⟨k, s, t, t', rfl, hk9.ex T r10, hr16, fun H11 kx11 hk11 => RB.nil (RB.nil (RB.nil (RB.nil (RB.nil ⟨s, t', _, _, _, _, _, _, rfl, kx4.tr ((KX.of (e8.tr (r9.tr r10))).tr kx11), hk11, hs20, l16⟩))))⟩
      · have e8 : Ex H4 H8 := r5.tr (r6.tr (r7.tr r8))
        exact RB.nil (RB.nil (RB.nil (RB.nil (RB.nil ⟨s, t, _, _, _, _, _, _, rfl, kx4.tr (KX.of e8), hk4.ex T e8, hs20, ht16⟩))))
  · rintro σ' H1 ⟨s, t, v5, v6, v7, v8, v9, v10, rfl, kx, hk, hs20, ht16⟩
    refine q_ret (R := Ex) (p_tup (a_v (v_name 1 rfl) (a_1 (v_name 2 rfl))) (fun vs _ e => by rw [e]; show 2 ≤ sizeLine; decide)) fun v H2 r2 k2 => ?_
    obtain ⟨u, vs, rfl, hu, rfl⟩ := k2.now
    exact kq _ H2 (kx.tr (KX.of r2)) ⟨u, s, t, rfl, hu, hk.ex T r2⟩
end
end PT
namespace PT
open PySem PySem.Spec PyProof.Rows L2
/-! ### the law -/
theorem frz_ng {K : PySem.W.Frag} {o : Obj} {u : HO} : ¬ MG K (.frz o u) := by rintro (⟨_, h⟩ | ⟨_, _, h⟩) <;> cases h
theorem frz_nt {o : Obj} {u : HO} : ¬ MT (.frz o u) := by rintro ⟨_, h⟩; cases h
theorem SqL.kx {K : PySem.W.Frag} {H H' : Hp} {a x C dx : Addr} {fs : List (Str × V)} {xs : List V} (h : SqL K H a xs) (k : KX K x H H') (hx : H x = some (.ins C dx fs)) : SqL K H' a xs := by
  rcases h with (h | ⟨o, h⟩) | h
  · exact .inl (.inl (k _ _ h (MG.nl _) (ne_of h hx (by intro z; cases z))))
  · exact .inl (.inr ⟨o, k _ _ h frz_ng (ne_of h hx (by intro z; cases z))⟩)
  · exact .inr h
theorem SqL.onB {K : PySem.W.Frag} {T : List (Addr × Str)} {H H' : Hp} {a : Addr} {xs : List V} (h : SqL K H a xs) (k : ExB T H H') : SqL K H' a xs := by
  rcases h with (h | ⟨o, h⟩) | h
  · exact .inl (.inl (k.kp _ _ h lst_nt))
  · exact .inl (.inr ⟨o, k.kp _ _ h frz_nt⟩)
  · exact .inr h
theorem tabs_kx {K : PySem.W.Frag} {T : List (Addr × Str)} {H H' : Hp} {x C dx : Addr} {fs : List (Str × V)} (h : LamX.Tabs T H) (k : KX K x H H') (hx : H x = some (.ins C dx fs)) : LamX.Tabs T H' := fun p hp => by
  obtain ⟨ps, h1, h2, h3⟩ := h p hp
  refine ⟨ps, k _ _ h1 (by rintro (⟨_, z⟩ | ⟨_, _, z⟩) <;> cases z) (ne_of h1 hx (by intro z; cases z)), h2, fun pos cv hc => ?_⟩
  obtain ⟨c, e1, e2⟩ := h3 pos cv hc
  refine ⟨c, e1, k _ _ e2 (by rintro (⟨_, z⟩ | ⟨_, _, z⟩) <;> (unfold LamX.CodeO at z; cases z)) (ne_of e2 hx (by intro z; unfold LamX.CodeO at z; cases z))⟩
section
variable {K : PySem.W.Frag} {mg : Str → Option Value} (T : Txt K mg) {H H' : Hp} (e : ∀ a o, H a = some o → ¬ MT o → H' a = some o)
include e
theorem PcK.et {p : Addr} {s t : List Nat} (a : PcK K p s t H) : PcK K p s t H' := by
  obtain ⟨c, dx, kn, lv, fs, a⟩ := a
  exact ⟨c, dx, kn, lv, fs, a.keep (by rw [e _ _ a.at_ ins_nt, a.at_]) (by rw [e _ _ a.kn_ lst_nt, a.kn_])⟩
theorem LimbAt.et {t : List Nat} : ∀ {R : Tr} {p : Addr}, LimbAt K t R p H → LimbAt K t R p H' := by
  have one : ∀ {p nu pc u l m h}, LF K p nu pc u l m h H → LF K p nu pc u l m h H' := fun {p nu pc u l m h} ⟨d, gs, a⟩ => ⟨d, gs, e _ _ a.at_ ins_nt, a.f1, a.f2, a.f3, a.f4, a.f5, a.f6, a.nm⟩
  intro R
  induction R with
  | lf c => exact fun {p} ⟨nu, pc, h1, h2⟩ => ⟨nu, pc, one h1, h2.et e⟩
  | nd l r i1 i2 => exact fun {p} ⟨nu, pc, a, b, h1, h2, h3, h4⟩ => ⟨nu, pc, a, b, one h1, h2.et e, i1 h3, i2 h4⟩
theorem KeptAt.et {k : Addr} {s t : List Nat} (a : KeptAt K k s t H) : KeptAt K k s t H' := by
  obtain ⟨dx, g, rt, fs, f, ⟨n, d, sd, gs, kvs, G⟩, hl, hs⟩ := a
  refine ⟨dx, g, rt, fs, ⟨e _ _ f.at_ ins_nt, f.f1, f.f2, f.nm, f.fl⟩, ⟨n, d, sd, gs, kvs, e _ _ G.at_ ins_nt, G.f1, G.f2, G.f3, G.nm, G.fl, e _ _ G.ds (by rintro ⟨_, z⟩; cases z), G.ks, fun c v h => by obtain ⟨p, h1, h2⟩ := G.di c v h; exact ⟨p, h1, h2.et e⟩, G.rk⟩, ?_, hs⟩
  rcases hl with h | ⟨p, R, h1, h2, h3⟩
  · exact .inl h
  · exact .inr ⟨p, R, h1, h2, h3.et e⟩
end
theorem rg_law : ∀ m : Nat, m < 33 → RgC 0 (m : Int) 4 ((m + 3) / 4) := by unfold RgC; decide +kernel
def spLaw (K : PySem.W.Frag) : Sp := fun vs H Q _ => ∃ (a : Addr) (xs : List Int), vs = [.ref a] ∧ SqL K H a (xs.map V.int) ∧ xs.length ≤ 63 ∧ LamX.Tabs (Tb K) H ∧ ∀ H', Q (.bl true) H'
abbrev NlawX : List Str := ["_law_script", "_law_k", "_law_base_here", "_law_side", "_law_top", "_law_kept", "_law_numbers", "_law_rows"]
theorem sc_lawX : FnScope NlawX ["_law_script"] (defScope (top 83)) := ⟨rfl, rfl, rfl, by decide +kernel, rfl, by decide +kernel, by decide +kernel⟩
section
variable {X : Cx} {σ : L2.St} {H : Hp} {a b : Expr} {pos p' : Pos} (T : Txt X.K X.mg)
include T
theorem p_cell {q : Addr} {xs : List Int} {k : Nat} (hr : Room 1 X.A) (ha : EvV X Ex a σ H (.ref q)) (hb : EvV X Ex b σ H (.int (k : Int))) (h : SqL X.K H q (xs.map V.int)) (hg : Gl X "_law_cell" := by rfl)
    (h1 : starEach [a, b] X.env = (false, eval a X.env) :: starEach [b] X.env := by rfl) (h2 : starEach [b] X.env = (false, eval b X.env) :: starEach [] X.env := by rfl) (hpl : (backTo pos (starEach [b] X.env)).any (·.1) = false := by rfl) : EvP X Ex (.Call (.Name "_law_cell" p') [a, b] [] pos) σ H (fun v _ => ∃ i : Int, v = .int i) :=
  g_call (ok_cell T) T.g__law_cell hr (a_v ha (a_1 hb h2) h1) (fun vs H1 r1 k1 Q q => by
    obtain rfl := k1.now
    exact ⟨_, xs, k, rfl, SqL.on h r1, fun i H2 r2 => q _ H2 r2 fun _ _ => ⟨i, rfl⟩⟩) hg (by decide) h1 hpl
theorem p_text {c : Expr} {bb : Nat} (hr : Room 3 X.A) (ha : EvP X Ex a σ H (fun v _ => ∃ i : Int, v = .int i)) (hb : EvV X Ex b σ H (.int 16)) (hc : EvV X Ex c σ H (.int (bb : Int))) (hg : Gl X "_law_text" := by rfl)
    (h1 : starEach [a, b, c] X.env = (false, eval a X.env) :: starEach [b, c] X.env := by rfl) (h2 : starEach [b, c] X.env = (false, eval b X.env) :: starEach [c] X.env := by rfl) (h3 : starEach [c] X.env = (false, eval c X.env) :: starEach [] X.env := by rfl) (hpl : (backTo pos (starEach [b, c] X.env)).any (·.1) = false := by rfl) :
    EvP X Ex (.Call (.Name "_law_text" p') [a, b, c] [] pos) σ H (fun v _ => ∃ l, v = .str (mkS l) ∧ rowOk l ∧ l.length ≤ 16) :=
  g_call (ok_ltext T) T.g__law_text hr (a_p ha (a_p (hb.p (P := fun v _ => v = .int 16) (kp_true rfl)) (a_p (hc.p (P := fun v _ => v = .int (bb : Int)) (kp_true rfl)) (a_nil (PA := fun ws _ => ws = [])) h3) h2) h1) (fun vs H1 r1 k1 Q q => by
    obtain ⟨_, _, rfl, ⟨i, rfl⟩, _, _, rfl, rfl, _, _, rfl, rfl, rfl⟩ := k1.now
    exact ⟨i, bb, rfl, fun l hl hn H2 r2 => q _ H2 r2 fun _ _ => ⟨l, rfl, hl, hn⟩⟩) hg (by decide) h1 hpl
theorem p_takes {bs : List Nat} (hr : Room 2 X.A) (ha : EvP X Ex a σ H (fun v _ => ∃ i : Int, v = .int i)) (hb : EvN X Ex b σ H (vS bs)) (hx : ∀ x ∈ bs, 0 < x ∧ x < 1000000) (hl : bs.length ≤ 100) (hg : Gl X "_law_takes" := by rfl)
    (h1 : starEach [a, b] X.env = (false, eval a X.env) :: starEach [b] X.env := by rfl) (h2 : starEach [b] X.env = (false, eval b X.env) :: starEach [] X.env := by rfl) (hpl : (backTo pos (starEach [b] X.env)).any (·.1) = false := by rfl) : EvP X Ex (.Call (.Name "_law_takes" p') [a, b] [] pos) σ H (IsTk bs) :=
  g_call (ok_takes T) T.g__law_takes hr (a_p ha (a_p hb.p (a_nil (PA := fun ws _ => ws = [])) h2) h1) (fun vs H1 r1 k1 Q q => by
    obtain ⟨_, _, rfl, ⟨i, rfl⟩, _, _, rfl, ⟨p, rfl, hp⟩, rfl⟩ := k1.now
    exact ⟨i, p, bs, rfl, hp, hx, hl, fun v H2 r2 h => q v H2 r2 fun H3 r3 => by obtain ⟨p, ns, h1, h2, h3⟩ := h; exact ⟨p, ns, h1, r3 _ _ h2, h3⟩⟩) hg (by decide) h1 hpl
/-- Kept(side, top), told of the very state -/
theorem re_kept {s t : List Nat} {Q : VK} (hr : Room 171 X.A) (ha : EvV X Ex a σ H (.str (mkS s))) (hb : EvV X Ex b σ H (.str (mkS t))) (hs : rowOk s) (ht : rowOk t) (k : ∀ x H1 H', Ex H H1 → KX X.K x H1 H' → (∃ dx, H1 x = some (.ins (He.ga X.K "Kept") dx [])) → KeptAt X.K x s t H' → Q (.ref x) H') (hg : Gl X "Kept" := by rfl)
    (h1 : starEach [a, b] X.env = (false, eval a X.env) :: starEach [b] X.env := by rfl) (h2 : starEach [b] X.env = (false, eval b X.env) :: starEach [] X.env := by rfl) (hpl : (backTo pos (starEach [b] X.env)).any (·.1) = false := by rfl) : RE X (.Call (.Name "Kept" p') [a, b] [] pos) σ H Q := by
  obtain ⟨fd, F, bd⟩ := (ok_kinit (P := X.prog) (w := X.w) (base := X.base) T).ex
  refine RE.of (pe_make T.mk_Kept F hr hg T.g_Kept bd .nil pass0 (pa_cons pe_RE (pa_cons pe_RE pa_nil h2) h1) (by decide) h1 hpl) (ha.go fun H1 r1 => hb H1 r1 _ fun H2 r2 => ?_)
  intro x dx nx nd ne
  show spKInit X.K [.ref x, .str (mkS s), .str (mkS t)] _ _ E0
  exact ⟨x, dx, s, t, rfl, upd_same, hs, ht, fun H' kx hk => ⟨rfl, k x _ H' (r1.tr (r2.tr (made_ex nx nd))) kx ⟨dx, upd_same⟩ hk⟩⟩
end
end PT
namespace PT
open PySem PySem.Spec PyProof.Rows L2
section
variable {P : Program} {w : World} {K : PySem.W.Frag} {mg : Str → Option Value} {base : Heap} (T : Txt K mg)
include T
theorem law_body (TB : Tbs K mg base) {cdv : Value} {A : Around} {outer : List Env} {s0 : Shared} {H : Hp} {vs : List V} {Q : VK} {E : XK} (hr : Room 211 (A.deeper (envOfC "law" (defScope (top 83)) s0.heap.objs.size (He.fAd K ("law", none)) cdv))) (h : spLaw K vs H Q E) :
    RB (cx P w K mg base NlawX "law" (top 83) (He.fAd K ("law", none)) cdv A outer s0 H E) (defBody (top 83)) { nx := fun _ H' => Q .non H', rt := Q } (start NlawX vs) H := by
  obtain ⟨a, xs, rfl, ha, hl, hT, kq⟩ := h
  have nd := sc_lawX.nd
  have hm : max 8 (min 32 xs.length) < 33 := by omega
  refine q_forR3 (R := Ex) 1 (fun i σ' H' => ∃ v1 v2 v3 v4 v5 v6 v7, σ' = [some (.ref a), v1, v2, v3, v4, v5, v6, v7] ∧ SqL K H' a (xs.map V.int) ∧ LamX.Tabs (Tb K) H')
    v_int ((v_max rfl T.b_max v_int (v_min rfl T.b_min v_int (v_len rfl T.b_len (v_name 0 rfl) fun H1 r1 => SqL.on ha r1))).is (w := .int ((max 8 (min 32 xs.length) : Nat) : Int)) (congrArg V.int (by rw [List.length_map]; split <;> split at * <;> omega))) v_int (rg_law _ hm) (fun H1 r1 => ⟨none, none, none, none, none, none, none, rfl, SqL.on ha r1, hT.ext r1⟩) ?_ ?_ T.b_range nd
  · rintro i σ' H1 hi ⟨v1, v2, v3, v4, v5, v6, v7, rfl, ha, hT⟩
    have ei : (0 : Int) + (i : Nat) * 4 = ((4 * i : Nat) : Int) := by omega
    rw [ei]
    generalize 4 * i = k
    refine q_setP (R := Ex) (P := fun v _ => ∃ b : Nat, v = .int (b : Int) ∧ b < 26) 2 (g_call (ok_lbase T) T.g__law_base (hr.mono (by decide)) (a_p (p_cell T (hr.mono (by decide)) (v_name 0 rfl) (v_name 1 rfl) ha) (a_nil (PA := fun ws _ => ws = []))) fun vs H2 r2 k2 Q q => ?_) (fun v H2 r2 k2 => ?_) nd
    · obtain ⟨_, _, rfl, ⟨j, rfl⟩, rfl⟩ := k2.now
      exact ⟨j, rfl, fun b hb H3 r3 => q _ H3 r3 fun _ _ => ⟨b, rfl, hb⟩⟩
    obtain ⟨b, rfl, hb⟩ := k2.now
    have ha2 := SqL.on ha r2
    refine q_setP (R := Ex) 3 (p_text T (hr.mono (by decide)) (p_cell T (hr.mono (by decide)) (v_name 0 rfl) (v_name 1 rfl) ha2) v_int (v_name 2 rfl)) (fun v H3 r3 k3 => ?_) nd
    obtain ⟨s, rfl, hs, s16⟩ := k3.now
    have ha3 := SqL.on ha2 r3
    refine q_setP (R := Ex) 4 (p_text T (hr.mono (by decide)) (p_cell (k := k + 1) T (hr.mono (by decide)) (v_name 0 rfl) ((v_add (v_name 1 rfl) v_int).is (by rw [Int.natCast_add]; rfl)) ha3) v_int (v_name 2 rfl)) (fun v H4 r4 k4 => ?_) nd
    obtain ⟨t, rfl, ht, t16⟩ := k4.now
    have ha4 := SqL.on ha3 r4
    have hT4 := hT.ext (r2.tr (r3.tr r4))
    refine q_setX 5 (re_kept T (hr.mono (by decide)) (v_name 3 rfl) (v_name 4 rfl) hs ht fun x H5 H6 r5 kx ⟨dx, hx⟩ hk => ?_) nd
    have ha6 := SqL.kx (SqL.on ha4 r5) kx hx
    have hT6 := tabs_kx (hT4.ext r5) kx hx
    refine q_setP (R := Ex) 6 (p_takes (bs := List.replicate 24 432) T (hr.mono (by decide)) (p_cell (k := k + 2) T (hr.mono (by decide)) (v_name 0 rfl) ((v_add (v_name 1 rfl) v_int).is (by rw [Int.natCast_add]; rfl)) ha6) ((n_rep (n_lst (a_1 v_int) (by show 1 ≤ sizeLine; decide)) v_int (by decide) (by decide) (by show 1 * 24 ≤ sizeLine; decide)).is (by decide +kernel)) (by decide) (by decide)) (fun v H7 r7 k7 => ?_) nd
    obtain ⟨nl, ns, rfl, hn, nl24, _⟩ := k7.now
    have ne : ns ≠ [] := fun e => by rw [e] at nl24; cases nl24
    have hk7 := hk.ex T r7
    have ha7 := SqL.on ha6 r7
    have hT7 := hT6.ext r7
    refine q_no (R := ExB (Tb K)) (t_not (k := true) (t_val (g_call (K := KV (ExB (Tb K)) (.bl true)) (ok_lone T TB) T.g__law_one_set (hr.mono (by decide)) (a_v (v_name 5 rfl) (a_v (v_name 3 rfl) (a_v (v_name 4 rfl) (a_1 (v_name 6 rfl))))) fun vs H8 r8 k8 Q q => ?_))) fun H8 r8 => ?_
    · obtain rfl := k8.now
      exact ⟨x, s, t, nl, ns, rfl, hk7.et r8.kp, r8.kp _ _ hn lst_nt, ne, r8.t hT7, q⟩
    have hk8 := hk7.et r8.kp
    have ha8 := SqL.onB ha7 r8
    have hT8 := r8.t hT7
    have hn8 := r8.kp _ _ hn lst_nt
    refine q_setX 7 (re_call (R := Ex) (ok_ldeeds T) T.g__law_deeds (hr.mono (by decide)) (a_p ((v_name 5 rfl).p (P := fun v _ => v = .ref x) (kp_true rfl)) (a_p ((v_name 3 rfl).p (P := fun v _ => v = .str (mkS s)) (kp_true rfl)) (a_p ((v_name 4 rfl).p (P := fun v _ => v = .str (mkS t)) (kp_true rfl)) (a_p (p_takes (bs := bsD) T (hr.mono (by decide)) (p_cell (k := k + 3) T (hr.mono (by decide)) (v_name 0 rfl) ((v_add (v_name 1 rfl) v_int).is (by rw [Int.natCast_add]; rfl)) ha8) ((n_rep (n_lst (a_v v_int (a_v v_int (a_1 v_int))) (by show 3 ≤ sizeLine; decide)) v_int (by decide) (by decide) (by show 3 * 6 ≤ sizeLine; decide)).is (by decide +kernel)) (by decide) (by decide))
      (a_p ((v_name 2 rfl).p (P := fun v _ => v = .int (b : Int)) (kp_true rfl)) (a_nil (PA := fun ws _ => ws = [])))))))  fun vs H9 r9 k9 => ?_) nd
    obtain ⟨_, _, rfl, rfl, _, _, rfl, rfl, _, _, rfl, rfl, _, _, rfl, ⟨nd2, ds, rfl, hds, htk⟩, _, _, rfl, rfl, rfl⟩ := k9.now
    refine ⟨x, s, t, nd2, ds, b, rfl, hk8.ex T r9, by omega, t16, hds, htk, fun v H10 kx10 hrw => ?_⟩
    obtain ⟨dx2, fs2, hx9⟩ := (hk8.ex T r9).at_
    have ha10 := SqL.kx (SqL.on ha8 r9) kx10 hx9
    have hT10 := tabs_kx (hT8.ext r9) kx10 hx9
    have hn10 : H10 nl = some (.lst (vS ns)) := kx10 _ _ (r9 _ _ hn8) (MG.nl _) (ne_of (r9 _ _ hn8) hx9 (by intro z; cases z))
    obtain ⟨u, s', t', rfl, hu, hk10⟩ := hrw
    refine q_no (R := ExB (Tb K)) (t_w (w_or (k := false) (l := false) ((t_isN (v_name 7 rfl)).is (by simp)) fun _ => w_or1 (t_not (k := true) (t_val (g_call (K := KV (ExB (Tb K)) (.bl true)) (ok_lone T TB) T.g__law_one_set (hr.mono (by decide)) (a_p ((v_name 5 rfl).p (P := fun v _ => v = .ref x) (kp_true rfl)) (a_p ((v_ixT (v_name 7 rfl) v_int (fun H r => SqT.of (r.kp _ _ hu tup_nt)) (v := .str (mkS s')) (atI_nat (j := 0) rfl)).p (P := fun v _ => v = .str (mkS s')) (kp_true rfl)) (a_p ((v_ixT (v_name 7 rfl) v_int (fun H r => SqT.of (r.kp _ _ hu tup_nt)) (v := .str (mkS t')) (atI_nat (j := 1) rfl)).p (P := fun v _ => v = .str (mkS t')) (kp_true rfl))
      (a_p (n_rev (v_name 6 rfl) fun H r => SqL.of (r.kp _ _ hn10 lst_nt)).p (a_nil (PA := fun ws _ => ws = [])))))) fun vs H11 r11 k11 Q q => ?_))))) fun H11 r11 => RB.nil ⟨_, _, _, _, _, _, _, rfl, SqL.onB ha10 r11, r11.t hT10⟩
    obtain ⟨_, _, rfl, rfl, _, _, rfl, rfl, _, _, rfl, rfl, _, _, rfl, ⟨nr, rfl, hnr⟩, rfl⟩ := k11.now
    refine ⟨x, s', t', nr, ns.reverse, rfl, hk10.et r11.kp, ?_, by simpa using ne, r11.t hT10, q⟩
    rw [hnr]
    unfold vS
    rw [List.map_reverse]
  · rintro σ' H1 ⟨v1, v2, v3, v4, v5, v6, v7, rfl, ha, hT⟩
    exact q_ret (R := Ex) v_bl fun H2 r2 => kq H2
theorem law_ok (TB : Tbs K mg base) {fd : FuncData} (F : FunD K "law" "law" (defArgs (top 83)) (defBody (top 83)) (defScope (top 83)) [] [] (He.fAd K ("law", none)) fd) : FnOk P w K mg base CX0 212 (He.fAd K ("law", none)) fd ["_law_script"] (spLaw K) :=
  F.ok sc_lawX (fun vs H Q E h => by obtain ⟨_, _, rfl, _⟩ := h; rfl) fun cdv A outer s0 H vs Q E hr hsp => ⟨_, pss_RB.nox, law_body T TB hr hsp⟩
end
end PT
namespace PT
open PySem PySem.Spec PyProof.Rows L2
theorem law_at {w : World} {h : Heap} {K : PySem.W.Frag} {mg : Str → Option Value} {adr : Addr} (inK : K.In h) (G : h.Ns mainGlobals mg) (here : mg ("law" : Str) = some (.ref adr)) (c0 : He.SaysX fa fn [] [pB, pW] exF w h K) : LamX.LawAtS PySem.Challenge.rw_panethread_k91_whole_one_set_of_lines w K CX0 212 63 "_law_script" mg adr h := by
  have T := txt_of inK G c0
  obtain ⟨fd, F⟩ := T.d_law
  have same := here.symm.trans T.g_law
  cases same
  have bind := FunD.bindsA (ps := ["_law_script"]) F fun _ _ _ _ _ _ us hl => match us, hl with | [_], _ => rfl
  refine ⟨fd, [He.cT K pB, He.cT K pW], spLaw K, fun p hp => ?_, fun p hp => ?_, fun p hp => ?_, fun s u => bind s [u] rfl, fun H a ns hn _ htab hS => ⟨a, ns, rfl, hS, hn, ?_, fun _ => rfl⟩, fun base _ _ tb => law_ok T ⟨tb _ (List.mem_cons_self ..), tb _ (List.mem_cons_of_mem _ (List.mem_cons_self ..)), ne_tab c0⟩ F⟩
  · rcases List.mem_cons.mp hp with rfl | hp
    · exact c0.empty pB (List.mem_cons_self ..)
    · rw [List.mem_singleton.mp hp]
      exact c0.empty pW (List.mem_cons_of_mem _ (List.mem_cons_self ..))
  · rcases List.mem_cons.mp hp with rfl | hp
    · exact c0.out pB (List.mem_cons_self ..)
    · rw [List.mem_singleton.mp hp]
      exact c0.out pW (List.mem_cons_of_mem _ (List.mem_cons_self ..))
  · rcases List.mem_cons.mp hp with rfl | hp
    · exact PySem.W.codeHd_of_K inK (c0.hd pB (List.mem_cons_self ..))
    · rw [List.mem_singleton.mp hp]
      exact PySem.W.codeHd_of_K inK (c0.hd pW (List.mem_cons_of_mem _ (List.mem_cons_self ..)))
  · intro p hp
    unfold Tb at hp
    rcases List.mem_cons.mp hp with rfl | hp
    · exact LamX.TabS.nil (htab _ (List.mem_cons_self ..))
    · rw [List.mem_singleton.mp hp]
      exact LamX.TabS.nil (htab _ (List.mem_cons_of_mem _ (List.mem_cons_self ..)))
end PT
open PySem PySem.W PySem.Calls PyProof.Rows
theorem PySem.Challenge.cw_panethread_k91_whole_one_set_of_lines_holds : PySem.Challenge.rw_panethread_k91_whole_one_set_of_lines.Holds := by
  w_on; o_law
  refine HandSHeadRun.head_any (r := PT.Rw) (q := view PT.Rw.prog [83]) (H := PT.hk) (ob := PT.ob) (M := 9000) (loose := PT.names) (d := HandSHeadRun.topDef PT.Rw.prog 83) (kwd := []) PT.ob_eq (by kernel_rfl) (fun s => by kernel_rfl) PT.head_run (by kernel_rfl) (by kernel_rfl) (by kernel_rfl) (by rfl) (by first | assumption | decide +kernel) (by decide +kernel) ⟨rfl, rfl, rfl, rfl, rfl, by decide +kernel⟩ ?hw ?hc
  case hw => w_witness2
  case hc =>
    refine LamX.walk_ofTsE (l := PySem.Challenge.rw_panethread_k91_whole_one_set_of_lines) (n := 63) (k := 212) (x := "_law_script") (CX := fun _ => L2.CX0) rfl (by decide) (by kernel_rfl) ⟨rfl, by decide, by decide⟩ ?F (fun _ _ _ _ _ z => z)
    intro w mg adr h Y G told
    obtain ⟨K, inK, c⟩ := Y
    have here : mg ("law" : PySem.Str) = some (.ref adr) := by
      have e : (HandSHeadRun.topDef PT.Rw.prog 83).name = ("law" : PySem.Str) := by kernel_rfl
      rw [← e]
      exact told
    exact ⟨K, inK, PT.law_at inK G here c⟩
