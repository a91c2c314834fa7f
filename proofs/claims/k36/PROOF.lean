import PyProof.Rows.All
import Wide.All
import OpenK.AllK
import Wide.FinOn
import KE.KStateDown
import HandS.ForMost
import HandS.Defaults
import HandS.HeadHook2
import PySem.Challenge.RW_copyrates_k36_whole_effective_calls_weig
import Lean
import HandS.Head0
import HandS.Head1
import HandS.Head2
import HandS.Head3
import HandS.HeadEnd
import HandS.HeadHook1
import HandS.SlotsVar
import HandS.ExcInit
import HandS.ExcIs
import HandS.ExcField
import HandS.ForExc
import HandS.Wide
import HandS.WideBits
import HandS.Gcd
import HandS.IsInst
import HandS.Zip
import HandS.Style
import HandS.MakeKwOnly
import HandS.SortInts
import HandS.Walk
import KE.KTupSum
import HandS.Slots
import KE.GoesEnum
import HandS.SetFor
import HandS.Strs
import KE.KExcIs
import HandS.Conv
import HandS.EndBits
set_option Elab.async false
set_option linter.all false
set_option maxRecDepth 100000
set_option maxHeartbeats 0
namespace Cr
/-! plain mathematics: finite sums, the wedge of columns, exactness of the elimination -/
def sm : Nat → (Nat → Int) → Int
  | 0, _ => 0
  | n + 1, f => sm n f + f n
theorem sm_congr {n : Nat} {f g : Nat → Int} (h : ∀ i, i < n → f i = g i) : sm n f = sm n g := by
  induction n with
  | zero => rfl
  | succ n ih => simp only [sm]; rw [ih (fun i hi => h i (by omega)), h n (by omega)]
theorem sm_add (n : Nat) (f g : Nat → Int) : sm n (fun i => f i + g i) = sm n f + sm n g := by
  induction n with
  | zero => rfl
  | succ n ih => simp only [sm, ih]; omega
theorem sm_sub (n : Nat) (f g : Nat → Int) : sm n (fun i => f i - g i) = sm n f - sm n g := by
  induction n with
  | zero => rfl
  | succ n ih => simp only [sm, ih]; omega
theorem sm_mul (n : Nat) (c : Int) (f : Nat → Int) : sm n (fun i => c * f i) = c * sm n f := by
  induction n with
  | zero => simp [sm]
  | succ n ih => simp only [sm, ih]; grind
theorem sm_mulr (n : Nat) (c : Int) (f : Nat → Int) : sm n (fun i => f i * c) = sm n f * c := by
  induction n with
  | zero => simp [sm]
  | succ n ih => simp only [sm, ih]; grind
theorem sm_neg (n : Nat) (f : Nat → Int) : sm n (fun i => - f i) = - sm n f := by
  induction n with
  | zero => rfl
  | succ n ih => simp only [sm, ih]; omega
theorem sm_zero {n : Nat} {f : Nat → Int} (h : ∀ i, i < n → f i = 0) : sm n f = 0 := by
  induction n with
  | zero => rfl
  | succ n ih => simp only [sm]; rw [ih (fun i hi => h i (by omega)), h n (by omega)]; rfl
theorem sm_swap (n m : Nat) (f : Nat → Nat → Int) : sm n (fun i => sm m (fun j => f i j)) = sm m (fun j => sm n (fun i => f i j)) := by
  induction n with
  | zero => simp only [sm]; rw [sm_zero]; intros; rfl
  | succ n ih => simp only [sm, ih, sm_add]
theorem sm_nonneg {n : Nat} {f : Nat → Int} (h : ∀ i, i < n → 0 ≤ f i) : 0 ≤ sm n f := by
  induction n with
  | zero => exact Int.le_refl _
  | succ n ih => simp only [sm]; have := ih (fun i hi => h i (by omega)); have := h n (by omega); omega
theorem sm_le {n : Nat} {f g : Nat → Int} (h : ∀ i, i < n → f i ≤ g i) : sm n f ≤ sm n g := by
  induction n with
  | zero => exact Int.le_refl _
  | succ n ih => simp only [sm]; have := ih (fun i hi => h i (by omega)); have := h n (by omega); omega
/-- terms that are all ≥ 0 with the sum ≤ 0 are 0 -/
theorem sm_zero_of {n : Nat} {f : Nat → Int} (h : ∀ i, i < n → 0 ≤ f i) (s : sm n f ≤ 0) : ∀ i, i < n → f i = 0 := by
  induction n with
  | zero => intro i hi; omega
  | succ n ih =>
    simp only [sm] at s
    have a := sm_nonneg (n := n) (f := f) (fun i hi => h i (by omega))
    have b := h n (by omega)
    intro i hi
    by_cases e : i = n
    · subst e; omega
    · exact ih (fun i hi => h i (by omega)) (by omega) i (by omega)
theorem sm_pos {n : Nat} {f : Nat → Int} (h : ∀ i, i < n → 0 ≤ f i) {k : Nat} (hk : k < n) (hp : 0 < f k) : 0 < sm n f := by
  by_cases s : sm n f ≤ 0
  · have := sm_zero_of h s k hk; omega
  · omega
/-- one term taken out -/
theorem sm_one {n : Nat} {f : Nat → Int} {k : Nat} (hk : k < n) (h : ∀ i, i < n → i ≠ k → f i = 0) : sm n f = f k := by
  induction n with
  | zero => omega
  | succ n ih =>
    simp only [sm]
    by_cases e : k = n
    · subst e; rw [sm_zero (fun i hi => h i (by omega) (by omega))]; omega
    · rw [ih (by omega) (fun i hi ne => h i (by omega) ne), h n (by omega) (by omega)]; omega
theorem sm_except {n : Nat} {f : Nat → Int} {k : Nat} (hk : k < n) : sm n f = f k + sm n (fun i => if i = k then 0 else f i) := by
  have : sm n f = sm n (fun i => (if i = k then f k else 0) + (if i = k then 0 else f i)) := sm_congr fun i hi => by
    by_cases e : i = k
    · simp [e]
    · simp [e]
  rw [this, sm_add, sm_one hk (fun i hi ne => by simp [ne])]
  simp
theorem sm_split (a b : Nat) (f : Nat → Int) : sm (a + b) f = sm a f + sm b (fun i => f (a + i)) := by
  induction b with
  | zero => simp [sm]
  | succ b ih => rw [Nat.add_succ]; simp only [sm]; rw [ih]; omega

/-! ### the wedge -/
def ew (v : Nat → Int) (F : List Nat → Int) : List Nat → Int
  | [] => 0
  | r :: l => v r * F l - ew v (fun l' => F (r :: l')) l
theorem ew_zero (v : Nat → Int) : ∀ l : List Nat, ew v (fun _ => 0) l = 0
  | [] => rfl
  | r :: l => by simp only [ew]; rw [ew_zero v l]; omega
theorem ew_comb (v : Nat → Int) (a b : Int) : ∀ (l : List Nat) (F G : List Nat → Int), ew v (fun l => a * F l - b * G l) l = a * ew v F l - b * ew v G l
  | [], F, G => by simp [ew]
  | r :: l, F, G => by
    simp only [ew]
    rw [ew_comb v a b l (fun l' => F (r :: l')) (fun l' => G (r :: l'))]
    grind
theorem ew_neg (v : Nat → Int) : ∀ (l : List Nat) (F : List Nat → Int), ew v (fun l => - F l) l = - ew v F l
  | [], F => rfl
  | r :: l, F => by
    simp only [ew]
    rw [ew_neg v l (fun l' => F (r :: l'))]
    grind
theorem ew_mulsub (v : Nat → Int) (a : Int) : ∀ (l : List Nat) (F G : List Nat → Int), ew v (fun l => a * F l - G l) l = a * ew v F l - ew v G l
  | [], F, G => by simp [ew]
  | r :: l, F, G => by
    simp only [ew]
    rw [ew_mulsub v a l (fun l' => F (r :: l')) (fun l' => G (r :: l'))]
    grind
theorem ew_anti (u v : Nat → Int) : ∀ (l : List Nat) (F : List Nat → Int), ew u (ew v F) l + ew v (ew u F) l = 0
  | [], F => rfl
  | r :: l, F => by
    have ih := ew_anti u v l (fun l' => F (r :: l'))
    have a : ew u (fun l' => ew v F (r :: l')) l = v r * ew u F l - ew u (ew v (fun l' => F (r :: l'))) l := ew_mulsub u (v r) l F _
    have b : ew v (fun l' => ew u F (r :: l')) l = u r * ew v F l - ew v (ew u (fun l' => F (r :: l'))) l := ew_mulsub v (u r) l F _
    show (u r * ew v F l - ew u (fun l' => ew v F (r :: l')) l) + (v r * ew u F l - ew v (fun l' => ew u F (r :: l')) l) = 0
    rw [a, b]
    grind
/-- the wedge of the columns 0 .. k - 1 of A -/
def wd (A : Nat → Nat → Int) : Nat → List Nat → Int
  | 0, _ => 1
  | k + 1, l => ew (fun r => A r k) (wd A k) l
theorem wd_twice (A : Nat → Nat → Int) : ∀ (k j : Nat), j < k → ∀ l, ew (fun r => A r j) (wd A k) l = 0
  | 0, j, h, l => by omega
  | k + 1, j, h, l => by
    show ew (fun r => A r j) (ew (fun r => A r k) (wd A k)) l = 0
    have an := ew_anti (fun r => A r j) (fun r => A r k) l (wd A k)
    by_cases e : j = k
    · subst e; omega
    · have z : ew (fun r => A r j) (wd A k) = fun _ => 0 := funext fun l => wd_twice A k j (by omega) l
      rw [z, ew_zero] at an
      omega
/-- the rows k - 1, .., 0 -/
def dn : Nat → List Nat
  | 0 => []
  | k + 1 => k :: dn k
theorem ew_lin : ∀ (k : Nat) (F : List Nat → Int), ∃ C : Nat → Int, ∀ v : Nat → Int, ew v F (dn k) = sm k (fun r => C r * v r)
  | 0, F => ⟨fun _ => 0, fun _ => rfl⟩
  | k + 1, F => by
    obtain ⟨C, h⟩ := ew_lin k (fun l' => F (k :: l'))
    refine ⟨fun r => if r = k then F (dn k) else - C r, fun v => ?_⟩
    show v k * F (dn k) - ew v (fun l' => F (k :: l')) (dn k) = sm k (fun r => (if r = k then F (dn k) else - C r) * v r) + (if k = k then F (dn k) else - C k) * v k
    rw [h v, if_pos rfl, sm_congr (f := fun r => (if r = k then F (dn k) else - C r) * v r) (g := fun r => -(C r * v r)) (fun r hr => by
      rw [if_neg (by omega)]; grind), sm_neg]
    grind
/-- the minor of rows k-1 .. 0, i and columns 0 .. k-1, j -/
def mn (A : Nat → Nat → Int) (k i j : Nat) : Int := ew (fun r => A r j) (wd A k) (i :: dn k)
/-- the leading minor of size k -/
def ld (A : Nat → Nat → Int) (k : Nat) : Int := wd A k (dn k)
theorem ld_zero (A : Nat → Nat → Int) : ld A 0 = 1 := rfl
theorem ld_succ (A : Nat → Nat → Int) (k : Nat) : ld A (k + 1) = mn A k k k := rfl
theorem mn_zero (A : Nat → Nat → Int) (i j : Nat) : mn A 0 i j = A i j := by
  show A i j * 1 - 0 = A i j
  omega
theorem mn_twice (A : Nat → Nat → Int) {k i j : Nat} (h : j < k) : mn A k i j = 0 := wd_twice A k j h _
theorem mn_lin (A : Nat → Nat → Int) (k i : Nat) : ∃ C : Nat → Int, ∀ j, mn A k i j = ld A k * A i j + sm k (fun r => C r * A r j) := by
  obtain ⟨C, h⟩ := ew_lin k (fun l' => wd A k (i :: l'))
  refine ⟨fun r => - C r, fun j => ?_⟩
  show A i j * wd A k (dn k) - ew (fun r => A r j) (fun l' => wd A k (i :: l')) (dn k) = _
  rw [h]
  have : sm k (fun r => - C r * A r j) = - sm k (fun r => C r * A r j) := by
    rw [← sm_neg]; exact sm_congr fun r _ => by grind
  rw [this]
  unfold ld
  grind
/-- no leading block has a left kernel -/
def LK (A : Nat → Nat → Int) (m : Nat) : Prop := ∀ k, k ≤ m → ∀ γ : Nat → Int, (∀ j, j < k → sm k (fun r => γ r * A r j) = 0) → ∀ r, r < k → γ r = 0
theorem ld_ne {A : Nat → Nat → Int} {m : Nat} (H : LK A m) : ∀ k, k ≤ m → ld A k ≠ 0
  | 0, _ => by rw [ld_zero]; decide
  | k + 1, hk => fun e => by
    obtain ⟨C, hC⟩ := mn_lin A k k
    have z := H (k + 1) hk (fun r => if r = k then ld A k else C r) (fun j hj => by
      show sm k (fun r => (if r = k then ld A k else C r) * A r j) + (if k = k then ld A k else C k) * A k j = 0
      rw [if_pos rfl, sm_congr (g := fun r => C r * A r j) (fun r hr => by rw [if_neg (by omega)])]
      have := hC j
      by_cases ej : j = k
      · subst ej; rw [← ld_succ, e] at this; omega
      · rw [mn_twice A (by omega)] at this; omega) k (by omega)
    rw [if_pos rfl] at z
    exact ld_ne H k (by omega) z
/-- rows that are combinations of the first k rows of A: zero in the first k columns, zero everywhere -/
theorem comb_zero {A : Nat → Nat → Int} {m k : Nat} (H : LK A m) (hk : k ≤ m) {v : Nat → Int} (h : ∃ C : Nat → Int, ∀ j, v j = sm k (fun r => C r * A r j)) (hz : ∀ j, j < k → v j = 0) : ∀ j, v j = 0 := by
  obtain ⟨C, hC⟩ := h
  have z := H k hk C (fun j hj => by rw [← hC]; exact hz j hj)
  intro j
  rw [hC]
  exact sm_zero fun r hr => by rw [z r hr]; omega
/-- one step of the elimination, below the pivot -/
theorem step_low {A : Nat → Nat → Int} {m k i : Nat} (H : LK A m) (hk : k < m) (j : Nat) : ld A k * mn A (k + 1) i j = mn A k k k * mn A k i j - mn A k i k * mn A k k j := by
  obtain ⟨C, hC⟩ := mn_lin A k i
  obtain ⟨B, hB⟩ := mn_lin A k k
  obtain ⟨E, hE⟩ := mn_lin A (k + 1) i
  have z := comb_zero (A := A) (m := m) (k := k + 1) H (by omega) (v := fun j => ld A k * mn A (k + 1) i j - (mn A k k k * mn A k i j - mn A k i k * mn A k k j))
    ⟨fun r => if r = k then ld A k * E k + mn A k i k * ld A k else ld A k * E r - (mn A k k k * C r - mn A k i k * B r), fun j => by
      dsimp only [sm]
      rw [if_pos rfl, sm_congr (g := fun r => ld A k * (E r * A r j) - (mn A k k k * (C r * A r j) - mn A k i k * (B r * A r j))) (fun r hr => by rw [if_neg (by omega)]; grind)]
      rw [sm_sub, sm_sub, sm_mul, sm_mul, sm_mul, hC j, hB j, hE j]
      have : sm (k + 1) (fun r => E r * A r j) = sm k (fun r => E r * A r j) + E k * A k j := rfl
      rw [this, ld_succ]
      grind⟩
    (fun j hj => by
      rw [mn_twice A (by omega)]
      by_cases e : j = k
      · subst e; grind
      · rw [mn_twice A (show j < k by omega), mn_twice A (show j < k by omega)]; grind)
  have := z j
  omega
end Cr
namespace Cr
theorem ew_congr : ∀ (l : List Nat) {u v : Nat → Int} {F G : List Nat → Int}, (∀ r, r ∈ l → u r = v r) → (∀ l', (∀ r, r ∈ l' → r ∈ l) → F l' = G l') → ew u F l = ew v G l
  | [], u, v, F, G, _, _ => rfl
  | r :: l, u, v, F, G, hu, hF => by
    show u r * F l - ew u (fun l' => F (r :: l')) l = v r * G l - ew v (fun l' => G (r :: l')) l
    rw [hu r (by simp), hF l (fun q hq => List.mem_cons_of_mem _ hq), ew_congr l (u := u) (v := v) (F := fun l' => F (r :: l')) (G := fun l' => G (r :: l')) (fun q hq => hu q (List.mem_cons_of_mem _ hq)) (fun l' hl' => hF _ (fun q hq => by
      rcases (List.mem_cons.mp hq) with e | e
      · rw [e]; exact List.mem_cons_self
      · exact List.mem_cons_of_mem _ (hl' q e)))]
theorem wd_congr {A B : Nat → Nat → Int} : ∀ (k : Nat) (l : List Nat), (∀ r, r ∈ l → ∀ j, A r j = B r j) → wd A k l = wd B k l
  | 0, l, _ => rfl
  | k + 1, l, h => ew_congr l (fun r hr => h r hr k) (fun l' hl' => wd_congr k l' (fun r hr => h r (hl' r hr)))
theorem mem_dn : ∀ {k r : Nat}, r ∈ dn k → r < k
  | 0, r, h => by simp [dn] at h
  | k + 1, r, h => by
    rcases (List.mem_cons.mp h) with e | e
    · omega
    · have := mem_dn e; omega
/-- row i (above the pivots) of the full elimination behind k steps -/
def GJ (A : Nat → Nat → Int) (k i : Nat) (w : Nat → Int) : Prop := (∃ C : Nat → Int, ∀ j, w j = sm k (fun r => C r * A r j)) ∧ ∀ j, j < k → w j = if i = j then ld A k else 0
theorem gj_ex (A : Nat → Nat → Int) (k i : Nat) : ∃ w, GJ A k i w := by
  obtain ⟨C, hC⟩ := mn_lin (fun r j => if r = k then (if j = i then -1 else 0) else A r j) k k
  have el : ld (fun r j => if r = k then (if j = i then -1 else 0) else A r j) k = ld A k := wd_congr k (dn k) (fun r hr j => by have := mem_dn hr; rw [if_neg (by omega)])
  refine ⟨fun j => sm k (fun r => C r * A r j), ⟨C, fun j => rfl⟩, fun j hj => ?_⟩
  have a := hC j
  rw [mn_twice _ hj, el, if_pos rfl, sm_congr (g := fun r => C r * A r j) (fun r hr => by rw [if_neg (by omega)])] at a
  by_cases e : i = j
  · rw [if_pos e]; rw [if_pos e.symm] at a; show sm k (fun r => C r * A r j) = _; omega
  · rw [if_neg e]; rw [if_neg (fun z => e z.symm)] at a; show sm k (fun r => C r * A r j) = _; omega
theorem gj_step {A : Nat → Nat → Int} {m k i : Nat} {w w' : Nat → Int} (H : LK A m) (hk : k < m) (hi : i < k) (h : GJ A k i w) (h' : GJ A (k + 1) i w') (j : Nat) :
    ld A k * w' j = mn A k k k * w j - w k * mn A k k j := by
  obtain ⟨⟨C, hC⟩, hz⟩ := h
  obtain ⟨⟨E, hE⟩, hz'⟩ := h'
  obtain ⟨B, hB⟩ := mn_lin A k k
  have z := comb_zero (A := A) (m := m) (k := k + 1) H (by omega) (v := fun j => ld A k * w' j - (mn A k k k * w j - w k * mn A k k j))
    ⟨fun r => if r = k then ld A k * E k + w k * ld A k else ld A k * E r - (mn A k k k * C r - w k * B r), fun j => by
      dsimp only [sm]
      rw [if_pos rfl, sm_congr (g := fun r => ld A k * (E r * A r j) - (mn A k k k * (C r * A r j) - w k * (B r * A r j))) (fun r hr => by rw [if_neg (by omega)]; grind)]
      rw [sm_sub, sm_sub, sm_mul, sm_mul, sm_mul, hC j, hB j, hE j]
      have : sm (k + 1) (fun r => E r * A r j) = sm k (fun r => E r * A r j) + E k * A k j := rfl
      rw [this]
      grind⟩
    (fun j hj => by
      rw [hz' j hj]
      by_cases e : j = k
      · subst e; rw [if_neg (by omega)]; grind
      · rw [hz j (by omega), mn_twice A (show j < k by omega), ld_succ]
        by_cases e2 : i = j
        · rw [if_pos e2, if_pos e2]; grind
        · rw [if_neg e2, if_neg e2]; grind)
  have := z j
  omega
theorem gj_self (A : Nat → Nat → Int) (k : Nat) : GJ A (k + 1) k (mn A k k) := by
  obtain ⟨C, hC⟩ := mn_lin A k k
  refine ⟨⟨fun r => if r = k then ld A k else C r, fun j => ?_⟩, fun j hj => ?_⟩
  · dsimp only [sm]
    rw [if_pos rfl, sm_congr (g := fun r => C r * A r j) (fun r hr => by rw [if_neg (by omega)]), hC j]
    omega
  · by_cases e : k = j
    · subst e; rw [if_pos rfl]; rfl
    · rw [if_neg e, mn_twice A (by omega)]
/-- the solution that the full elimination tells -/
theorem gj_sol {A : Nat → Nat → Int} {m : Nat} {w : Nat → Nat → Int} (H : LK A m) (h : ∀ i, i < m → GJ A m i (w i)) (c : Nat) (r : Nat) (hr : r < m) : sm m (fun i => A r i * w i c) = ld A m * A r c := by
  have : ∃ C : Nat → Nat → Int, ∀ i, i < m → ∀ j, w i j = sm m (fun s => C i s * A s j) := by
    refine ⟨fun i => if hi : i < m then Classical.choose (h i hi).1 else fun _ => 0, fun i hi j => ?_⟩
    simp only [hi, dite_true]
    exact Classical.choose_spec (h i hi).1 j
  obtain ⟨C, hC⟩ := this
  have key : ∀ s, s < m → (sm m (fun i => A r i * C i s) - if r = s then ld A m else 0) = 0 := fun s hs =>
    H m (Nat.le_refl _) (fun s => sm m (fun i => A r i * C i s) - if r = s then ld A m else 0) (fun j hj => by
      have e1 : sm m (fun s => (sm m (fun i => A r i * C i s) - if r = s then ld A m else 0) * A s j) = sm m (fun s => sm m (fun i => A r i * C i s * A s j)) - sm m (fun s => (if r = s then ld A m else 0) * A s j) := by
        rw [← sm_sub]
        refine sm_congr fun s _ => ?_
        rw [sm_mulr]
        grind
      rw [e1, sm_swap]
      have e2 : sm m (fun i => sm m (fun s => A r i * C i s * A s j)) = sm m (fun i => A r i * w i j) := sm_congr fun i hi => by
        rw [hC i hi j, ← sm_mul]
        exact sm_congr fun s _ => by grind
      rw [e2, sm_one (n := m) (f := fun i => A r i * w i j) (k := j) hj (fun i hi ne => by rw [(h i hi).2 j hj, if_neg ne]; omega),
        sm_one (n := m) (f := fun s => (if r = s then ld A m else 0) * A s j) (k := r) hr (fun s hs ne => by rw [if_neg (fun z => ne z.symm)]; omega),
        (h j hj).2 j hj, if_pos rfl, if_pos rfl]
      grind) s hs
  have e3 : sm m (fun i => A r i * w i c) = sm m (fun s => sm m (fun i => A r i * C i s) * A s c) := by
    have : sm m (fun i => A r i * w i c) = sm m (fun i => sm m (fun s => A r i * C i s * A s c)) := sm_congr fun i hi => by
      rw [hC i hi c, ← sm_mul]
      exact sm_congr fun s _ => by grind
    rw [this, sm_swap]
    exact sm_congr fun s _ => by rw [sm_mulr]
  rw [e3, sm_one (n := m) (k := r) hr (fun s hs ne => by
    have := key s hs
    rw [if_neg (fun z => ne z.symm)] at this
    have e : sm m (fun i => A r i * C i s) = 0 := by omega
    rw [e]; omega)]
  have := key r hr
  rw [if_pos rfl] at this
  have e : sm m (fun i => A r i * C i r) = ld A m := by omega
  rw [e]
/-- there is an integer solution over the last leading minor -/
theorem sol_ex {A : Nat → Nat → Int} {m : Nat} (H : LK A m) (c : Nat) : ∃ X : Nat → Int, ∀ r, r < m → sm m (fun i => A r i * X i) = ld A m * A r c := by
  refine ⟨fun i => Classical.choose (gj_ex A m i) c, fun r hr => ?_⟩
  exact gj_sol (w := fun i => Classical.choose (gj_ex A m i)) H (fun i _ => Classical.choose_spec (gj_ex A m i)) c r hr
/-- the rows of the elimination tell it too: what back substitution divides by the pivot -/
theorem back_sub {A : Nat → Nat → Int} {m c : Nat} {X : Nat → Int} (h : ∀ r, r < m → sm m (fun i => A r i * X i) = ld A m * A r c) (i : Nat) (hi : i < m) :
    sm m (fun j => mn A i i j * X j) = ld A m * mn A i i c := by
  obtain ⟨C, hC⟩ := mn_lin A i i
  have e : sm m (fun j => mn A i i j * X j) = sm m (fun j => ld A i * (A i j * X j)) + sm m (fun j => sm i (fun r => C r * (A r j * X j))) := by
    rw [← sm_add]
    refine sm_congr fun j _ => ?_
    rw [hC j, Int.add_mul, ← sm_mulr]
    congr 1
    · grind
    · exact sm_congr fun r _ => by grind
  rw [e, sm_mul, h i hi, sm_swap, sm_congr (g := fun r => ld A m * (C r * A r c)) (fun r hr => by rw [sm_mul, h r (by omega)]; grind), sm_mul, hC c]
  grind
/-- below the diagonal there is nothing: the sum from i on -/
theorem back_sub' {A : Nat → Nat → Int} {m c : Nat} {X : Nat → Int} (h : ∀ r, r < m → sm m (fun i => A r i * X i) = ld A m * A r c) (i : Nat) (hi : i < m) :
    mn A i i i * X i = ld A m * mn A i i c - sm (m - (i + 1)) (fun j => mn A i i (i + 1 + j) * X (i + 1 + j)) := by
  have e := back_sub h i hi
  rw [show m = (i + 1) + (m - (i + 1)) by omega, sm_split, ← show m = (i + 1) + (m - (i + 1)) by omega] at e
  have e0 : sm (i + 1) (fun j => mn A i i j * X j) = mn A i i i * X i := by
    show sm i (fun j => mn A i i j * X j) + mn A i i i * X i = _
    rw [sm_zero (fun j hj => by rw [mn_twice A hj]; omega)]
    omega
  rw [e0] at e
  omega
/-- right kernels: two solutions are one -/
theorem rk {A : Nat → Nat → Int} {m : Nat} (H : LK A m) {X : Nat → Int} (h : ∀ r, r < m → sm m (fun i => A r i * X i) = 0) : ∀ i, i < m → X i = 0 := by
  intro i hi
  obtain ⟨w, ⟨C, hC⟩, hz⟩ := gj_ex A m i
  have e : sm m (fun j => w j * X j) = 0 := by
    have : sm m (fun j => w j * X j) = sm m (fun j => sm m (fun r => C r * (A r j * X j))) := sm_congr fun j _ => by
      rw [hC j, ← sm_mulr]
      exact sm_congr fun r _ => by grind
    rw [this, sm_swap]
    exact sm_zero fun r hr => by rw [sm_mul, h r hr]; omega
  rw [sm_one hi (fun j hj ne => by rw [hz j hj, if_neg (fun z => ne z.symm)]; omega), hz i hi, if_pos rfl] at e
  rcases Int.mul_eq_zero.mp e with a | a
  · exact absurd a (ld_ne H m (Nat.le_refl _))
  · exact a
end Cr
namespace Cr
theorem ex_max {n : Nat} (h : 0 < n) (f : Nat → Int) : ∃ i, i < n ∧ ∀ j, j < n → f j ≤ f i := by
  induction n with
  | zero => omega
  | succ n ih =>
    by_cases e : n = 0
    · subst e; exact ⟨0, by omega, fun j hj => by rw [show j = 0 by omega]; exact Int.le_refl _⟩
    · obtain ⟨i, hi, hm⟩ := ih (by omega)
      by_cases c : f i ≤ f n
      · refine ⟨n, by omega, fun j hj => ?_⟩
        by_cases ej : j = n
        · rw [ej]; exact Int.le_refl _
        · have := hm j (by omega); omega
      · refine ⟨i, by omega, fun j hj => ?_⟩
        by_cases ej : j = n
        · rw [ej]; omega
        · exact hm j (by omega)
theorem ex_last {n : Nat} (p : Nat → Prop) (h : ∃ i, i < n ∧ p i) : ∃ i, i < n ∧ p i ∧ ∀ j, j < n → i < j → ¬ p j := by
  induction n with
  | zero => obtain ⟨i, hi, _⟩ := h; omega
  | succ n ih =>
    by_cases c : p n
    · exact ⟨n, by omega, c, fun j hj hl => by omega⟩
    · obtain ⟨i, hi, hp⟩ := h
      have : i ≠ n := fun e => c (e ▸ hp)
      obtain ⟨k, hk, hpk, hl⟩ := ih ⟨i, by omega, hp⟩
      refine ⟨k, by omega, hpk, fun j hj hlt => ?_⟩
      by_cases ej : j = n
      · rw [ej]; exact c
      · exact hl j (by omega) hlt
theorem abs_sm (n : Nat) (f : Nat → Int) : ((sm n f).natAbs : Int) ≤ sm n (fun i => ((f i).natAbs : Int)) := by
  induction n with
  | zero => exact Int.le_refl _
  | succ n ih => simp only [sm]; omega
theorem sm_mono_n {a b : Nat} (hab : a ≤ b) {f : Nat → Int} (h : ∀ i, i < b → 0 ≤ f i) : sm a f ≤ sm b f := by
  obtain ⟨c, rfl⟩ := Nat.exists_eq_add_of_le hab
  rw [sm_split]
  have := sm_nonneg (n := c) (f := fun i => f (a + i)) (fun i hi => h _ (by omega))
  omega
/-- a chain from which one gets away upwards: no leading block has a left kernel -/
theorem lk_chain {m : Nat} {A : Nat → Nat → Int} {d : Nat → Int} {q : Nat → Nat → Int} (hd : ∀ r, r < m → A r r = d r) (hq : ∀ r j, r < m → j < m → j ≠ r → A r j = - q r j) (h0 : ∀ r j, r < m → j < m → 0 ≤ q r j)
    (hw : ∀ r, r < m → sm m (fun j => if j = r then 0 else q r j) ≤ d r) (hu : ∀ r, r < m → (∃ j, r < j ∧ j < m ∧ 0 < q r j) ∨ sm m (fun j => if j = r then 0 else q r j) < d r) : LK A m := by
  intro k hk γ hγ r0 hr0
  refine Classical.byContradiction fun hne => ?_
  let a : Nat → Int := fun r => ((γ r).natAbs : Int)
  have a0 : ∀ r, 0 ≤ a r := fun r => Int.natCast_nonneg _
  let o : Nat → Int := fun r => sm k (fun j => if j = r then 0 else q r j)
  have no : ∀ r j, r < m → j < m → 0 ≤ (if j = r then 0 else q r j) := fun r j hr hj => by
    by_cases e : j = r
    · rw [if_pos e]; exact Int.le_refl _
    · rw [if_neg e]; exact h0 r j hr hj
  have ok : ∀ r, r < k → o r ≤ sm m (fun j => if j = r then 0 else q r j) := fun r hr => sm_mono_n hk (fun j hj => no r j (by omega) hj)
  -- one column
  have col : ∀ j, j < k → 0 ≤ sm k (fun r => if j = r then 0 else a r * q r j) - a j * d j := fun j hj => by
    have e := hγ j hj
    rw [sm_except hj] at e
    rw [hd j (by omega), sm_congr (n := k) (g := fun r => - (if j = r then 0 else γ r * q r j)) (fun r hr => by
      by_cases e : r = j
      · rw [if_pos e, if_pos e.symm]; rfl
      · rw [if_neg e, if_neg (fun z => e z.symm), hq r j (by omega) (by omega) (fun z => e z.symm)]; grind), sm_neg] at e
    have e1 : γ j * d j = sm k (fun r => if j = r then 0 else γ r * q r j) := by omega
    have e2 := abs_sm k (fun r => if j = r then 0 else γ r * q r j)
    rw [← e1] at e2
    have dj : 0 ≤ d j := by
      have := hw j (by omega)
      have := sm_nonneg (n := m) (f := fun i => if i = j then 0 else q j i) (fun i hi => no j i (by omega) hi)
      omega
    have e3 : (((γ j * d j).natAbs : Nat) : Int) = a j * d j := by
      rw [Int.natAbs_mul, Int.natCast_mul, show ((d j).natAbs : Int) = d j by omega]
    rw [e3] at e2
    have e4 : sm k (fun i => (((if j = i then 0 else γ i * q i j).natAbs : Nat) : Int)) = sm k (fun r => if j = r then 0 else a r * q r j) := sm_congr fun r hr => by
      by_cases e : j = r
      · rw [if_pos e, if_pos e]; rfl
      · rw [if_neg e, if_neg e, Int.natAbs_mul, Int.natCast_mul, show ((q r j).natAbs : Int) = q r j by have := h0 r j (by omega) (by omega); omega]
    rw [e4] at e2
    omega
  have tot : sm k (fun j => sm k (fun r => if j = r then 0 else a r * q r j) - a j * d j) = sm k (fun r => - (a r * (d r - o r))) := by
    rw [sm_sub, sm_swap]
    rw [← sm_sub]
    refine sm_congr fun r hr => ?_
    have : sm k (fun j => if j = r then 0 else a r * q r j) = a r * o r := by
      rw [← sm_mul]
      refine sm_congr fun j _ => ?_
      by_cases e : j = r
      · rw [if_pos e, if_pos e]; omega
      · rw [if_neg e, if_neg e]
    rw [this]
    grind
  have up0 : ∀ r, r < k → 0 ≤ a r * (d r - o r) := fun r hr => Int.mul_nonneg (a0 r) (by have := hw r (by omega); have := ok r hr; omega)
  have s0 : sm k (fun r => a r * (d r - o r)) ≤ 0 := by
    have := sm_nonneg col
    rw [tot, sm_neg] at this
    omega
  have zr := sm_zero_of up0 s0
  have zc := sm_zero_of col (by rw [tot, sm_neg]; have := sm_nonneg up0; omega)
  obtain ⟨r, hr, hp, hl⟩ := ex_last (n := k) (fun r => γ r ≠ 0) ⟨r0, hr0, hne⟩
  have ar : 0 < a r := by show 0 < ((γ r).natAbs : Int); omega
  have eo : d r = o r := by
    rcases Int.mul_eq_zero.mp (zr r hr) with e | e
    · omega
    · omega
  rcases hu r (by omega) with ⟨j, hlt, hjm, hqp⟩ | hlt
  · by_cases hjk : j < k
    · have e := zc j hjk
      have pz : 0 < sm k (fun r => if j = r then 0 else a r * q r j) := sm_pos (fun i hi => by
        by_cases e : j = i
        · rw [if_pos e]; exact Int.le_refl _
        · rw [if_neg e]; exact Int.mul_nonneg (a0 i) (h0 i j (by omega) hjm)) hr (by rw [if_neg (by omega)]; exact Int.mul_pos ar hqp)
      have gz : γ j = 0 := Classical.byContradiction fun z => hl j hjk hlt z
      have az : a j = 0 := by show ((γ j).natAbs : Int) = 0; rw [gz]; rfl
      rw [az] at e
      omega
    · have e1 : sm m (fun j => if j = r then 0 else q r j) = o r + sm (m - k) (fun i => if k + i = r then 0 else q r (k + i)) := by
        have := sm_split k (m - k) (fun j => if j = r then 0 else q r j)
        rw [show k + (m - k) = m by omega] at this
        exact this
      have e2 : 0 < sm (m - k) (fun i => if k + i = r then 0 else q r (k + i)) := sm_pos (k := j - k) (fun i hi => no r (k + i) (by omega) (by omega)) (by omega) (by
        rw [if_neg (by omega), show k + (j - k) = j by omega]; exact hqp)
      have := hw r (by omega)
      omega
  · have := ok r hr
    omega
/-- linked: from every proper part a tie leads out -/
def Lkd (n : Nat) (T : Nat → Nat → Int) : Prop := ∀ P : Nat → Bool, (∃ i, i < n ∧ P i = true) → (∃ j, j < n ∧ P j = false) → ∃ i j, i < n ∧ j < n ∧ P i = true ∧ P j = false ∧ 0 < T i j
/-- harmonic where it is not 0, and somewhere 0: 0 -/
theorem harm_le {n : Nat} {T : Nat → Nat → Int} (L : Lkd n T) (T0 : ∀ i j, i < n → j < n → 0 ≤ T i j) {g : Nat → Int} (h : ∀ i, i < n → 0 < g i → sm n (fun j => T i j * (g j - g i)) = 0) (z : ∃ i, i < n ∧ g i ≤ 0) : ∀ i, i < n → g i ≤ 0 := by
  intro i hi
  refine Classical.byContradiction fun c => ?_
  obtain ⟨k, hk, hm⟩ := ex_max (show 0 < n by omega) g
  have gk : 0 < g k := by have := hm i hi; omega
  obtain ⟨z, hz, gz⟩ := z
  obtain ⟨i1, j1, hi1, hj1, p1, p2, t⟩ := L (fun i => decide (g i = g k)) ⟨k, hk, decide_eq_true rfl⟩ ⟨z, hz, decide_eq_false (by omega)⟩
  have e1 : g i1 = g k := of_decide_eq_true p1
  have e2 : g j1 ≠ g k := of_decide_eq_false p2
  have := h i1 hi1 (by omega)
  have s : 0 < sm n (fun j => - (T i1 j * (g j - g i1))) := sm_pos (fun j hj => by
    have := hm j hj
    have := T0 i1 j hi1 hj
    have : 0 ≤ T i1 j * (g i1 - g j) := Int.mul_nonneg this (by omega)
    have : T i1 j * (g i1 - g j) = - (T i1 j * (g j - g i1)) := by grind
    omega) hj1 (by
    have := hm j1 hj1
    have : 0 < T i1 j1 * (g i1 - g j1) := Int.mul_pos t (by omega)
    have : T i1 j1 * (g i1 - g j1) = - (T i1 j1 * (g j1 - g i1)) := by grind
    omega)
  rw [sm_neg] at s
  omega
theorem harm_zero {n : Nat} {T : Nat → Nat → Int} (L : Lkd n T) (T0 : ∀ i j, i < n → j < n → 0 ≤ T i j) {g : Nat → Int} (h : ∀ i, i < n → g i ≠ 0 → sm n (fun j => T i j * (g j - g i)) = 0) (z : ∃ i, i < n ∧ g i = 0) : ∀ i, i < n → g i = 0 := by
  obtain ⟨k, hk, gk⟩ := z
  intro i hi
  have a := harm_le L T0 (g := g) (fun i hi hg => h i hi (by omega)) ⟨k, hk, by omega⟩ i hi
  have b := harm_le L T0 (g := fun i => - g i) (fun i hi hg => by
    have := h i hi (by show g i ≠ 0; omega)
    rw [sm_congr (g := fun j => - (T i j * (g j - g i))) (fun j _ => by grind), sm_neg, this]; rfl) ⟨k, hk, by show - g k ≤ 0; omega⟩ i hi
  have b' : - g i ≤ 0 := b
  omega
/-- the matrix of the says: columns balanced, the last row ones -/
def sayM (n : Nat) (T : Nat → Nat → Int) (j i : Nat) : Int := if j + 1 = n then 1 else if i = j then - sm n (T j) else T i j
theorem lk_say {n : Nat} {T : Nat → Nat → Int} (hn : 0 < n) (L : Lkd n T) (T0 : ∀ i j, i < n → j < n → 0 ≤ T i j) (Td : ∀ i, i < n → T i i = 0) : LK (sayM n T) n := by
  intro k hk γ hγ
  -- g: γ below min k (n - 1), 0 beyond
  let g : Nat → Int := fun j => if j < k ∧ j + 1 < n then γ j else 0
  let c : Int := if k = n then γ (n - 1) else 0
  have key : ∀ i, i < k → sm n (fun j => T i j * (g j - g i)) + c = 0 := fun i hi => by
    have e := hγ i hi
    have e1 : sm n (fun j => T i j * (g j - g i)) = sm n (fun j => T i j * g j) - sm n (T i) * g i := by
      rw [← sm_mulr, ← sm_sub]; exact sm_congr fun j _ => by grind
    have e2 : sm k (fun r => γ r * sayM n T r i) = sm k (fun r => (if r + 1 = n then γ r else 0) + ((if r = i then - sm n (T i) * g i else 0) + T i r * g r)) := sm_congr fun r hr => by
      unfold sayM
      by_cases a : r + 1 = n
      · have gr : g r = 0 := if_neg (by omega)
        rw [if_pos a, if_pos a, gr]
        by_cases b : r = i
        · subst b; rw [if_pos rfl, gr]; omega
        · rw [if_neg b]; omega
      · have gr : g r = γ r := if_pos (by omega)
        rw [if_neg a, if_neg a, gr]
        by_cases b : r = i
        · subst b; rw [if_pos rfl, if_pos rfl, Td r (by omega), gr]; grind
        · rw [if_neg (fun z => b z.symm), if_neg b]; grind
    rw [e2, sm_add, sm_add] at e
    have e3 : sm k (fun r => if r = i then - sm n (T i) * g i else 0) = - sm n (T i) * g i := by
      rw [sm_one hi (fun r hr ne => if_neg ne), if_pos rfl]
    have e4 : sm k (fun r => T i r * g r) = sm n (fun r => T i r * g r) := by
      have := sm_split k (n - k) (fun r => T i r * g r)
      rw [show k + (n - k) = n by omega] at this
      rw [this, sm_zero (n := n - k) (fun r hr => by rw [show g (k + r) = 0 from if_neg (by omega)]; omega)]
      omega
    have e5 : sm k (fun r => if r + 1 = n then γ r else 0) = c := by
      by_cases a : k = n
      · show _ = if k = n then γ (n - 1) else 0
        rw [if_pos a, sm_one (k := n - 1) (by omega) (fun r hr ne => if_neg (by omega)), if_pos (by omega)]
      · show _ = if k = n then γ (n - 1) else 0
        rw [if_neg a]
        exact sm_zero fun r hr => if_neg (by omega)
    rw [e3, e4, e5] at e
    rw [e1]
    grind
  have c0 : c = 0 := by
    by_cases a : k = n
    · obtain ⟨i, hi, hm⟩ := ex_max hn g
      have k1 := key i (by omega)
      have s1 : 0 ≤ sm n (fun j => - (T i j * (g j - g i))) := sm_nonneg fun j hj => by
        have := Int.mul_nonneg (T0 i j hi hj) (show 0 ≤ g i - g j by have := hm j hj; omega)
        have : T i j * (g i - g j) = - (T i j * (g j - g i)) := by grind
        omega
      rw [sm_neg] at s1
      obtain ⟨i', hi', hm'⟩ := ex_max hn (fun j => - g j)
      have k2 := key i' (by omega)
      have s2 : 0 ≤ sm n (fun j => T i' j * (g j - g i')) := sm_nonneg fun j hj => Int.mul_nonneg (T0 i' j hi' hj) (by have := hm' j hj; omega)
      omega
    · exact if_neg a
  have gz := harm_zero L T0 (g := g) (fun i hi hne => by
    have : i < k := by
      refine Classical.byContradiction fun z => hne ?_
      exact if_neg (by omega)
    have := key i this
    omega) ⟨n - 1, by omega, if_neg (by omega)⟩
  intro r hr
  by_cases a : r + 1 = n
  · have : c = γ (n - 1) := if_pos (by omega)
    rw [show r = n - 1 by omega]; omega
  · have := gz r (by omega)
    rw [show g r = γ r from if_pos (by omega)] at this
    exact this
/-- balanced: all of one sign -/
def Bal (n : Nat) (T : Nat → Nat → Int) (z : Nat → Int) : Prop := ∀ j, j < n → sm n (fun i => z i * T i j) = z j * sm n (T j)
theorem bal_pos {n : Nat} {T : Nat → Nat → Int} (L : Lkd n T) (T0 : ∀ i j, i < n → j < n → 0 ≤ T i j) {z : Nat → Int} (B : Bal n T z) (k : Nat) (hk : k < n) (zk : 0 < z k) : ∀ i, i < n → 0 < z i := by
  intro i hi
  refine Classical.byContradiction fun c => ?_
  obtain ⟨a, b, ha, hb, pa, pb, t⟩ := L (fun i => decide (0 < z i)) ⟨k, hk, decide_eq_true zk⟩ ⟨i, hi, decide_eq_false c⟩
  have za : 0 < z a := of_decide_eq_true pa
  have zb : ¬ 0 < z b := of_decide_eq_false pb
  -- sum of the balances over the positive places
  have e : sm n (fun j => if 0 < z j then sm n (fun i => z i * T i j) else 0) = sm n (fun j => if 0 < z j then z j * sm n (T j) else 0) := sm_congr fun j hj => by
    by_cases h : 0 < z j
    · rw [if_pos h, if_pos h, B j hj]
    · rw [if_neg h, if_neg h]
  have e1 : sm n (fun j => if 0 < z j then sm n (fun i => z i * T i j) else 0) = sm n (fun i => sm n (fun j => if 0 < z j then z i * T i j else 0)) := by
    rw [sm_swap]
    refine sm_congr fun j hj => ?_
    by_cases h : 0 < z j
    · rw [if_pos h]; exact sm_congr fun i _ => by rw [if_pos h]
    · rw [if_neg h, sm_zero]; intro i _; rw [if_neg h]
  have e2 : sm n (fun j => if 0 < z j then z j * sm n (T j) else 0) = sm n (fun i => sm n (fun j => if 0 < z i then z i * T i j else 0)) := sm_congr fun i hi => by
    by_cases h : 0 < z i
    · rw [if_pos h, ← sm_mul]; exact sm_congr fun j _ => by rw [if_pos h]
    · rw [if_neg h, sm_zero]; intro j _; rw [if_neg h]
  have d : sm n (fun i => sm n (fun j => (if 0 < z i then z i * T i j else 0) - (if 0 < z j then z i * T i j else 0))) = 0 := by
    rw [sm_congr (g := fun i => sm n (fun j => if 0 < z i then z i * T i j else 0) - sm n (fun j => if 0 < z j then z i * T i j else 0)) (fun i _ => by rw [sm_sub]), sm_sub, ← e2, ← e1]
    omega
  have nn : ∀ i j, i < n → j < n → 0 ≤ (if 0 < z i then z i * T i j else 0) - (if 0 < z j then z i * T i j else 0) := fun i j hi hj => by
    by_cases h : 0 < z i
    · have := Int.mul_nonneg (Int.le_of_lt h) (T0 i j hi hj)
      by_cases h2 : 0 < z j
      · rw [if_pos h, if_pos h2]; omega
      · rw [if_pos h, if_neg h2]; omega
    · have := Int.mul_nonneg (show 0 ≤ - z i by omega) (T0 i j hi hj)
      have e : - z i * T i j = - (z i * T i j) := by grind
      by_cases h2 : 0 < z j
      · rw [if_neg h, if_pos h2]; omega
      · rw [if_neg h, if_neg h2]; omega
  have z1 := sm_zero_of (fun i hi => sm_nonneg fun j hj => nn i j hi hj) (by omega) a ha
  have z2 := sm_zero_of (fun j hj => nn a j ha hj) (by omega) b hb
  rw [if_pos za, if_neg zb] at z2
  have := Int.mul_pos za t
  omega
theorem bal_zero {n : Nat} {T : Nat → Nat → Int} (L : Lkd n T) (T0 : ∀ i j, i < n → j < n → 0 ≤ T i j) {z : Nat → Int} (B : Bal n T z) (s : sm n z = 0) : ∀ i, i < n → z i = 0 := by
  have le : ∀ {z : Nat → Int}, Bal n T z → sm n z = 0 → ∀ i, i < n → z i ≤ 0 := fun {z} B s i hi => by
    refine Classical.byContradiction fun c => ?_
    have := bal_pos L T0 B i hi (by omega)
    have := sm_pos (fun i hi => Int.le_of_lt (this i hi)) hi (by omega)
    omega
  intro i hi
  have a := le B s i hi
  have b := le (z := fun i => - z i) (fun j hj => by
    rw [sm_congr (g := fun i => - (z i * T i j)) (fun i _ => by grind), sm_neg, B j hj]; grind) (by rw [sm_neg, s]; rfl) i hi
  have b' : - z i ≤ 0 := b
  omega
/-- the last balance follows from the others -/
theorem bal_of {n : Nat} {T : Nat → Nat → Int} {z : Nat → Int} (h : ∀ j, j + 1 < n → sm n (fun i => z i * T i j) = z j * sm n (T j)) : Bal n T z := by
  intro j hj
  by_cases e : j + 1 < n
  · exact h j e
  · have e : n = j + 1 := by omega
    have t : sm n (fun j => sm n (fun i => z i * T i j)) = sm n (fun j => z j * sm n (T j)) := by
      rw [sm_swap]
      exact sm_congr fun i _ => by rw [sm_mul]
    have s : sm j (fun j => sm n (fun i => z i * T i j)) = sm j (fun j => z j * sm n (T j)) := sm_congr fun i hi => h i (by omega)
    have u : ∀ f : Nat → Int, sm n f = sm j f + f j := fun f => by subst e; rfl
    rw [u (fun j => sm n (fun i => z i * T i j)), u (fun j => z j * sm n (T j))] at t
    omega
end Cr
namespace Cr
/-! Euclid's turns, as many as the law takes -/
def gst : Nat → Nat × Nat → Nat × Nat
  | 0, p => p
  | n + 1, p => if 0 < (gst n p).2 then ((gst n p).2, (gst n p).1 % (gst n p).2) else gst n p
theorem gst_gcd (p : Nat × Nat) : ∀ n, Nat.gcd (gst n p).1 (gst n p).2 = Nat.gcd p.1 p.2
  | 0 => rfl
  | n + 1 => by
    show Nat.gcd (if 0 < (gst n p).2 then ((gst n p).2, (gst n p).1 % (gst n p).2) else gst n p).1 (if 0 < (gst n p).2 then ((gst n p).2, (gst n p).1 % (gst n p).2) else gst n p).2 = _
    have ih := gst_gcd p n
    by_cases h : 0 < (gst n p).2
    · rw [if_pos h, ← ih]
      show Nat.gcd (gst n p).2 ((gst n p).1 % (gst n p).2) = Nat.gcd (gst n p).1 (gst n p).2
      rw [Nat.gcd_comm (gst n p).2, ← Nat.gcd_rec, Nat.gcd_comm]
    · rw [if_neg h, ih]
theorem gst_le (p : Nat × Nat) (n : Nat) : (gst (n + 1) p).2 ≤ (gst n p).2 := by
  show (if 0 < (gst n p).2 then ((gst n p).2, (gst n p).1 % (gst n p).2) else gst n p).2 ≤ _
  by_cases h : 0 < (gst n p).2
  · rw [if_pos h]; exact Nat.le_of_lt (Nat.mod_lt _ h)
  · rw [if_neg h]; exact Nat.le_refl _
/-- two turns at least halve the second number -/
theorem gst_two (p : Nat × Nat) (n : Nat) : 2 * (gst (n + 2) p).2 ≤ (gst n p).2 := by
  show 2 * (if 0 < (gst (n + 1) p).2 then ((gst (n + 1) p).2, (gst (n + 1) p).1 % (gst (n + 1) p).2) else gst (n + 1) p).2 ≤ _
  have e1 : gst (n + 1) p = if 0 < (gst n p).2 then ((gst n p).2, (gst n p).1 % (gst n p).2) else gst n p := rfl
  by_cases h : 0 < (gst n p).2
  · rw [if_pos h] at e1
    rw [e1]
    show 2 * (if 0 < (gst n p).1 % (gst n p).2 then ((gst n p).1 % (gst n p).2, (gst n p).2 % ((gst n p).1 % (gst n p).2)) else ((gst n p).2, (gst n p).1 % (gst n p).2)).2 ≤ _
    have lt := Nat.mod_lt (gst n p).1 h
    generalize (gst n p).1 % (gst n p).2 = r at *
    generalize (gst n p).2 = b at *
    by_cases hr : 0 < r
    · rw [if_pos hr]
      show 2 * (b % r) ≤ b
      have a := Nat.mod_lt b hr
      have d := Nat.div_add_mod b r
      by_cases hq : r ≤ b
      · have : 1 ≤ b / r := (Nat.one_le_div_iff hr).mpr hq
        have : r * 1 ≤ r * (b / r) := Nat.mul_le_mul_left r this
        omega
      · omega
    · rw [if_neg hr]; show 2 * r ≤ b; omega
  · rw [if_neg h] at e1
    rw [e1, if_neg h]; omega
theorem gst_half (p : Nat × Nat) (k : Nat) (h : p.2 < 2 ^ k) : ∀ t, t ≤ k → (gst (2 * t) p).2 < 2 ^ (k - t)
  | 0, _ => h
  | t + 1, ht => by
    have ih := gst_half p k h t (by omega)
    have := gst_two p (2 * t)
    have e : 2 ^ (k - t) = 2 * 2 ^ (k - (t + 1)) := by
      rw [show k - t = (k - (t + 1)) + 1 by omega, Nat.pow_succ]; omega
    rw [show 2 * (t + 1) = 2 * t + 2 by omega]
    omega
theorem gst_mono (p : Nat × Nat) {m n : Nat} (h : m ≤ n) : (gst n p).2 ≤ (gst m p).2 := by
  induction n with
  | zero => rw [show m = 0 by omega]; exact Nat.le_refl _
  | succ n ih =>
    by_cases e : m = n + 1
    · rw [e]; exact Nat.le_refl _
    · exact Nat.le_trans (gst_le p n) (ih (by omega))
/-- enough turns: the first number is the gcd -/
theorem gst_end (p : Nat × Nat) {k n : Nat} (h : p.2 < 2 ^ k) (hn : 2 * k ≤ n) : (gst n p).1 = Nat.gcd p.1 p.2 := by
  have a := gst_half p k h k (Nat.le_refl _)
  have b := gst_mono p hn
  rw [Nat.sub_self] at a
  have z : (gst n p).2 = 0 := by omega
  rw [← gst_gcd p n, z, Nat.gcd_zero_right]
end Cr
namespace Cr
/-! fractions in lowest terms -/
structure Lw (p : Int × Int) (t b : Int) : Prop where
  pos : 0 < p.2
  low : Nat.gcd p.1.natAbs p.2.natAbs = 1
  eq : p.1 * b = t * p.2
theorem coprime_eq {a b c d : Int} (hb : 0 < b) (hd : 0 < d) (h1 : Nat.gcd a.natAbs b.natAbs = 1) (h2 : Nat.gcd c.natAbs d.natAbs = 1) (e : a * d = c * b) : a = c ∧ b = d := by
  have e' : a.natAbs * d.natAbs = c.natAbs * b.natAbs := by rw [← Int.natAbs_mul, e, Int.natAbs_mul]
  have d1 : b.natAbs ∣ d.natAbs := (Nat.Coprime.dvd_of_dvd_mul_left (show Nat.Coprime b.natAbs a.natAbs by unfold Nat.Coprime; rw [Nat.gcd_comm]; exact h1)) ⟨c.natAbs, by rw [e', Nat.mul_comm]⟩
  have d2 : d.natAbs ∣ b.natAbs := (Nat.Coprime.dvd_of_dvd_mul_left (show Nat.Coprime d.natAbs c.natAbs by unfold Nat.Coprime; rw [Nat.gcd_comm]; exact h2)) ⟨a.natAbs, by rw [← e', Nat.mul_comm]⟩
  have bd : b = d := by have := Nat.dvd_antisymm d1 d2; omega
  subst bd
  exact ⟨Int.eq_of_mul_eq_mul_right (by omega) e, rfl⟩
theorem Lw.uniq {p q : Int × Int} {t b t' b' : Int} (h : Lw p t b) (h' : Lw q t' b') (hb : b ≠ 0) (hb' : b' ≠ 0) (e : t * b' = t' * b) : p = q := by
  obtain ⟨a, b1⟩ := p
  obtain ⟨c, d⟩ := q
  have e1 := h.eq
  have e2 := h'.eq
  dsimp only at e1 e2
  have key : a * d = c * b1 := by
    have : (a * d) * (b * b') = (c * b1) * (b * b') := by
      calc (a * d) * (b * b') = (a * b) * d * b' := by grind
        _ = (t * b') * (b1 * d) := by rw [e1]; grind
        _ = (t' * d) * b * b1 := by rw [e]; grind
        _ = (c * b1) * (b * b') := by rw [← e2]; grind
    exact Int.eq_of_mul_eq_mul_right (fun z => by rcases Int.mul_eq_zero.mp z with z | z <;> contradiction) this
  obtain ⟨x, y⟩ := coprime_eq h.pos h'.pos h.low h'.low key
  exact Prod.ext x y
/-- in lowest terms -/
def lowf (t b : Int) : Int × Int := ((if b < 0 then -t else t) / (Nat.gcd t.natAbs b.natAbs : Nat), (b.natAbs : Int) / (Nat.gcd t.natAbs b.natAbs : Nat))
theorem lowf_lw (t : Int) {b : Int} (hb : b ≠ 0) : Lw (lowf t b) t b := by
  unfold lowf
  have g0 : 0 < Nat.gcd t.natAbs b.natAbs := Nat.gcd_pos_of_pos_right _ (by omega)
  obtain ⟨u, hu⟩ := Nat.gcd_dvd_left t.natAbs b.natAbs
  obtain ⟨v, hv⟩ := Nat.gcd_dvd_right t.natAbs b.natAbs
  have cop : Nat.gcd u v = 1 := by
    have := Nat.gcd_mul_left (Nat.gcd t.natAbs b.natAbs) u v
    rw [← hu, ← hv] at this
    have : Nat.gcd t.natAbs b.natAbs * 1 = Nat.gcd t.natAbs b.natAbs * Nat.gcd u v := by omega
    exact (Nat.eq_of_mul_eq_mul_left g0 this).symm
  generalize Nat.gcd t.natAbs b.natAbs = g at *
  have gi : (g : Int) ≠ 0 := by omega
  have e2 : (b.natAbs : Int) / (g : Int) = v := by rw [hv]; push_cast; exact Int.mul_ediv_cancel_left _ gi
  have tn : ∃ s : Int, (s = 1 ∨ s = -1) ∧ (if b < 0 then -t else t) = s * t.natAbs := by
    by_cases h : b < 0
    · rw [if_pos h]
      by_cases h2 : t < 0
      · exact ⟨1, .inl rfl, by omega⟩
      · exact ⟨-1, .inr rfl, by omega⟩
    · rw [if_neg h]
      by_cases h2 : t < 0
      · exact ⟨-1, .inr rfl, by omega⟩
      · exact ⟨1, .inl rfl, by omega⟩
  obtain ⟨s, hs, et⟩ := tn
  have e1 : (if b < 0 then -t else t) / (g : Int) = s * u := by
    rw [et, hu]; push_cast
    rw [show s * ((g : Int) * u) = g * (s * u) by grind]
    exact Int.mul_ediv_cancel_left _ gi
  have ab : (if b < 0 then -t else t) * (b.natAbs : Int) = t * (b.natAbs : Int) * (if b < 0 then -1 else 1) := by
    by_cases h : b < 0
    · rw [if_pos h, if_pos h]; grind
    · rw [if_neg h, if_neg h]; grind
  refine ⟨?_, ?_, ?_⟩
  · show 0 < (b.natAbs : Int) / (g : Int)
    rw [e2]
    have : v ≠ 0 := fun z => by rw [z] at hv; omega
    omega
  · show Nat.gcd (Int.natAbs ((if b < 0 then -t else t) / (g : Int))) (Int.natAbs ((b.natAbs : Int) / (g : Int))) = 1
    rw [e1, e2, Int.natAbs_mul, Int.natAbs_natCast, Int.natAbs_natCast, show s.natAbs = 1 by rcases hs with h | h <;> rw [h] <;> rfl, Nat.one_mul, cop]
  · show (if b < 0 then -t else t) / (g : Int) * b = t * ((b.natAbs : Int) / (g : Int))
    rw [e1, e2]
    have eb : b = (if b < 0 then -1 else 1) * ((g : Int) * v) := by
      by_cases h : b < 0
      · rw [if_pos h]; have : (b.natAbs : Int) = g * v := by rw [hv]; push_cast; rfl
        omega
      · rw [if_neg h]; have : (b.natAbs : Int) = g * v := by rw [hv]; push_cast; rfl
        omega
    have et2 : t = (if b < 0 then -1 else 1) * (s * ((g : Int) * u)) := by
      have : (t.natAbs : Int) = g * u := by rw [hu]; push_cast; rfl
      rw [this] at et
      by_cases h : b < 0
      · rw [if_pos h] at et ⊢; omega
      · rw [if_neg h] at et ⊢; omega
    generalize (if b < 0 then (-1 : Int) else 1) = z at *
    rw [et2, eb]
    grind
theorem lowf_bound (t b : Int) : (lowf t b).1.natAbs ≤ t.natAbs ∧ (lowf t b).2.natAbs ≤ b.natAbs := by
  constructor
  · show Int.natAbs ((if b < 0 then -t else t) / _) ≤ _
    refine Nat.le_trans (Int.natAbs_ediv_le_natAbs _ _) ?_
    by_cases h : b < 0
    · rw [if_pos h, Int.natAbs_neg]; exact Nat.le_refl _
    · rw [if_neg h]; exact Nat.le_refl _
  · show Int.natAbs ((b.natAbs : Int) / _) ≤ _
    refine Nat.le_trans (Int.natAbs_ediv_le_natAbs _ _) ?_
    rw [Int.natAbs_natCast]; exact Nat.le_refl _
/-- the sum, in lowest terms -/
def addf (p q : Int × Int) : Int × Int := lowf (p.1 * q.2 + q.1 * p.2) (p.2 * q.2)
theorem addf_lw {p q : Int × Int} {t b t' b' : Int} (h : Lw p t b) (h' : Lw q t' b') : Lw (addf p q) (t * b' + t' * b) (b * b') := by
  have hp := h.pos
  have hq := h'.pos
  have z := lowf_lw (p.1 * q.2 + q.1 * p.2) (b := p.2 * q.2) (by have := Int.mul_pos hp hq; omega)
  have e1 := h.eq
  have e2 := h'.eq
  refine ⟨z.pos, z.low, ?_⟩
  have e := z.eq
  show (lowf (p.1 * q.2 + q.1 * p.2) (p.2 * q.2)).1 * (b * b') = (t * b' + t' * b) * (lowf (p.1 * q.2 + q.1 * p.2) (p.2 * q.2)).2
  generalize lowf (p.1 * q.2 + q.1 * p.2) (p.2 * q.2) = r at *
  have key : (r.1 * (b * b')) * (p.2 * q.2) = ((t * b' + t' * b) * r.2) * (p.2 * q.2) := by
    calc (r.1 * (b * b')) * (p.2 * q.2) = (r.1 * (p.2 * q.2)) * (b * b') := by grind
      _ = ((p.1 * b) * q.2 * b' + (q.1 * b') * p.2 * b) * r.2 := by rw [e]; grind
      _ = ((t * b' + t' * b) * r.2) * (p.2 * q.2) := by rw [e1, e2]; grind
  exact Int.eq_of_mul_eq_mul_right (by have := Int.mul_pos hp hq; omega) key
end Cr
namespace Cr
/-! square tables, webs as numbers -/
def at2 (M : List (List Int)) (i j : Nat) : Int := (M.getD i []).getD j 0
theorem getD_of {α : Type} {l : List α} {i : Nat} {x d : α} (h : l[i]? = some x) : l.getD i d = x := by
  rw [List.getD_eq_getElem?_getD, h]; rfl
structure Sqm (n : Nat) (M : List (List Int)) : Prop where
  l : M.length = n
  r : ∀ x ∈ M, x.length = n
theorem Sqm.row {n : Nat} {M : List (List Int)} (s : Sqm n M) {i : Nat} (h : i < n) : ∃ r, M[i]? = some r ∧ r.length = n ∧ ∀ j, j < n → r[j]? = some (at2 M i j) := by
  have hl : i < M.length := by rw [s.l]; exact h
  refine ⟨M[i], List.getElem?_eq_getElem hl, s.r _ (List.getElem_mem hl), fun j hj => ?_⟩
  have e : M.getD i [] = M[i] := by rw [List.getD_eq_getElem?_getD, List.getElem?_eq_getElem hl]; rfl
  have hj2 : j < (M[i]).length := by rw [s.r _ (List.getElem_mem hl)]; exact hj
  unfold at2
  rw [e, List.getD_eq_getElem?_getD, List.getElem?_eq_getElem hj2]
  rfl
theorem Sqm.at {n : Nat} {M : List (List Int)} (s : Sqm n M) {i j : Nat} {r : List Int} {x : Int} (h1 : M[i]? = some r) (h2 : r[j]? = some x) : at2 M i j = x := by
  unfold at2
  rw [getD_of h1, getD_of h2]
theorem closed_full {n : Nat} {T : Nat → Nat → Int} (L : Lkd n T) {F : Nat} (hF : F < 2 ^ n) (hp : ∃ p, p < n ∧ F.testBit p = true) (hc : ∀ p q, p < n → q < n → F.testBit p = true → 0 < T p q → F.testBit q = true) : F = 2 ^ n - 1 := by
  refine Nat.eq_of_testBit_eq fun i => ?_
  rw [Nat.testBit_two_pow_sub_one]
  by_cases h : i < n
  · rw [decide_eq_true h]
    refine Classical.byContradiction fun c => ?_
    obtain ⟨a, b, ha, hb, pa, pb, t⟩ := L F.testBit hp ⟨i, h, Bool.eq_false_iff.mpr c⟩
    rw [hc a b ha hb pa t] at pb
    cases pb
  · rw [decide_eq_false h]
    exact Nat.testBit_lt_two_pow (Nat.lt_of_lt_of_le hF (Nat.pow_le_pow_right (by decide) (by omega)))
end Cr
namespace Cr
/-! the solution by minors, bounds of minors -/
/-- row k in place of which stands minus the unit row i -/
def rp (A : Nat → Nat → Int) (k i : Nat) : Nat → Nat → Int := fun r j => if r = k then (if j = i then -1 else 0) else A r j
theorem gj_rp (A : Nat → Nat → Int) (k i : Nat) : ∃ w, GJ A k i w ∧ ∀ c, c ≠ i → w c = mn (rp A k i) k k c := by
  obtain ⟨C, hC⟩ := mn_lin (rp A k i) k k
  have el : ld (rp A k i) k = ld A k := wd_congr k (dn k) (fun r hr j => by have := mem_dn hr; unfold rp; rw [if_neg (by omega)])
  have es : ∀ j, sm k (fun r => C r * rp A k i r j) = sm k (fun r => C r * A r j) := fun j => sm_congr (fun r hr => by unfold rp; rw [if_neg (by omega)])
  refine ⟨fun j => sm k (fun r => C r * A r j), ⟨⟨C, fun j => rfl⟩, fun j hj => ?_⟩, fun c hc => ?_⟩
  · have a := hC j
    rw [mn_twice _ hj, el, es, show rp A k i k j = if j = i then -1 else 0 from if_pos rfl] at a
    by_cases e : i = j
    · rw [if_pos e]; rw [if_pos e.symm] at a; show sm k (fun r => C r * A r j) = _; omega
    · rw [if_neg e]; rw [if_neg (fun z => e z.symm)] at a; show sm k (fun r => C r * A r j) = _; omega
  · have a := hC c
    rw [el, es, show rp A k i k c = if c = i then -1 else 0 from if_pos rfl, if_neg hc] at a
    show sm k (fun r => C r * A r c) = _
    omega
/-- the solution for the right side in column m -/
def solX (A : Nat → Nat → Int) (m i : Nat) : Int := mn (rp A m i) m m m
theorem solX_ok {A : Nat → Nat → Int} {m : Nat} (H : LK A m) : ∀ r, r < m → sm m (fun i => A r i * solX A m i) = ld A m * A r m := fun r hr => by
  have := gj_sol (w := fun i => Classical.choose (gj_rp A m i)) H (fun i _ => (Classical.choose_spec (gj_rp A m i)).1) m r hr
  rw [← this]
  exact sm_congr fun i hi => by rw [(Classical.choose_spec (gj_rp A m i)).2 m (by omega)]; rfl
/-! bounds -/
theorem ew_le {B C : Nat} {v : Nat → Int} : ∀ (l : List Nat) (F : List Nat → Int), (∀ r, r ∈ l → (v r).natAbs ≤ B) → (∀ l' : List Nat, l'.length + 1 = l.length → (∀ r, r ∈ l' → r ∈ l) → (F l').natAbs ≤ C) → (ew v F l).natAbs ≤ l.length * (B * C)
  | [], F, _, _ => by simp [ew]
  | r :: l, F, hv, hF => by
    show (v r * F l - ew v (fun l' => F (r :: l')) l).natAbs ≤ (l.length + 1) * (B * C)
    have a : (v r * F l).natAbs ≤ B * C := by
      rw [Int.natAbs_mul]
      exact Nat.mul_le_mul (hv r (by simp)) (hF l rfl (fun q hq => List.mem_cons_of_mem _ hq))
    have b := ew_le l (fun l' => F (r :: l')) (fun q hq => hv q (List.mem_cons_of_mem _ hq)) (fun l' hl hm => hF (r :: l') (by rw [List.length_cons, hl]; rfl) (fun q hq => by
      rcases (List.mem_cons.mp hq) with e | e
      · rw [e]; exact List.mem_cons_self
      · exact List.mem_cons_of_mem _ (hm q e)))
    rw [Nat.add_mul]
    omega
theorem wd_le {A : Nat → Nat → Int} {B m : Nat} : ∀ (k : Nat) (l : List Nat), k ≤ 16 → l.length = k → (∀ r, r ∈ l → ∀ j, j < k → (A r j).natAbs ≤ B) → (wd A k l).natAbs ≤ (16 * B) ^ k
  | 0, l, _, _, _ => by show Int.natAbs 1 ≤ 1; decide
  | k + 1, l, h, hl, hA => by
    have a := ew_le (B := B) (C := (16 * B) ^ k) l (wd A k) (fun r hr => hA r hr k (by omega)) (fun l' hl' hm => wd_le (m := m) k l' (by omega) (by omega) (fun r hr j hj => hA r (hm r hr) j (by omega)))
    refine Nat.le_trans a ?_
    rw [Nat.pow_succ, hl]
    calc (k + 1) * (B * (16 * B) ^ k) ≤ 16 * (B * (16 * B) ^ k) := Nat.mul_le_mul_right _ h
      _ = (16 * B) ^ k * (16 * B) := by rw [Nat.mul_comm ((16 * B) ^ k), Nat.mul_assoc]
theorem len_dn : ∀ k, (dn k).length = k
  | 0 => rfl
  | k + 1 => by show (dn k).length + 1 = _; rw [len_dn k]
theorem mn_le {A : Nat → Nat → Int} {B D k i j : Nat} (hk : k ≤ 15) (hA : ∀ r, r < k ∨ r = i → ∀ j, j < k → (A r j).natAbs ≤ B) (hD : ∀ r, r < k ∨ r = i → (A r j).natAbs ≤ D) : (mn A k i j).natAbs ≤ 16 * (D * (16 * B) ^ k) := by
  have mem : ∀ r, r ∈ i :: dn k → r < k ∨ r = i := fun r hr => by
    rcases List.mem_cons.mp hr with e | e
    · exact .inr e
    · exact .inl (mem_dn e)
  have a := ew_le (B := D) (C := (16 * B) ^ k) (v := fun r => A r j) (i :: dn k) (wd A k) (fun r hr => hD r (mem r hr)) (fun l' hl' hm => wd_le (m := k) k l' (by omega) (by rw [List.length_cons, len_dn] at hl'; omega) (fun r hr j hj => hA r (mem r (hm r hr)) j hj))
  refine Nat.le_trans a (Nat.mul_le_mul_right _ ?_)
  rw [List.length_cons, len_dn]
  omega
/-- all of them, entries < 2 ^ 25, right sides < 2 ^ 180 -/
theorem mn_600 {A : Nat → Nat → Int} {m : Nat} (hm : m ≤ 15) (hA : ∀ r j, r < m → j < m → (A r j).natAbs ≤ 2 ^ 25) (hb : ∀ r, r < m → (A r m).natAbs ≤ 2 ^ 150) :
    (∀ k i j, k ≤ m → i < m → j ≤ m → (mn A k i j).natAbs < 2 ^ 600) ∧ (∀ i, i < m → (solX A m i).natAbs < 2 ^ 600) := by
  have big : ∀ k, k ≤ 15 → 16 * (2 ^ 150 * (16 * 2 ^ 25) ^ k) < 2 ^ 600 := fun k hk => by
    have : (16 * 2 ^ 25) ^ k ≤ (16 * 2 ^ 25) ^ 15 := Nat.pow_le_pow_right (by decide) hk
    calc 16 * (2 ^ 150 * (16 * 2 ^ 25) ^ k) ≤ 16 * (2 ^ 150 * (16 * 2 ^ 25) ^ 15) := Nat.mul_le_mul_left _ (Nat.mul_le_mul_left _ this)
      _ < 2 ^ 600 := by decide +kernel
  constructor
  · intro k i j hk hi hj
    refine Nat.lt_of_le_of_lt (mn_le (B := 2 ^ 25) (D := 2 ^ 150) (by omega) (fun r hr j hj => hA r j (by omega) (by omega)) (fun r hr => ?_)) (big k (by omega))
    by_cases e : j = m
    · rw [e]; exact hb r (by omega)
    · exact Nat.le_trans (hA r j (by omega) (by omega)) (by decide +kernel)
  · intro i hi
    refine Nat.lt_of_le_of_lt (mn_le (B := 2 ^ 25) (D := 2 ^ 150) hm (fun r hr j hj => ?_) (fun r hr => ?_)) (big m hm)
    · unfold rp
      by_cases e : r = m
      · rw [if_pos e]; split <;> decide
      · rw [if_neg e]; exact hA r j (by omega) hj
    · unfold rp
      by_cases e : r = m
      · rw [if_pos e, if_neg (by omega)]; decide
      · rw [if_neg e]; exact hb r (by omega)
/-! the table with the right sides -/
def wk (M : List (List Int)) (b : List Int) : List (List Int) := List.zipWith (fun l x => l ++ [x]) M b
theorem wk_row {m : Nat} {M : List (List Int)} {b : List Int} (s : Sqm m M) (hb : b.length = m) {i : Nat} (hi : i < m) : ∃ r, (wk M b)[i]? = some r ∧ r.length = m + 1 ∧ (∀ j, j < m → r[j]? = some (at2 M i j)) ∧ r[m]? = some (b.getD i 0) := by
  obtain ⟨r, e, hl, hr⟩ := s.row hi
  have hbi : i < b.length := by omega
  refine ⟨r ++ [b.getD i 0], ?_, by rw [List.length_append, hl]; rfl, fun j hj => by rw [List.getElem?_append_left (by omega)]; exact hr j hj, by rw [List.getElem?_append_right (by omega), hl, Nat.sub_self]; rfl⟩
  unfold wk
  rw [List.getElem?_zipWith, e, List.getD_eq_getElem?_getD, List.getElem?_eq_getElem hbi]
  rfl
theorem wk_at {m : Nat} {M : List (List Int)} {b : List Int} (s : Sqm m M) (hb : b.length = m) {i j : Nat} (hi : i < m) (hj : j < m) : at2 (wk M b) i j = at2 M i j := by
  obtain ⟨r, e, hl, hr, hm⟩ := wk_row s hb hi
  show ((wk M b).getD i []).getD j 0 = _
  rw [getD_of e, getD_of (hr j hj)]
theorem wk_rt {m : Nat} {M : List (List Int)} {b : List Int} (s : Sqm m M) (hb : b.length = m) {i : Nat} (hi : i < m) : at2 (wk M b) i m = b.getD i 0 := by
  obtain ⟨r, e, hl, hr, hm⟩ := wk_row s hb hi
  show ((wk M b).getD i []).getD m 0 = _
  rw [getD_of e, getD_of hm]
structure SvOk (M : List (List Int)) (b : List Int) (m : Nat) : Prop where
  s : Sqm m M
  lb : b.length = m
  m1 : 1 ≤ m
  m2 : m ≤ 15
  lk : LK (at2 (wk M b)) m
  bd : ∀ k i j, k ≤ m → i < m → j ≤ m → (mn (at2 (wk M b)) k i j).natAbs < 2 ^ 600
  bx : ∀ i, i < m → (solX (at2 (wk M b)) m i).natAbs < 2 ^ 600
/-- what is solved: the tops, the bottom above 0 -/
def svB (M : List (List Int)) (b : List Int) (m : Nat) : Int := if ld (at2 (wk M b)) m < 0 then -(ld (at2 (wk M b)) m) else ld (at2 (wk M b)) m
def svX (M : List (List Int)) (b : List Int) (m i : Nat) : Int := if ld (at2 (wk M b)) m < 0 then -(solX (at2 (wk M b)) m i) else solX (at2 (wk M b)) m i
theorem SvOk.pos {M : List (List Int)} {b : List Int} {m : Nat} (h : SvOk M b m) : 0 < svB M b m := by
  have := ld_ne h.lk m (Nat.le_refl _)
  unfold svB
  split <;> omega
theorem SvOk.eqs {M : List (List Int)} {b : List Int} {m : Nat} (h : SvOk M b m) {r : Nat} (hr : r < m) : sm m (fun i => at2 M r i * svX M b m i) = svB M b m * b.getD r 0 := by
  have z := solX_ok h.lk r hr
  rw [wk_rt h.s h.lb hr, sm_congr (g := fun i => at2 M r i * solX (at2 (wk M b)) m i) (fun i hi => by rw [wk_at h.s h.lb hr hi])] at z
  unfold svX svB
  split
  · rw [sm_congr (g := fun i => -(at2 M r i * solX (at2 (wk M b)) m i)) (fun i hi => by grind), sm_neg, z]; grind
  · exact z
theorem SvOk.bB {M : List (List Int)} {b : List Int} {m : Nat} (h : SvOk M b m) : (svB M b m).natAbs < 2 ^ 600 := by
  have e : ld (at2 (wk M b)) m = mn (at2 (wk M b)) (m - 1) (m - 1) (m - 1) := by
    have := h.m1
    obtain ⟨k, rfl⟩ : ∃ k, m = k + 1 := ⟨m - 1, by omega⟩
    exact ld_succ _ _
  have := h.bd (m - 1) (m - 1) (m - 1) (by omega) (by have := h.m1; omega) (by omega)
  rw [← e] at this
  unfold svB
  split
  · rw [Int.natAbs_neg]; exact this
  · exact this
theorem SvOk.bX {M : List (List Int)} {b : List Int} {m i : Nat} (h : SvOk M b m) (hi : i < m) : (svX M b m i).natAbs < 2 ^ 600 := by
  have := h.bx i hi
  unfold svX
  split
  · rw [Int.natAbs_neg]; exact this
  · exact this
/-- only one solution -/
theorem SvOk.uniq {M : List (List Int)} {b : List Int} {m : Nat} (h : SvOk M b m) {Y : Nat → Int} {c : Int} (hc : c ≠ 0) (hY : ∀ r, r < m → sm m (fun i => at2 M r i * Y i) = c * b.getD r 0) : ∀ i, i < m → Y i * svB M b m = svX M b m i * c := by
  intro i hi
  have z := rk h.lk (X := fun i => Y i * svB M b m - svX M b m i * c) (fun r hr => by
    have e1 := hY r hr
    have e2 := h.eqs hr
    rw [sm_congr (g := fun i => at2 M r i * Y i * svB M b m - at2 M r i * svX M b m i * c) (fun i hi => by rw [wk_at h.s h.lb hr hi]; grind), sm_sub, sm_mulr, sm_mulr, e1, e2]
    grind) i hi
  omega
/-- from the entries -/
theorem svOk_of {M : List (List Int)} {b : List Int} {m : Nat} (s : Sqm m M) (hb : b.length = m) (m1 : 1 ≤ m) (m2 : m ≤ 15) (lk : LK (at2 M) m) (hA : ∀ r j, r < m → j < m → (at2 M r j).natAbs ≤ 2 ^ 25) (hB : ∀ r, r < m → (b.getD r 0).natAbs ≤ 2 ^ 150) : SvOk M b m := by
  obtain ⟨x, y⟩ := mn_600 (A := at2 (wk M b)) m2 (fun r j hr hj => by rw [wk_at s hb hr hj]; exact hA r j hr hj) (fun r hr => by rw [wk_rt s hb hr]; exact hB r hr)
  refine ⟨s, hb, m1, m2, fun k hk γ hγ => lk k hk γ fun j hj => ?_, x, y⟩
  rw [← hγ j hj]
  exact sm_congr fun r hr => by rw [wk_at s hb (by omega) (by omega)]
end Cr
namespace Cr
/-! ### the win system -/
section
variable (n : Nat) (T C : Nat → Nat → Int)
def rt (S i j : Nat) : Int := if S.testBit i = true then T i j else T i j + C i j
/-- sum over the looks between the lot and the rest -/
def dif (S : Nat) (g : Nat → Nat → Int) : Int := sm n fun i => sm n fun j => if S.testBit j = S.testBit i then 0 else g i j
def winE (S k : Nat) : Int := dif n S fun i _j => rt T C S i _j * ((if k = S then 1 else 0) - (if k = S ^^^ 2 ^ i then 1 else 0))
def Lop (f : Nat → Int) (S : Nat) : Int := dif n S fun i j => rt T C S i j * (f S - f (S ^^^ 2 ^ i))
end
section
variable {n : Nat} {T C : Nat → Nat → Int}
theorem dif_congr {S : Nat} {g h : Nat → Nat → Int} (e : ∀ i j, i < n → j < n → S.testBit j ≠ S.testBit i → g i j = h i j) : dif n S g = dif n S h :=
  sm_congr fun i hi => sm_congr fun j hj => by
    by_cases z : S.testBit j = S.testBit i
    · rw [if_pos z, if_pos z]
    · rw [if_neg z, if_neg z, e i j hi hj z]
theorem dif_swap (N : Nat) (S : Nat) (g : Nat → Nat → Nat → Int) : sm N (fun k => dif n S (g k)) = dif n S fun i j => sm N fun k => g k i j := by
  unfold dif
  rw [sm_swap]
  refine sm_congr fun i _ => ?_
  rw [sm_swap]
  refine sm_congr fun j _ => ?_
  by_cases z : S.testBit j = S.testBit i
  · rw [if_pos z, sm_zero]; intro k _; rw [if_pos z]
  · rw [if_neg z]; exact sm_congr fun k _ => by rw [if_neg z]
theorem dif_sub (S : Nat) (g h : Nat → Nat → Int) : dif n S (fun i j => g i j - h i j) = dif n S g - dif n S h := by
  unfold dif
  rw [← sm_sub]
  refine sm_congr fun i _ => ?_
  rw [← sm_sub]
  refine sm_congr fun j _ => ?_
  by_cases z : S.testBit j = S.testBit i
  · rw [if_pos z, if_pos z, if_pos z]; rfl
  · rw [if_neg z, if_neg z, if_neg z]
theorem dif_mul (S : Nat) (c : Int) (g : Nat → Nat → Int) : dif n S (fun i j => c * g i j) = c * dif n S g := by
  unfold dif
  rw [← sm_mul]
  refine sm_congr fun i _ => ?_
  rw [← sm_mul]
  refine sm_congr fun j _ => ?_
  by_cases z : S.testBit j = S.testBit i
  · rw [if_pos z, if_pos z]; omega
  · rw [if_neg z, if_neg z]
theorem dif_nonneg {S : Nat} {g : Nat → Nat → Int} (h : ∀ i j, i < n → j < n → S.testBit j ≠ S.testBit i → 0 ≤ g i j) : 0 ≤ dif n S g :=
  sm_nonneg fun i hi => sm_nonneg fun j hj => by
    by_cases z : S.testBit j = S.testBit i
    · rw [if_pos z]; exact Int.le_refl _
    · rw [if_neg z]; exact h i j hi hj z
theorem sm_lt {n : Nat} {f g : Nat → Int} (h : ∀ i, i < n → f i ≤ g i) {k : Nat} (hk : k < n) (hl : f k < g k) : sm n f < sm n g := by
  have := sm_pos (f := fun i => g i - f i) (fun i hi => by have := h i hi; omega) hk (by omega)
  rw [sm_sub] at this
  omega
theorem dif_le {S : Nat} {g h : Nat → Nat → Int} (e : ∀ i j, i < n → j < n → S.testBit j ≠ S.testBit i → g i j ≤ h i j) : dif n S g ≤ dif n S h :=
  sm_le fun i hi => sm_le fun j hj => by
    by_cases z : S.testBit j = S.testBit i
    · rw [if_pos z, if_pos z]; exact Int.le_refl _
    · rw [if_neg z, if_neg z]; exact e i j hi hj z
theorem dif_lt {S : Nat} {g h : Nat → Nat → Int} (e : ∀ i j, i < n → j < n → S.testBit j ≠ S.testBit i → g i j ≤ h i j) {i j : Nat} (hi : i < n) (hj : j < n) (d : S.testBit j ≠ S.testBit i) (l : g i j < h i j) : dif n S g < dif n S h :=
  sm_lt (fun i hi => sm_le fun j hj => by
    by_cases z : S.testBit j = S.testBit i
    · rw [if_pos z, if_pos z]; exact Int.le_refl _
    · rw [if_neg z, if_neg z]; exact e i j hi hj z) hi (sm_lt (fun j hj => by
    by_cases z : S.testBit j = S.testBit i
    · rw [if_pos z, if_pos z]; exact Int.le_refl _
    · rw [if_neg z, if_neg z]; exact e i j hi hj z) hj (by rw [if_neg d, if_neg d]; exact l))
theorem xor_lt {S i : Nat} (hS : S < 2 ^ n) (hi : i < n) : S ^^^ 2 ^ i < 2 ^ n := Nat.xor_lt_two_pow hS (Nat.pow_lt_pow_right (by decide) hi)
theorem xor_ne (S i : Nat) : S ^^^ 2 ^ i ≠ S := fun h => by
  have := congrArg (fun x => x.testBit i) h
  simp only [Nat.testBit_xor, Nat.testBit_two_pow_self] at this
  cases hb : S.testBit i <;> simp [hb] at this
theorem delta_sum {N k : Nat} (h : k < N) (f : Nat → Int) : sm N (fun x => (if x = k then 1 else 0) * f x) = f k := by
  rw [sm_one h (fun i hi ne => by rw [if_neg ne]; omega), if_pos rfl]; omega
theorem win_sum {S : Nat} (hS : S < 2 ^ n) (f : Nat → Int) : sm (2 ^ n) (fun k => winE n T C S k * f k) = Lop n T C f S := by
  unfold winE Lop
  have e : sm (2 ^ n) (fun k => dif n S (fun i j => rt T C S i j * ((if k = S then 1 else 0) - (if k = S ^^^ 2 ^ i then 1 else 0))) * f k) = sm (2 ^ n) (fun k => dif n S (fun i j => f k * (rt T C S i j * ((if k = S then 1 else 0) - (if k = S ^^^ 2 ^ i then 1 else 0))))) := sm_congr fun k _ => by
    rw [dif_mul, Int.mul_comm]
  rw [e, dif_swap]
  refine dif_congr fun i j hi hj _ => ?_
  have e2 : sm (2 ^ n) (fun k => f k * (rt T C S i j * ((if k = S then 1 else 0) - (if k = S ^^^ 2 ^ i then 1 else 0)))) = sm (2 ^ n) (fun k => rt T C S i j * ((if k = S then 1 else 0) * f k) - rt T C S i j * ((if k = S ^^^ 2 ^ i then 1 else 0) * f k)) := sm_congr fun k _ => by grind
  rw [e2, sm_sub, sm_mul, sm_mul, delta_sum hS, delta_sum (xor_lt hS hi)]
  grind
/-- the inner part of the table -/
def wM (n : Nat) (T C : Nat → Nat → Int) : List (List Int) := (List.range (2 ^ n - 2)).map fun r => (List.range (2 ^ n - 2)).map fun c => winE n T C (r + 1) (c + 1)
theorem tab_sq (m : Nat) (f : Nat → Nat → Int) : Sqm m ((List.range m).map fun r => (List.range m).map fun c => f r c) :=
  ⟨by rw [List.length_map, List.length_range], fun x hx => by
    obtain ⟨r, _, rfl⟩ := List.mem_map.mp hx
    rw [List.length_map, List.length_range]⟩
theorem tab_at {m : Nat} {f : Nat → Nat → Int} {r c : Nat} (hr : r < m) (hc : c < m) : at2 ((List.range m).map fun r => (List.range m).map fun c => f r c) r c = f r c := by
  unfold at2
  rw [getD_of (x := (List.range m).map fun c => f r c) (by rw [List.getElem?_map, List.getElem?_range hr]; rfl), getD_of (x := f r c) (by rw [List.getElem?_map, List.getElem?_range hc]; rfl)]
theorem xor_up : ∀ S, S < 16 → ∀ i, i < 4 → S.testBit i = false → S ^^^ 2 ^ i = S + 2 ^ i := by decide +kernel
theorem wM_lk (n4 : n ≤ 4) (L : Lkd n T) (T0 : ∀ i j, i < n → j < n → 0 ≤ T i j) (C0 : ∀ i j, i < n → j < n → 0 ≤ C i j) : LK (at2 (wM n T C)) (2 ^ n - 2) := by
  have p16 : 2 ^ n ≤ 16 := Nat.pow_le_pow_right (n := 2) (by decide) n4
  have r0 : ∀ S i j, i < n → j < n → 0 ≤ rt T C S i j := fun S i j hi hj => by
    have := T0 i j hi hj
    have := C0 i j hi hj
    unfold rt
    split <;> omega
  let q : Nat → Nat → Int := fun r c => dif n (r + 1) fun i j => rt T C (r + 1) i j * (if c + 1 = (r + 1) ^^^ 2 ^ i then 1 else 0)
  let d : Nat → Int := fun r => dif n (r + 1) fun i j => rt T C (r + 1) i j
  have dl : ∀ m k, sm m (fun c => if c + 1 = k then (1 : Int) else 0) ≤ 1 := fun m k => by
    by_cases h : ∃ c, c < m ∧ c + 1 = k
    · obtain ⟨c, hc, e⟩ := h
      rw [sm_one hc (fun i hi ne => if_neg (by omega)), if_pos e]; exact Int.le_refl _
    · rw [sm_zero fun i hi => if_neg fun z => h ⟨i, hi, z⟩]; decide
  have tot : ∀ r m, sm m (fun c => if c = r then 0 else q r c) = dif n (r + 1) fun i j => rt T C (r + 1) i j * sm m (fun c => if c + 1 = (r + 1) ^^^ 2 ^ i then 1 else 0) := fun r m => by
    rw [sm_congr (g := fun c => q r c) (fun c _ => by
      by_cases e : c = r
      · rw [if_pos e, e]
        symm
        show dif n (r + 1) _ = 0
        rw [dif_congr (h := fun _ _ => 0 * 0) (fun i j _ _ _ => by rw [if_neg (fun z => xor_ne (r + 1) i z.symm)]; omega), dif_mul]; omega
      · rw [if_neg e])]
    show sm m (fun c => dif n (r + 1) _) = _
    rw [dif_swap]
    exact dif_congr fun i j _ _ _ => sm_mul _ _ _
  refine lk_chain (d := d) (q := q) (fun r hr => ?_) (fun r c hr hc ne => ?_) (fun r c hr hc => ?_) (fun r hr => ?_) (fun r hr => ?_)
  · show at2 (wM n T C) r r = _
    unfold wM
    rw [tab_at hr hr]
    refine dif_congr fun i j _ _ _ => ?_
    rw [if_pos rfl, if_neg (fun z => xor_ne (r + 1) i z.symm)]; omega
  · show at2 (wM n T C) r c = _
    unfold wM
    rw [tab_at hr hc]
    show dif n (r + 1) _ = - dif n (r + 1) _
    have : ∀ g, - dif n (r + 1) g = dif n (r + 1) fun i j => (-1) * g i j := fun g => by rw [dif_mul]; omega
    rw [this]
    refine dif_congr fun i j _ _ _ => ?_
    rw [if_neg (show ¬ (c + 1 = r + 1) by omega)]
    grind
  · refine dif_nonneg fun i j hi hj _ => ?_
    split
    · have := r0 (r + 1) i j hi hj; omega
    · omega
  · rw [tot]
    refine dif_le fun i j hi hj _ => ?_
    have a := r0 (r + 1) i j hi hj
    have b := dl (2 ^ n - 2) ((r + 1) ^^^ 2 ^ i)
    have := Int.mul_le_mul_of_nonneg_left b a
    omega
  · have hS : r + 1 < 2 ^ n := by omega
    obtain ⟨i, j, hi, hj, pi, pj, t⟩ := L (fun i => !(r + 1).testBit i) (by
      refine Classical.byContradiction fun z => ?_
      have : r + 1 = 2 ^ n - 1 := Nat.eq_of_testBit_eq fun k => by
        rw [Nat.testBit_two_pow_sub_one]
        by_cases hk : k < n
        · rw [decide_eq_true hk]
          refine Classical.byContradiction fun y => z ⟨k, hk, ?_⟩
          rw [Bool.eq_false_iff.mpr y]; rfl
        · rw [decide_eq_false hk]
          exact Nat.testBit_lt_two_pow (Nat.lt_of_lt_of_le hS (Nat.pow_le_pow_right (by decide) (by omega)))
      omega) (by
      refine Classical.byContradiction fun z => ?_
      have : r + 1 = 0 := Nat.eq_of_testBit_eq fun k => by
        rw [Nat.zero_testBit]
        by_cases hk : k < n
        · refine Bool.eq_false_iff.mpr fun y => z ⟨k, hk, ?_⟩
          rw [y]; rfl
        · exact Nat.testBit_lt_two_pow (Nat.lt_of_lt_of_le hS (Nat.pow_le_pow_right (by decide) (by omega)))
      omega)
    have bi : (r + 1).testBit i = false := by simpa using pi
    have bj : (r + 1).testBit j = true := by simpa using pj
    have dne : (r + 1).testBit j ≠ (r + 1).testBit i := by rw [bi, bj]; decide
    have rp : 0 < rt T C (r + 1) i j := by
      unfold rt
      rw [bi]
      have := C0 i j hi hj
      simp only [if_false, Bool.false_eq_true]
      omega
    have up := xor_up (r + 1) (by omega) i (by omega) bi
    have xl := xor_lt hS hi
    have p2 : 1 ≤ 2 ^ i := Nat.one_le_two_pow
    by_cases h : (r + 1) ^^^ 2 ^ i = 2 ^ n - 1
    · refine .inr ?_
      rw [tot]
      refine dif_lt (fun i j hi hj _ => ?_) hi hj dne ?_
      · have a := r0 (r + 1) i j hi hj
        have b := dl (2 ^ n - 2) ((r + 1) ^^^ 2 ^ i)
        have := Int.mul_le_mul_of_nonneg_left b a
        omega
      · rw [sm_zero fun c hc => if_neg (by omega)]; omega
    · refine .inl ⟨((r + 1) ^^^ 2 ^ i) - 1, by omega, by omega, ?_⟩
      show 0 < dif n (r + 1) _
      refine Int.lt_of_le_of_lt (a := 0) (b := dif n (r + 1) fun _ _ => 0 * 0) (by rw [dif_mul]; omega) (dif_lt (fun i' j' hi' hj' _ => ?_) hi hj dne ?_)
      · have := r0 (r + 1) i' j' hi' hj'
        split <;> omega
      · rw [if_pos (by omega)]; omega
theorem winE_le {B : Nat} (hT : ∀ i j, i < n → j < n → (T i j).natAbs ≤ B) (hC : ∀ i j, i < n → j < n → (C i j).natAbs ≤ B) (n4 : n ≤ 4) (S k : Nat) : (winE n T C S k).natAbs ≤ 64 * B := by
  have one : ∀ i j, i < n → j < n → ((if S.testBit j = S.testBit i then 0 else rt T C S i j * ((if k = S then 1 else 0) - (if k = S ^^^ 2 ^ i then 1 else 0)) : Int)).natAbs ≤ 4 * B := fun i j hi hj => by
    by_cases z : S.testBit j = S.testBit i
    · rw [if_pos z]; simp
    · rw [if_neg z, Int.natAbs_mul]
      have a : (rt T C S i j).natAbs ≤ 2 * B := by
        have := hT i j hi hj
        have := hC i j hi hj
        unfold rt
        split <;> omega
      have b : ((if k = S then (1 : Int) else 0) - (if k = S ^^^ 2 ^ i then 1 else 0)).natAbs ≤ 2 := by split <;> split <;> decide
      calc _ ≤ 2 * B * 2 := Nat.mul_le_mul a b
        _ = 4 * B := by omega
  have sum : ∀ (m c : Nat) (f : Nat → Int), (∀ i, i < m → (f i).natAbs ≤ c) → (sm m f).natAbs ≤ m * c := fun m c f h => by
    induction m with
    | zero => simp [sm]
    | succ m ih =>
      have := ih (fun i hi => h i (by omega))
      have := h m (by omega)
      simp only [sm]
      rw [Nat.succ_mul]; omega
  have a := sum n (n * (4 * B)) (fun i => sm n fun j => if S.testBit j = S.testBit i then 0 else rt T C S i j * ((if k = S then 1 else 0) - (if k = S ^^^ 2 ^ i then 1 else 0))) (fun i hi => sum n (4 * B) _ (fun j hj => one i j hi hj))
  refine Nat.le_trans a ?_
  calc n * (n * (4 * B)) ≤ 4 * (4 * (4 * B)) := Nat.mul_le_mul n4 (Nat.mul_le_mul_right _ n4)
    _ = 64 * B := by omega
/-! solutions -/
/-- lots' values: 0, the inner ones, e -/
def lotF (n : Nat) (X : Nat → Int) (e : Int) (S : Nat) : Int := if S = 0 then 0 else if S = 2 ^ n - 1 then e else X (S - 1)
theorem lop_in {S : Nat} (n2 : 2 ≤ n) (h0 : 0 < S) (h1 : S < 2 ^ n - 1) (X : Nat → Int) (e : Int) : Lop n T C (lotF n X e) S = sm (2 ^ n - 2) (fun c => at2 (wM n T C) (S - 1) c * X c) + winE n T C S (2 ^ n - 1) * e := by
  have p4 : 4 ≤ 2 ^ n := Nat.pow_le_pow_right (n := 2) (by decide) n2
  rw [← win_sum (by omega)]
  have sp := sm_split 1 (2 ^ n - 2 + 1) (fun k => winE n T C S k * lotF n X e k)
  rw [show 1 + (2 ^ n - 2 + 1) = 2 ^ n by omega] at sp
  rw [sp]
  have z : sm 1 (fun k => winE n T C S k * lotF n X e k) = 0 := by
    show 0 + winE n T C S 0 * lotF n X e 0 = 0
    unfold lotF
    rw [if_pos rfl]; omega
  rw [z]
  show 0 + (sm (2 ^ n - 2) (fun i => winE n T C S (1 + i) * lotF n X e (1 + i)) + winE n T C S (1 + (2 ^ n - 2)) * lotF n X e (1 + (2 ^ n - 2))) = _
  have l : lotF n X e (1 + (2 ^ n - 2)) = e := by
    unfold lotF
    rw [if_neg (by omega), if_pos (by omega)]
  rw [l, show 1 + (2 ^ n - 2) = 2 ^ n - 1 by omega, sm_congr (g := fun c => at2 (wM n T C) (S - 1) c * X c) (fun c hc => by
    unfold wM
    rw [tab_at (by omega) hc, show S - 1 + 1 = S by omega, Nat.add_comm 1 c]
    unfold lotF
    rw [if_neg (by omega), if_neg (by omega), show c + 1 - 1 = c by omega])]
  omega
end
end Cr
namespace Cr
/-! ### the says -/
theorem solX_le {A : Nat → Nat → Int} {m B D : Nat} (hm : m ≤ 15) (D1 : 1 ≤ B) (hA : ∀ r j, r < m → j < m → (A r j).natAbs ≤ B) (hb : ∀ r, r < m → (A r m).natAbs ≤ D) (i : Nat) (hi : i < m) : (solX A m i).natAbs ≤ 16 * (D * (16 * B) ^ m) := by
  refine mn_le (B := B) (D := D) hm (fun r hr j hj => ?_) (fun r hr => ?_)
  · unfold rp
    by_cases e : r = m
    · rw [if_pos e]; split
      · show 1 ≤ B; exact D1
      · show 0 ≤ B; exact Nat.zero_le _
    · rw [if_neg e]; exact hA r j (by omega) hj
  · unfold rp
    by_cases e : r = m
    · rw [if_pos e, if_neg (by omega)]; exact Nat.zero_le _
    · rw [if_neg e]; exact hb r (by omega)
def sMt (n : Nat) (T : Nat → Nat → Int) : List (List Int) := (List.range n).map fun j => (List.range n).map fun i => sayM n T j i
def sbs (n : Nat) : List Int := (List.range n).map fun j => if j + 1 = n then 1 else 0
theorem sbs_get {n r : Nat} (h : r < n) : (sbs n).getD r 0 = if r + 1 = n then 1 else 0 := getD_of (by unfold sbs; rw [List.getElem?_map, List.getElem?_range h]; rfl)
theorem sm_abs {c : Nat} : ∀ (m : Nat) (f : Nat → Int), (∀ i, i < m → (f i).natAbs ≤ c) → (sm m f).natAbs ≤ m * c
  | 0, f, h => by simp [sm]
  | m + 1, f, h => by
    have a := sm_abs m f (fun i hi => h i (by omega))
    have := h m (by omega)
    simp only [sm]
    rw [Nat.succ_mul]; omega
section
variable {n : Nat} {T : Nat → Nat → Int}
theorem say_le (n4 : n ≤ 4) (n1 : 0 < n) (hT : ∀ i j, i < n → j < n → 0 ≤ T i j ∧ T i j < 2 ^ 16) {r j : Nat} (hr : r < n) (hj : j < n) : (sayM n T r j).natAbs ≤ 2 ^ 25 := by
  unfold sayM
  split
  · decide
  · split
    · rw [Int.natAbs_neg]
      refine Nat.le_trans (sm_abs (c := 2 ^ 16) n (T r) (fun i hi => by have := hT r i hr hi; omega)) ?_
      exact Nat.le_trans (Nat.mul_le_mul_right _ n4) (by decide)
    · have := hT j r hj hr; omega
theorem say_sv (n2 : 2 ≤ n) (n4 : n ≤ 4) (L : Lkd n T) (hT : ∀ i j, i < n → j < n → 0 ≤ T i j ∧ T i j < 2 ^ 16) (Td : ∀ i, i < n → T i i = 0) : SvOk (sMt n T) (sbs n) n := by
  refine svOk_of (tab_sq _ _) (by unfold sbs; rw [List.length_map, List.length_range]) (by omega) (by omega) ?_ (fun r j hr hj => ?_) (fun r hr => ?_)
  · intro k hk γ hγ
    refine lk_say (by omega) L (fun i j hi hj => (hT i j hi hj).1) Td k hk γ fun j hj => ?_
    rw [← hγ j hj]
    exact sm_congr fun r hr => by
      unfold sMt
      rw [tab_at (by omega) (by omega)]
  · unfold sMt
    rw [tab_at hr hj]
    exact say_le n4 (by omega) hT hr hj
  · rw [sbs_get hr]
    split
    · exact Nat.le_trans (by decide : (1 : Int).natAbs ≤ 1) (by decide +kernel)
    · exact Nat.zero_le _
def sX (n : Nat) (T : Nat → Nat → Int) (i : Nat) : Int := svX (sMt n T) (sbs n) n i
def sB (n : Nat) (T : Nat → Nat → Int) : Int := svB (sMt n T) (sbs n) n
theorem sX_le (n2 : 2 ≤ n) (n4 : n ≤ 4) (hT : ∀ i j, i < n → j < n → 0 ≤ T i j ∧ T i j < 2 ^ 16) {i : Nat} (hi : i < n) : (sX n T i).natAbs ≤ 2 ^ 120 := by
  have s : Sqm n (sMt n T) := tab_sq _ _
  have lb : (sbs n).length = n := by unfold sbs; rw [List.length_map, List.length_range]
  have := solX_le (A := at2 (wk (sMt n T) (sbs n))) (B := 2 ^ 25) (D := 1) (m := n) (by omega) (by decide) (fun r j hr hj => by
    rw [wk_at s lb hr hj]
    unfold sMt
    rw [tab_at hr hj]
    exact say_le n4 (by omega) hT hr hj) (fun r hr => by
    rw [wk_rt s lb hr, sbs_get hr]
    split <;> decide) i hi
  have big : 16 * (1 * (16 * 2 ^ 25) ^ n) ≤ 2 ^ 120 := by
    have : (16 * 2 ^ 25) ^ n ≤ (16 * 2 ^ 25) ^ 4 := Nat.pow_le_pow_right (by decide) n4
    calc 16 * (1 * (16 * 2 ^ 25) ^ n) ≤ 16 * (1 * (16 * 2 ^ 25) ^ 4) := Nat.mul_le_mul_left _ (Nat.mul_le_mul_left _ this)
      _ ≤ 2 ^ 120 := by decide +kernel
  unfold sX svX
  split
  · rw [Int.natAbs_neg]; omega
  · omega
theorem sX_eqs (n2 : 2 ≤ n) (n4 : n ≤ 4) (L : Lkd n T) (hT : ∀ i j, i < n → j < n → 0 ≤ T i j ∧ T i j < 2 ^ 16) (Td : ∀ i, i < n → T i i = 0) : Bal n T (sX n T) ∧ sm n (sX n T) = sB n T ∧ 0 < sB n T ∧ ∀ i, i < n → 0 < sX n T i := by
  have sv := say_sv n2 n4 L hT Td
  have e : ∀ r, r < n → sm n (fun i => sayM n T r i * sX n T i) = sB n T * (if r + 1 = n then 1 else 0) := fun r hr => by
    have := sv.eqs hr
    rw [sbs_get hr] at this
    rw [show sB n T = svB (sMt n T) (sbs n) n from rfl, ← this]
    exact sm_congr fun i hi => by
      unfold sMt
      rw [tab_at hr hi]; rfl
  have pos : 0 < sB n T := sv.pos
  have bal : Bal n T (sX n T) := bal_of fun j hj => by
    have := e j (by omega)
    rw [if_neg (by omega)] at this
    have e2 : sm n (fun i => sayM n T j i * sX n T i) = sm n (fun i => sX n T i * T i j - (if i = j then sm n (T j) * sX n T j else 0)) := sm_congr fun i hi => by
      unfold sayM
      rw [if_neg (by omega)]
      by_cases z : i = j
      · subst z
        rw [if_pos rfl, if_pos rfl, Td i hi]; grind
      · rw [if_neg z, if_neg z]; grind
    rw [e2, sm_sub, sm_one (k := j) (by omega) (fun i hi ne => if_neg ne), if_pos rfl] at this
    grind
  have tot : sm n (sX n T) = sB n T := by
    have := e (n - 1) (by omega)
    rw [if_pos (by omega)] at this
    rw [← Int.mul_one (sB n T), ← this]
    exact sm_congr fun i hi => by
      unfold sayM
      rw [if_pos (by omega)]; omega
  refine ⟨bal, tot, pos, ?_⟩
  obtain ⟨k, hk, pk⟩ : ∃ k, k < n ∧ 0 < sX n T k := Classical.byContradiction fun z => by
    have : sm n (fun i => - sX n T i) ≥ 0 := sm_nonneg fun i hi => by
      have : ¬ 0 < sX n T i := fun y => z ⟨i, hi, y⟩
      omega
    rw [sm_neg] at this
    omega
  exact bal_pos L (fun i j hi hj => (hT i j hi hj).1) bal k hk pk
/-! the greatest common divisor of them -/
def gcdL (X : Nat → Int) : Nat → Nat
  | 0 => 0
  | k + 1 => Nat.gcd (gcdL X k) (X k).natAbs
theorem gcdL_dvd (X : Nat → Int) : ∀ k i, i < k → gcdL X k ∣ (X i).natAbs
  | k + 1, i, h => by
    by_cases e : i = k
    · rw [e]; exact Nat.gcd_dvd_right _ _
    · exact Nat.dvd_trans (Nat.gcd_dvd_left _ _) (gcdL_dvd X k i (by omega))
theorem gcdL_pos {X : Nat → Int} {k : Nat} (h : 0 < k) (hX : ∀ i, i < k → 0 < X i) : 0 < gcdL X k := by
  refine Nat.pos_of_ne_zero fun z => ?_
  have := gcdL_dvd X k 0 h
  rw [z] at this
  have := Nat.eq_zero_of_zero_dvd this
  have := hX 0 h
  omega
theorem gcdL_le {X : Nat → Int} {k b : Nat} (h : 0 < k) (hX : ∀ i, i < k → 0 < X i) (hb : (X 0).natAbs ≤ b) : gcdL X k ≤ b := Nat.le_trans (Nat.le_of_dvd (by have := hX 0 h; omega) (gcdL_dvd X k 0 h)) hb
/-- the numbers -/
def sNum (n : Nat) (T : Nat → Nat → Int) (i : Nat) : Int := (sX n T i).fdiv (gcdL (sX n T) n : Nat)
theorem sNum_mul (n1 : 0 < n) (h : ∀ i, i < n → 0 < sX n T i) {i : Nat} (hi : i < n) : sNum n T i * (gcdL (sX n T) n : Nat) = sX n T i := by
  have g := gcdL_pos n1 h
  obtain ⟨c, hc⟩ := gcdL_dvd (sX n T) n i hi
  have p := h i hi
  have e : sX n T i = ((gcdL (sX n T) n : Nat) : Int) * (c : Int) := by
    have : ((sX n T i).natAbs : Int) = sX n T i := by omega
    rw [← this, hc]; push_cast; rfl
  unfold sNum
  generalize (gcdL (sX n T) n) = gg at *
  rw [e, Int.mul_fdiv_cancel_left _ (by omega)]
  grind
/-- what of the numbers is used -/
structure SayOk (n : Nat) (T : Nat → Nat → Int) (z : Nat → Int) : Prop where
  bal : Bal n T z
  pos : ∀ i, i < n → 0 < z i
  le : ∀ i, i < n → (z i).natAbs ≤ 2 ^ 120
theorem sNum_ok (n2 : 2 ≤ n) (n4 : n ≤ 4) (L : Lkd n T) (hT : ∀ i j, i < n → j < n → 0 ≤ T i j ∧ T i j < 2 ^ 16) (Td : ∀ i, i < n → T i i = 0) : SayOk n T (sNum n T) := by
  obtain ⟨bal, tot, pos, px⟩ := sX_eqs n2 n4 L hT Td
  have g := gcdL_pos (by omega) px
  have mul := fun i hi => sNum_mul (T := T) (n := n) (i := i) (by omega) px hi
  have pn : ∀ i, i < n → 0 < sNum n T i := fun i hi => by
    have a := mul i hi
    have b := px i hi
    refine Int.lt_of_not_ge fun z => ?_
    have : sNum n T i * (gcdL (sX n T) n : Nat) ≤ 0 := Int.mul_nonpos_of_nonpos_of_nonneg z (by omega)
    omega
  refine ⟨fun j hj => ?_, pn, fun i hi => ?_⟩
  · have e := bal j hj
    rw [← mul j hj, sm_congr (g := fun i => (sNum n T i * T i j) * (gcdL (sX n T) n : Nat)) (fun i hi => by rw [← mul i hi]; grind), sm_mulr] at e
    have : (sm n (fun i => sNum n T i * T i j) - sNum n T j * sm n (T j)) * (gcdL (sX n T) n : Nat) = 0 := by grind
    rcases Int.mul_eq_zero.mp this with z | z
    · omega
    · omega
  · have a := mul i hi
    have b := pn i hi
    have c := sX_le n2 n4 hT hi
    have : sNum n T i * 1 ≤ sNum n T i * (gcdL (sX n T) n : Nat) := Int.mul_le_mul_of_nonneg_left (by omega) (by omega)
    omega
end
end Cr
namespace Cr
/-! ### rises -/
def sid (n : Nat) (C : Nat → Nat → Int) (z : Nat → Int) (S : Nat) : Int := sm n fun i => sm n fun j => if S.testBit j = true ∧ S.testBit i = false then C i j * z i else 0
theorem sid_le {n : Nat} {C : Nat → Nat → Int} {z : Nat → Int} (n4 : n ≤ 4) (hC : ∀ i j, i < n → j < n → 0 ≤ C i j ∧ C i j < 2 ^ 16) (hz : ∀ i, i < n → (z i).natAbs ≤ 2 ^ 120) (S : Nat) : (sid n C z S).natAbs ≤ 2 ^ 145 := by
  have a := sm_abs (c := n * (2 ^ 16 * 2 ^ 120)) n (fun i => sm n fun j => if S.testBit j = true ∧ S.testBit i = false then C i j * z i else 0) (fun i hi => sm_abs (c := 2 ^ 16 * 2 ^ 120) n _ (fun j hj => by
    split
    · rw [Int.natAbs_mul]
      refine Nat.mul_le_mul ?_ (hz i hi)
      have := hC i j hi hj
      omega
    · exact Nat.zero_le _))
  refine Nat.le_trans a ?_
  calc n * (n * (2 ^ 16 * 2 ^ 120)) ≤ 4 * (4 * (2 ^ 16 * 2 ^ 120)) := Nat.mul_le_mul n4 (Nat.mul_le_mul_right _ n4)
    _ ≤ 2 ^ 145 := by decide +kernel
theorem and_bits : ∀ S : Nat, S < 16 → ∀ i : Nat, i < 4 → ∀ j : Nat, j < 4 → (((S >>> j) - ((S >>> j) &&& (S >>> i))) &&& 1) = if S.testBit j = true ∧ S.testBit i = false then 1 else 0 := by decide +kernel
end Cr
namespace Cr
/-! ### win less says is rise -/
section
variable {n : Nat} {T C : Nat → Nat → Int}
theorem lop_lin (a b : Int) (f g : Nat → Int) (S : Nat) : Lop n T C (fun S => a * f S - b * g S) S = a * Lop n T C f S - b * Lop n T C g S := by
  unfold Lop
  rw [← dif_mul, ← dif_mul, ← dif_sub]
  exact dif_congr fun i j _ _ _ => by grind
theorem lop_neg (f : Nat → Int) (S : Nat) : Lop n T C (fun S => - f S) S = - Lop n T C f S := by
  have := lop_lin (n := n) (T := T) (C := C) 0 1 f f S
  have e : (fun S => (0 : Int) * f S - 1 * f S) = fun S => - f S := by funext S; omega
  rw [e] at this
  rw [this]; omega
theorem bit_out {S : Nat} (hS : S < 2 ^ n) (h : S ≠ 2 ^ n - 1) : ∃ i, i < n ∧ S.testBit i = false := by
  refine Classical.byContradiction fun c => h ?_
  refine Nat.eq_of_testBit_eq fun i => ?_
  rw [Nat.testBit_two_pow_sub_one]
  by_cases hi : i < n
  · rw [decide_eq_true hi]
    cases hb : S.testBit i
    · exact absurd ⟨i, hi, hb⟩ c
    · rfl
  · rw [decide_eq_false hi]
    exact Nat.testBit_lt_two_pow (Nat.lt_of_lt_of_le hS (Nat.pow_le_pow_right (by decide) (by omega)))
theorem bit_in {S : Nat} (hS : S < 2 ^ n) (h : S ≠ 0) : ∃ i, i < n ∧ S.testBit i = true := by
  refine Classical.byContradiction fun c => h ?_
  refine Nat.eq_of_testBit_eq fun i => ?_
  rw [Nat.zero_testBit]
  by_cases hi : i < n
  · cases hb : S.testBit i
    · rfl
    · exact absurd ⟨i, hi, hb⟩ c
  · exact Nat.testBit_lt_two_pow (Nat.lt_of_lt_of_le hS (Nat.pow_le_pow_right (by decide) (by omega)))
variable (n4 : n ≤ 4) (L : Lkd n T) (T0 : ∀ i j, i < n → j < n → 0 ≤ T i j) (C0 : ∀ i j, i < n → j < n → 0 ≤ C i j)
include T0 C0 in
theorem rt_nonneg (S : Nat) {i j : Nat} (hi : i < n) (hj : j < n) : 0 ≤ rt T C S i j := by
  have := T0 i j hi hj
  have := C0 i j hi hj
  unfold rt
  split <;> omega
include T0 C0 in
theorem rt_pos (S : Nat) {i j : Nat} (hi : i < n) (hj : j < n) (h : 0 < T i j) : 0 < rt T C S i j := by
  have := C0 i j hi hj
  unfold rt
  split <;> omega
theorem dif_zero (S : Nat) : dif n S (fun _ _ => 0) = 0 := sm_zero fun i _ => sm_zero fun j _ => by split <;> rfl
include T0 C0 in
/-- at a least value the operator is not above 0; below it where a neighbour is greater -/
theorem lop_low {f : Nat → Int} {S : Nat} (hS : S < 2 ^ n) (h : ∀ U, U < 2 ^ n → f S ≤ f U) : Lop n T C f S ≤ 0 ∧ ∀ i j, i < n → j < n → S.testBit j ≠ S.testBit i → 0 < T i j → f S < f (S ^^^ 2 ^ i) → Lop n T C f S < 0 := by
  have le : ∀ i j, i < n → j < n → S.testBit j ≠ S.testBit i → rt T C S i j * (f S - f (S ^^^ 2 ^ i)) ≤ 0 := fun i j hi hj _ =>
    Int.mul_nonpos_of_nonneg_of_nonpos (rt_nonneg T0 C0 S hi hj) (by have := h _ (xor_lt hS hi); omega)
  constructor
  · have := dif_le (n := n) (S := S) (h := fun _ _ => 0) le
    rw [dif_zero] at this
    exact this
  · intro i j hi hj ne t l
    have := dif_lt (n := n) (S := S) (h := fun _ _ => 0) le hi hj ne (Int.mul_neg_of_pos_of_neg (rt_pos T0 C0 S hi hj t) (by omega))
    rw [dif_zero] at this
    exact this
include n4 L T0 C0 in
theorem min_pr {f : Nat → Int} (h0 : f 0 = 0) (h1 : f (2 ^ n - 1) = 0) (h : ∀ S, 0 < S → S < 2 ^ n - 1 → 0 ≤ Lop n T C f S) : ∀ S, S < 2 ^ n → 0 ≤ f S := by
  have p0 : 0 < 2 ^ n := Nat.two_pow_pos n
  obtain ⟨S0, hS0, low⟩ := ex_max p0 (fun S => - f S)
  obtain ⟨S1, hS1, e1, last⟩ := ex_last (n := 2 ^ n) (fun S => f S = f S0) ⟨S0, hS0, rfl⟩
  intro S hS
  refine Classical.byContradiction fun c => ?_
  have lS := low S hS
  have neg : f S1 < 0 := by omega
  have z0 : S1 ≠ 0 := fun z => by rw [z, h0] at neg; omega
  have z1 : S1 ≠ 2 ^ n - 1 := fun z => by rw [z, h1] at neg; omega
  obtain ⟨i0, hi0, b0⟩ := bit_out hS1 z1
  obtain ⟨j0, hj0, b1⟩ := bit_in hS1 z0
  obtain ⟨i, j, hi, hj, pi, pj, t⟩ := L (fun i => !S1.testBit i) ⟨i0, hi0, by simp [b0]⟩ ⟨j0, hj0, by simp [b1]⟩
  have bi : S1.testBit i = false := by simpa using pi
  have bj : S1.testBit j = true := by simpa using pj
  have up : S1 ^^^ 2 ^ i = S1 + 2 ^ i := xor_up S1 (Nat.lt_of_lt_of_le hS1 (Nat.pow_le_pow_right (n := 2) (by decide) n4)) i (by omega) bi
  have pp : 0 < 2 ^ i := Nat.two_pow_pos i
  have hl := xor_lt hS1 hi
  have ne := last (S1 ^^^ 2 ^ i) hl (by omega)
  have ge := low _ hl
  have := (lop_low (f := f) T0 C0 hS1 (fun U hU => by have := low U hU; omega)).2 i j hi hj (by rw [bi, bj]; decide) t (by omega)
  have := h S1 (by omega) (by omega)
  omega
include n4 L T0 C0 in
theorem lop_uniq {f : Nat → Int} (h0 : f 0 = 0) (h1 : f (2 ^ n - 1) = 0) (h : ∀ S, 0 < S → S < 2 ^ n - 1 → Lop n T C f S = 0) : ∀ S, S < 2 ^ n → f S = 0 := fun S hS => by
  have a := min_pr n4 L T0 C0 h0 h1 (fun S a b => by rw [h S a b]; exact Int.le_refl _) S hS
  have b := min_pr (f := fun S => - f S) n4 L T0 C0 (by omega) (by omega) (fun S a b => by rw [lop_neg, h S a b]; decide) S hS
  omega
/-- the says of a lot -/
def piS (n : Nat) (z : Nat → Int) (S : Nat) : Int := sm n fun k => if S.testBit k = true then z k else 0
theorem piS_zero (z : Nat → Int) : piS n z 0 = 0 := sm_zero fun k _ => by rw [Nat.zero_testBit]; rfl
theorem piS_full (z : Nat → Int) : piS n z (2 ^ n - 1) = sm n z := sm_congr fun k hk => by rw [Nat.testBit_two_pow_sub_one, decide_eq_true hk]; rfl
theorem piS_xor {z : Nat → Int} {S i : Nat} (hi : i < n) : piS n z S - piS n z (S ^^^ 2 ^ i) = if S.testBit i = true then z i else - z i := by
  unfold piS
  rw [← sm_sub, sm_one hi fun k hk ne => by
    rw [Nat.testBit_xor, Nat.testBit_two_pow, decide_eq_false (fun e => ne e.symm), Bool.xor_false]; omega]
  rw [Nat.testBit_xor, Nat.testBit_two_pow, decide_eq_true rfl]
  cases S.testBit i <;> simp
theorem cut_bal {z : Nat → Int} (B : Bal n T z) (S : Nat) : sm n (fun i => sm n fun j => ((if S.testBit i = true then 1 else 0) - (if S.testBit j = true then 1 else 0)) * (z i * T i j)) = 0 := by
  have e : sm n (fun j => (if S.testBit j = true then 1 else 0) * sm n (fun i => z i * T i j)) = sm n (fun j => (if S.testBit j = true then 1 else 0) * sm n (fun k => z j * T j k)) := sm_congr fun j hj => by
    rw [B j hj, sm_mul]
  have e1 : sm n (fun j => (if S.testBit j = true then 1 else 0) * sm n (fun i => z i * T i j)) = sm n (fun i => sm n fun j => (if S.testBit j = true then 1 else 0) * (z i * T i j)) := by
    rw [sm_swap n n fun i j => (if S.testBit j = true then 1 else 0) * (z i * T i j)]
    exact sm_congr fun j _ => (sm_mul n _ _).symm
  have e2 : sm n (fun j => (if S.testBit j = true then 1 else 0) * sm n (fun k => z j * T j k)) = sm n (fun i => sm n fun j => (if S.testBit i = true then 1 else 0) * (z i * T i j)) :=
    sm_congr fun j _ => (sm_mul n _ _).symm
  have e3 : sm n (fun i => sm n fun j => ((if S.testBit i = true then 1 else 0) - (if S.testBit j = true then 1 else 0)) * (z i * T i j)) = sm n (fun i => sm n fun j => (if S.testBit i = true then 1 else 0) * (z i * T i j)) - sm n (fun i => sm n fun j => (if S.testBit j = true then 1 else 0) * (z i * T i j)) := by
    rw [← sm_sub]
    refine sm_congr fun i _ => ?_
    rw [← sm_sub]
    exact sm_congr fun j _ => by grind
  rw [e3, ← e2, ← e1, e]
  omega
theorem lop_piS {z : Nat → Int} (B : Bal n T z) (S : Nat) : Lop n T C (piS n z) S = - sid n C z S := by
  have e : Lop n T C (piS n z) S + sid n C z S = sm n (fun i => sm n fun j => ((if S.testBit i = true then 1 else 0) - (if S.testBit j = true then 1 else 0)) * (z i * T i j)) := by
    unfold Lop dif sid
    rw [← sm_add]
    refine sm_congr fun i hi => ?_
    rw [← sm_add]
    refine sm_congr fun j hj => ?_
    dsimp only
    rw [piS_xor hi]
    unfold rt
    cases hi' : S.testBit i <;> cases hj' : S.testBit j <;> simp <;> grind
  rw [cut_bal B S] at e
  omega
include n4 L T0 C0 in
/-- win less says is rise -/
theorem win_say_rise {z F W : Nat → Int} {b e : Int} (B : Bal n T z) (w0 : W 0 = 0) (w1 : W (2 ^ n - 1) = e) (f0 : F 0 = 0) (f1 : F (2 ^ n - 1) = 0)
    (hW : ∀ S, 0 < S → S < 2 ^ n - 1 → Lop n T C W S = 0) (hF : ∀ S, 0 < S → S < 2 ^ n - 1 → Lop n T C F S = b * sid n C z S) :
    ∀ S, S < 2 ^ n → F S * e = b * (W S * sm n z - piS n z S * e) := by
  have key := lop_uniq (f := fun S => e * F S - b * (sm n z * W S - e * piS n z S)) n4 L T0 C0 (by rw [f0, w0, piS_zero]; grind) (by rw [f1, w1, piS_full]; grind) (fun S a c => by
    rw [lop_lin, lop_lin, hW S a c, hF S a c, lop_piS B]; grind)
  intro S hS
  have := key S hS
  grind
include T0 C0 in
theorem pos_step {f : Nat → Int} (nn : ∀ S, S < 2 ^ n → 0 ≤ f S) {S : Nat} (hS : S < 2 ^ n) (h : 0 ≤ Lop n T C f S) (d : 0 < Lop n T C f S ∨ ∃ i j, i < n ∧ j < n ∧ S.testBit j ≠ S.testBit i ∧ 0 < T i j ∧ 0 < f (S ^^^ 2 ^ i)) : 0 < f S := by
  refine Classical.byContradiction fun c => ?_
  have z : f S = 0 := by have := nn S hS; omega
  obtain ⟨a, b⟩ := lop_low (f := f) T0 C0 hS (fun U hU => by rw [z]; exact nn U hU)
  rcases d with d | ⟨i, j, hi, hj, ne, t, p⟩
  · omega
  · have := b i j hi hj ne t (by omega)
    omega
end
end Cr
namespace Cr
/-! ### from every proper part every look is reached, but on a line -/
def fo {α : Type} (n : Nat) (k : Nat → α) : α := match n with
  | 0 => k 0
  | m + 1 => k (m + 1)
theorem fo_eq {α : Type} (n : Nat) (k : Nat → α) : fo n k = k n := by
  cases n <;> rfl
def Am : Nat → Nat
  | 0 => 43690
  | 1 => 52428
  | 2 => 61680
  | _ => 65280
def Mm : Nat → Nat
  | 0 => 21845
  | 1 => 13107
  | 2 => 3855
  | _ => 255
theorem Am_test : ∀ S, S < 16 → ∀ i, i < 4 → (Am i).testBit S = S.testBit i := by decide +kernel
theorem Mm_test : ∀ S, S < 16 → ∀ i, i < 4 → (Mm i).testBit S = !S.testBit i := by decide +kernel
def orN (f : Nat → Nat) : Nat → Nat
  | 0 => 0
  | m + 1 => orN f m ||| f m
theorem orN_test {f : Nat → Nat} {S : Nat} : ∀ {n : Nat}, (orN f n).testBit S = true ↔ ∃ j, j < n ∧ (f j).testBit S = true
  | 0 => by
    show (0 : Nat).testBit S = true ↔ _
    rw [Nat.zero_testBit]
    constructor
    · intro h; cases h
    · rintro ⟨j, hj, _⟩; omega
  | m + 1 => by
    show (orN f m ||| f m).testBit S = true ↔ _
    rw [Nat.testBit_or, Bool.or_eq_true, orN_test]
    constructor
    · rintro (⟨j, hj, h⟩ | h)
      · exact ⟨j, by omega, h⟩
      · exact ⟨m, by omega, h⟩
    · rintro ⟨j, hj, h⟩
      rcases Nat.lt_succ_iff_lt_or_eq.mp hj with hj | rfl
      · exact .inl ⟨j, hj, h⟩
      · exact .inr h
def alN (p : Nat → Bool) : Nat → Bool
  | 0 => true
  | m + 1 => p m && alN p m
theorem alN_of {p : Nat → Bool} : ∀ {n : Nat}, alN p n = true ↔ ∀ i, i < n → p i = true
  | 0 => ⟨fun _ i h => by omega, fun _ => rfl⟩
  | m + 1 => by
    show (p m && alN p m) = true ↔ _
    rw [Bool.and_eq_true, alN_of]
    constructor
    · rintro ⟨a, b⟩ i hi
      rcases Nat.lt_succ_iff_lt_or_eq.mp hi with hi | rfl
      · exact b i hi
      · exact a
    · exact fun h => ⟨h m (by omega), fun i hi => h i (by omega)⟩
def cnN (p : Nat → Bool) : Nat → Nat
  | 0 => 0
  | m + 1 => cnN p m + if p m = true then 1 else 0
theorem cnN_congr {p q : Nat → Bool} : ∀ {n : Nat}, (∀ i, i < n → p i = q i) → cnN p n = cnN q n
  | 0, _ => rfl
  | m + 1, h => by
    show cnN p m + _ = cnN q m + _
    rw [cnN_congr fun i hi => h i (by omega), h m (by omega)]
def lineT (n : Nat) (t : Nat → Nat → Bool) : Bool := alN (fun i => alN (fun j => !t i j || t j i) n && Nat.ble (cnN (t i) n) 2) n && Nat.beq (cnN (fun i => Nat.beq (cnN (t i) n) 1) n) 2
theorem lineT_congr {n : Nat} {t u : Nat → Nat → Bool} (h : ∀ i j, i < n → j < n → t i j = u i j) : lineT n t = true → lineT n u = true := by
  have d : ∀ i, i < n → cnN (t i) n = cnN (u i) n := fun i hi => cnN_congr fun j hj => h i j hi hj
  unfold lineT
  rw [Bool.and_eq_true, Bool.and_eq_true, alN_of, alN_of]
  rintro ⟨a, b⟩
  refine ⟨fun i hi => ?_, ?_⟩
  · have := a i hi
    rw [Bool.and_eq_true, alN_of] at this ⊢
    refine ⟨fun j hj => ?_, ?_⟩
    · have := this.1 j hj
      rw [h i j hi hj, h j i hj hi] at this
      exact this
    · rw [← d i hi]; exact this.2
  · rw [← cnN_congr (p := fun i => Nat.beq (cnN (t i) n) 1) fun i hi => by rw [d i hi]]
    exact b
def eS (n : Nat) (t : Nat → Nat → Bool) (i : Nat) : Nat := orN (fun j => if t i j = true then Am i ^^^ Am j else 0) n
def flp (i R : Nat) : Nat := ((R >>> 2 ^ i) &&& Mm i) ||| ((R &&& Mm i) <<< 2 ^ i)
def psN (E : Nat → Nat) : Nat → Nat → Nat
  | 0, R => R
  | m + 1, R => fo (psN E m R) fun R => R ||| (flp m R &&& E m)
def clN (n : Nat) (E : Nat → Nat) : Nat → Nat → Nat
  | 0, R => R
  | k + 1, R => fo (psN E n R) fun R => clN n E k R
def fullN (n : Nat) : Nat := 2 ^ (2 ^ n - 1) - 2
def lnkN (n : Nat) (t : Nat → Nat → Bool) : Nat := orN (fun i => orN (fun j => if t i j = true then Mm j &&& Am i else 0) n) n
def pickE (a b c d : Nat) : Nat → Nat
  | 0 => a
  | 1 => b
  | 2 => c
  | _ => d
def reachB (n : Nat) (t : Nat → Nat → Bool) : Bool := fo (fullN n) fun f => (!Nat.beq (f &&& lnkN n t) f) || (lineT n t || fo (eS n t 0) fun a => fo (eS n t 1) fun b => fo (eS n t 2) fun c => fo (eS n t 3) fun d =>
  alN (fun i => alN (fun j => !t i j || fo (Mm i &&& Am j) fun R => Nat.beq (f &&& clN n (pickE a b c d) 4 R) f) n) n)
/-- the table of a number -/
def tC (n c : Nat) (i j : Nat) : Bool := !Nat.beq i j && c.testBit (i * (n - 1) + if j < i then j else j - 1)
theorem reach_2 : alN (fun c => reachB 2 (tC 2 c)) 4 = true := by decide +kernel
theorem reach_3 : alN (fun c => reachB 3 (tC 3 c)) 64 = true := by decide +kernel
theorem reach_4 : alN (fun c => reachB 4 (tC 4 c)) 4096 = true := by decide +kernel
end Cr
namespace Cr
/-! what the finite check tells -/
theorem flp_test {S i R : Nat} (hS : S < 16) (hi : i < 4) (h : (flp i R).testBit S = true) : R.testBit (S ^^^ 2 ^ i) = true := by
  unfold flp at h
  rw [Nat.testBit_or, Bool.or_eq_true] at h
  rcases h with h | h
  · rw [Nat.testBit_and, Nat.testBit_shiftRight, Bool.and_eq_true, Mm_test S hS i hi] at h
    rw [xor_up S hS i hi (by simpa using h.2), Nat.add_comm]
    exact h.1
  · rw [Nat.testBit_shiftLeft, Bool.and_eq_true, Nat.testBit_and, Bool.and_eq_true] at h
    obtain ⟨a, b, c⟩ := h
    have a : 2 ^ i ≤ S := of_decide_eq_true a
    have hU : S - 2 ^ i < 16 := Nat.lt_of_le_of_lt (Nat.sub_le _ _) hS
    rw [Mm_test _ hU i hi] at c
    have u := xor_up _ hU i hi (by simpa using c)
    rw [show S - 2 ^ i + 2 ^ i = S by omega] at u
    rw [← u, Nat.xor_assoc, Nat.xor_self, Nat.xor_zero]
    exact b
section
variable {n : Nat} {t : Nat → Nat → Bool} {Pos : Nat → Prop} (n4 : n ≤ 4)
include n4 in
theorem eS_test {S i : Nat} (hS : S < 2 ^ n) (hi : i < n) (h : (eS n t i).testBit S = true) : ∃ j, j < n ∧ t i j = true ∧ S.testBit j ≠ S.testBit i := by
  have h16 : S < 16 := Nat.lt_of_lt_of_le hS (Nat.pow_le_pow_right (n := 2) (by decide) n4)
  obtain ⟨j, hj, e⟩ := orN_test.mp h
  by_cases z : t i j = true
  · rw [if_pos z, Nat.testBit_xor, Am_test S h16 i (by omega), Am_test S h16 j (by omega)] at e
    exact ⟨j, hj, z, fun y => by rw [y] at e; simp at e⟩
  · rw [if_neg z, Nat.zero_testBit] at e; cases e
variable (step : ∀ i j S, i < n → j < n → t i j = true → S < 2 ^ n → S.testBit j ≠ S.testBit i → Pos (S ^^^ 2 ^ i) → Pos S)
include n4 step in
theorem psN_ok {E : Nat → Nat} (hE : ∀ i, i < n → E i = eS n t i) : ∀ m R, m ≤ n → (∀ S, S < 2 ^ n → R.testBit S = true → Pos S) → ∀ S, S < 2 ^ n → (psN E m R).testBit S = true → Pos S
  | 0, R, _, h, S, hS, e => h S hS e
  | m + 1, R, hm, h, S, hS, e => by
    have ih := psN_ok hE m R (by omega) h
    have h16 : S < 16 := Nat.lt_of_lt_of_le hS (Nat.pow_le_pow_right (n := 2) (by decide) n4)
    unfold psN at e
    rw [fo_eq, Nat.testBit_or, Bool.or_eq_true] at e
    rcases e with e | e
    · exact ih S hS e
    · rw [Nat.testBit_and, Bool.and_eq_true, hE m (by omega)] at e
      obtain ⟨j, hj, tj, ne⟩ := eS_test n4 hS (by omega) e.2
      exact step m j S (by omega) hj tj hS ne (ih _ (xor_lt hS (by omega)) (flp_test h16 (by omega) e.1))
include n4 step in
theorem clN_ok {E : Nat → Nat} (hE : ∀ i, i < n → E i = eS n t i) : ∀ k R, (∀ S, S < 2 ^ n → R.testBit S = true → Pos S) → ∀ S, S < 2 ^ n → (clN n E k R).testBit S = true → Pos S
  | 0, R, h, S, hS, e => h S hS e
  | k + 1, R, h, S, hS, e => by
    unfold clN at e
    rw [fo_eq] at e
    exact clN_ok hE k _ (fun S hS e => psN_ok n4 step hE n R (Nat.le_refl _) h S hS e) S hS e
end
theorem full_test : ∀ n, n < 5 → 2 ≤ n → ∀ S, S < 16 → (fullN n).testBit S = decide (0 < S ∧ S < 2 ^ n - 1) := by decide +kernel
theorem full_lt : ∀ n, n < 5 → fullN n < 2 ^ 16 := by decide +kernel
theorem and_full {n : Nat} (hn : n < 5) (h2 : 2 ≤ n) {R : Nat} (h : ∀ S, 0 < S → S < 2 ^ n - 1 → R.testBit S = true) : fullN n &&& R = fullN n := Nat.eq_of_testBit_eq fun S => by
  rw [Nat.testBit_and]
  by_cases z : S < 16
  · rw [full_test n hn h2 S z]
    by_cases y : 0 < S ∧ S < 2 ^ n - 1
    · rw [decide_eq_true y, h S y.1 y.2]; rfl
    · rw [decide_eq_false y]; rfl
  · rw [Nat.testBit_lt_two_pow (Nat.lt_of_lt_of_le (full_lt n hn) (Nat.pow_le_pow_right (by decide) (by omega)))]; rfl
theorem of_and_full {n : Nat} (hn : n < 5) (h2 : 2 ≤ n) {R S : Nat} (h : fullN n &&& R = fullN n) (h0 : 0 < S) (h1 : S < 2 ^ n - 1) : R.testBit S = true := by
  have h16 : S < 16 := by
    have : 2 ^ n ≤ 16 := Nat.pow_le_pow_right (n := 2) (by decide) (show n ≤ 4 by omega)
    omega
  have e : (fullN n &&& R).testBit S = (fullN n).testBit S := by rw [h]
  rw [Nat.testBit_and, full_test n hn h2 S h16, decide_eq_true ⟨h0, h1⟩, Bool.true_and] at e
  exact e
/-- from one look all is reached -/
theorem reachB_ok {n : Nat} {t : Nat → Nat → Bool} {Pos : Nat → Prop} (n2 : 2 ≤ n) (n4 : n ≤ 4) (hB : reachB n t = true) (nl : lineT n t = false)
    (lk : ∀ S, 0 < S → S < 2 ^ n - 1 → ∃ i j, i < n ∧ j < n ∧ S.testBit i = true ∧ S.testBit j = false ∧ t i j = true)
    {a b : Nat} (ha : a < n) (hb : b < n) (hab : t a b = true) (base : ∀ S, S < 2 ^ n → S.testBit a = false → S.testBit b = true → Pos S)
    (step : ∀ i j S, i < n → j < n → t i j = true → S < 2 ^ n → S.testBit j ≠ S.testBit i → Pos (S ^^^ 2 ^ i) → Pos S) : ∀ S, 0 < S → S < 2 ^ n - 1 → Pos S := by
  intro S h0 h1
  have p16 : 2 ^ n ≤ 16 := Nat.pow_le_pow_right (n := 2) (by decide) n4
  have lf : fullN n &&& lnkN n t = fullN n := and_full (by omega) n2 fun S h0 h1 => by
    obtain ⟨i, j, hi, hj, bi, bj, tt⟩ := lk S h0 h1
    refine orN_test.mpr ⟨i, hi, orN_test.mpr ⟨j, hj, ?_⟩⟩
    rw [if_pos tt, Nat.testBit_and, Mm_test S (by omega) j (by omega), Am_test S (by omega) i (by omega), bi, bj]; rfl
  unfold reachB at hB
  simp only [fo_eq] at hB
  rw [lf, Nat.beq_refl, nl] at hB
  have hB : alN (fun i => alN (fun j => !t i j || Nat.beq (fullN n &&& clN n (pickE (eS n t 0) (eS n t 1) (eS n t 2) (eS n t 3)) 4 (Mm i &&& Am j)) (fullN n)) n) n = true := by simpa using hB
  have z := alN_of.mp (alN_of.mp hB a ha) b hb
  rw [hab] at z
  have z : Nat.beq (fullN n &&& clN n (pickE (eS n t 0) (eS n t 1) (eS n t 2) (eS n t 3)) 4 (Mm a &&& Am b)) (fullN n) = true := by simpa using z
  have z := Nat.eq_of_beq_eq_true z
  have r := of_and_full (by omega) n2 z h0 h1
  refine clN_ok (Pos := Pos) n4 step (fun i hi => ?_) 4 _ (fun U hU e => ?_) S (by omega) r
  · match i, hi with
    | 0, _ => rfl
    | 1, _ => rfl
    | 2, _ => rfl
    | 3, _ => rfl
    | k + 4, h => omega
  · rw [Nat.testBit_and, Mm_test U (by omega) a (by omega), Am_test U (by omega) b (by omega), Bool.and_eq_true] at e
    exact base U hU (by simpa using e.1) e.2
/-! every table has a number -/
def codeB (f : Nat → Bool) : Nat → Nat
  | 0 => 0
  | m + 1 => codeB f m ||| (if f m = true then 2 ^ m else 0)
theorem codeB_test {f : Nat → Bool} : ∀ m k, (codeB f m).testBit k = (decide (k < m) && f k)
  | 0, k => by show (0 : Nat).testBit k = _; rw [Nat.zero_testBit, decide_eq_false (Nat.not_lt_zero k)]; rfl
  | m + 1, k => by
    show (codeB f m ||| (if f m = true then 2 ^ m else 0)).testBit k = _
    rw [Nat.testBit_or, codeB_test m k]
    by_cases h : k = m
    · subst h
      rw [decide_eq_false (Nat.lt_irrefl k), decide_eq_true (Nat.lt_succ_self k)]
      cases z : f k
      · rw [if_neg (by decide), Nat.zero_testBit]; rfl
      · rw [if_pos rfl, Nat.testBit_two_pow_self]; rfl
    · have e : (if f m = true then 2 ^ m else 0).testBit k = false := by
        split
        · rw [Nat.testBit_two_pow]; exact decide_eq_false (fun z => h z.symm)
        · exact Nat.zero_testBit k
      rw [e, Bool.or_false]
      by_cases y : k < m
      · rw [decide_eq_true y, decide_eq_true (show k < m + 1 by omega)]
      · rw [decide_eq_false y, decide_eq_false (show ¬ k < m + 1 by omega)]
theorem codeB_lt (f : Nat → Bool) (m : Nat) : codeB f m < 2 ^ m := Nat.lt_pow_two_of_testBit _ fun k hk => by
  rw [codeB_test, decide_eq_false (by omega)]; rfl
def kIx (n i j : Nat) : Nat := i * (n - 1) + if j < i then j else j - 1
def kFn (n : Nat) (t : Nat → Nat → Bool) (k : Nat) : Bool := t (k / (n - 1)) (if k % (n - 1) < k / (n - 1) then k % (n - 1) else k % (n - 1) + 1)
def kOk (n i j : Nat) : Prop := kIx n i j < n * (n - 1) ∧ kIx n i j / (n - 1) = i ∧ (if kIx n i j % (n - 1) < kIx n i j / (n - 1) then kIx n i j % (n - 1) else kIx n i j % (n - 1) + 1) = j
instance (n i j : Nat) : Decidable (kOk n i j) := by unfold kOk; infer_instance
theorem kIx_2 : ∀ i, i < 2 → ∀ j, j < 2 → i = j ∨ kOk 2 i j := by decide +kernel
theorem kIx_3 : ∀ i, i < 3 → ∀ j, j < 3 → i = j ∨ kOk 3 i j := by decide +kernel
theorem kIx_4 : ∀ i, i < 4 → ∀ j, j < 4 → i = j ∨ kOk 4 i j := by decide +kernel
theorem kIx_ok {n : Nat} (n4 : n ≤ 4) (n2 : 2 ≤ n) {i j : Nat} (hi : i < n) (hj : j < n) (ne : i ≠ j) : kOk n i j := by
  have : n = 2 ∨ n = 3 ∨ n = 4 := by omega
  rcases this with rfl | rfl | rfl
  · exact (kIx_2 i hi j hj).resolve_left ne
  · exact (kIx_3 i hi j hj).resolve_left ne
  · exact (kIx_4 i hi j hj).resolve_left ne
theorem tC_code {n : Nat} (n2 : 2 ≤ n) (n4 : n ≤ 4) {t : Nat → Nat → Bool} (td : ∀ i, i < n → t i i = false) {i j : Nat} (hi : i < n) (hj : j < n) : tC n (codeB (kFn n t) (n * (n - 1))) i j = t i j := by
  unfold tC
  by_cases e : i = j
  · subst e
    rw [Nat.beq_refl, td i hi]; rfl
  · obtain ⟨a, b, c⟩ := kIx_ok n4 n2 hi hj e
    have bq : Nat.beq i j = false := by
      cases z : Nat.beq i j
      · rfl
      · exact absurd (Nat.eq_of_beq_eq_true z) e
    rw [bq]
    show (codeB (kFn n t) (n * (n - 1))).testBit (kIx n i j) = t i j
    rw [codeB_test, decide_eq_true a, Bool.true_and]
    unfold kFn
    rw [c, b]
theorem reach_all {n c : Nat} (n2 : 2 ≤ n) (n4 : n ≤ 4) (h : c < 2 ^ (n * (n - 1))) : reachB n (tC n c) = true := by
  have : n = 2 ∨ n = 3 ∨ n = 4 := by omega
  rcases this with rfl | rfl | rfl
  · exact alN_of.mp reach_2 c h
  · exact alN_of.mp reach_3 c h
  · exact alN_of.mp reach_4 c h
theorem reach_pos {n : Nat} {t : Nat → Nat → Bool} {Pos : Nat → Prop} (n2 : 2 ≤ n) (n4 : n ≤ 4) (td : ∀ i, i < n → t i i = false) (nl : lineT n t = false)
    (lk : ∀ S, 0 < S → S < 2 ^ n - 1 → ∃ i j, i < n ∧ j < n ∧ S.testBit i = true ∧ S.testBit j = false ∧ t i j = true)
    {a b : Nat} (ha : a < n) (hb : b < n) (hab : t a b = true) (base : ∀ S, S < 2 ^ n → S.testBit a = false → S.testBit b = true → Pos S)
    (step : ∀ i j S, i < n → j < n → t i j = true → S < 2 ^ n → S.testBit j ≠ S.testBit i → Pos (S ^^^ 2 ^ i) → Pos S) : ∀ S, 0 < S → S < 2 ^ n - 1 → Pos S := by
  have e : ∀ i j, i < n → j < n → tC n (codeB (kFn n t) (n * (n - 1))) i j = t i j := fun i j hi hj => tC_code n2 n4 td hi hj
  refine reachB_ok n2 n4 (reach_all n2 n4 (codeB_lt _ _)) ?_ (fun S h0 h1 => ?_) ha hb (by rw [e a b ha hb]; exact hab) base (fun i j S hi hj tt => step i j S hi hj (by rw [← e i j hi hj]; exact tt))
  · cases z : lineT n (tC n (codeB (kFn n t) (n * (n - 1))))
    · rfl
    · rw [lineT_congr e z] at nl; cases nl
  · obtain ⟨i, j, hi, hj, bi, bj, tt⟩ := lk S h0 h1
    exact ⟨i, j, hi, hj, bi, bj, by rw [e i j hi hj]; exact tt⟩
end Cr
namespace Cy
open L2 PySem PySem.Spec PyProof.Rows
def top (i : Nat) : Stmt := PySem.Challenge.pw_copyrates_k36_whole_effective_calls_weig.main.body.getD i (.Pass ⟨0, 0, 0, 0⟩)
abbrev s_is_whole : Stmt := top 14
def d_is_whole : He.DefD := ⟨("is_whole", none), "is_whole", "is_whole", defArgs s_is_whole, defBody s_is_whole, defScope s_is_whole, [], []⟩
abbrev s__ratios_lowest : Stmt := top 15
def d__ratios_lowest : He.DefD := ⟨("_ratios_lowest", none), "_ratios_lowest", "_ratios_lowest", defArgs s__ratios_lowest, defBody s__ratios_lowest, defScope s__ratios_lowest, [], []⟩
abbrev s_ratio : Stmt := top 16
def d_ratio : He.DefD := ⟨("ratio", none), "ratio", "ratio", defArgs s_ratio, defBody s_ratio, defScope s_ratio, [.int 1], []⟩
abbrev s_grades_of : Stmt := top 18
def d_grades_of : He.DefD := ⟨("grades_of", none), "grades_of", "grades_of", defArgs s_grades_of, defBody s_grades_of, defScope s_grades_of, [], []⟩
abbrev s__lots_size : Stmt := top 20
def d__lots_size : He.DefD := ⟨("_lots_size", none), "_lots_size", "_lots_size", defArgs s__lots_size, defBody s__lots_size, defScope s__lots_size, [], []⟩
abbrev s_bits_of : Stmt := top 22
def d_bits_of : He.DefD := ⟨("bits_of", none), "bits_of", "bits_of", defArgs s_bits_of, defBody s_bits_of, defScope s_bits_of, [], []⟩
abbrev s_lot_from : Stmt := top 23
def d_lot_from : He.DefD := ⟨("lot_from", none), "lot_from", "lot_from", defArgs s_lot_from, defBody s_lot_from, defScope s_lot_from, [], []⟩
abbrev s_lot_of : Stmt := top 24
def d_lot_of : He.DefD := ⟨("lot_of", none), "lot_of", "lot_of", defArgs s_lot_of, defBody s_lot_of, defScope s_lot_of, [], []⟩
abbrev s_number_of : Stmt := top 25
def d_number_of : He.DefD := ⟨("number_of", none), "number_of", "number_of", defArgs s_number_of, defBody s_number_of, defScope s_number_of, [], []⟩
abbrev s__linking_looks : Stmt := top 27
def d__linking_looks : He.DefD := ⟨("_linking_looks", none), "_linking_looks", "_linking_looks", defArgs s__linking_looks, defBody s__linking_looks, defScope s__linking_looks, [], []⟩
abbrev s__linking_reached : Stmt := top 28
def d__linking_reached : He.DefD := ⟨("_linking_reached", none), "_linking_reached", "_linking_reached", defArgs s__linking_reached, defBody s__linking_reached, defScope s__linking_reached, [], []⟩
abbrev s_shut_lot : Stmt := top 29
def d_shut_lot : He.DefD := ⟨("shut_lot", none), "shut_lot", "shut_lot", defArgs s_shut_lot, defBody s_shut_lot, defScope s_shut_lot, [], []⟩
abbrev s_need_linked : Stmt := top 30
def d_need_linked : He.DefD := ⟨("need_linked", none), "need_linked", "need_linked", defArgs s_need_linked, defBody s_need_linked, defScope s_need_linked, [], []⟩
abbrev s_heads : Stmt := top 31
def d_heads : He.DefD := ⟨("heads", none), "heads", "heads", defArgs s_heads, defBody s_heads, defScope s_heads, [], []⟩
abbrev s_need_one_head : Stmt := top 32
def d_need_one_head : He.DefD := ⟨("need_one_head", none), "need_one_head", "need_one_head", defArgs s_need_one_head, defBody s_need_one_head, defScope s_need_one_head, [], []⟩
abbrev s__solving_pivot : Stmt := top 34
def d__solving_pivot : He.DefD := ⟨("_solving_pivot", none), "_solving_pivot", "_solving_pivot", defArgs s__solving_pivot, defBody s__solving_pivot, defScope s__solving_pivot, [], []⟩
abbrev s_solved : Stmt := top 35
def d_solved : He.DefD := ⟨("solved", none), "solved", "solved", defArgs s_solved, defBody s_solved, defScope s_solved, [], []⟩
abbrev s__worlds_row : Stmt := top 37
def d__worlds_row : He.DefD := ⟨("_worlds_row", none), "_worlds_row", "_worlds_row", defArgs s__worlds_row, defBody s__worlds_row, defScope s__worlds_row, [], []⟩
abbrev s__worlds_takes : Stmt := top 38
def d__worlds_takes : He.DefD := ⟨("_worlds_takes", none), "_worlds_takes", "_worlds_takes", defArgs s__worlds_takes, defBody s__worlds_takes, defScope s__worlds_takes, [], []⟩
abbrev s__worlds_calls : Stmt := top 39
def d__worlds_calls : He.DefD := ⟨("_worlds_calls", none), "_worlds_calls", "_worlds_calls", defArgs s__worlds_calls, defBody s__worlds_calls, defScope s__worlds_calls, [], []⟩
abbrev s__worlds_ties : Stmt := top 42
def d__worlds_ties : He.DefD := ⟨("_worlds_ties", none), "_worlds_ties", "_worlds_ties", defArgs s__worlds_ties, defBody s__worlds_ties, defScope s__worlds_ties, [], []⟩
abbrev s_need_small : Stmt := top 44
def d_need_small : He.DefD := ⟨("need_small", none), "need_small", "need_small", defArgs s_need_small, defBody s_need_small, defScope s_need_small, [], []⟩
abbrev s__win_equation : Stmt := top 46
def d__win_equation : He.DefD := ⟨("_win_equation", none), "_win_equation", "_win_equation", defArgs s__win_equation, defBody s__win_equation, defScope s__win_equation, [], []⟩
abbrev s_win_equations : Stmt := top 47
def d_win_equations : He.DefD := ⟨("win_equations", none), "win_equations", "win_equations", defArgs s_win_equations, defBody s_win_equations, defScope s_win_equations, [], []⟩
abbrev s_win_tops : Stmt := top 48
def d_win_tops : He.DefD := ⟨("win_tops", none), "win_tops", "win_tops", defArgs s_win_tops, defBody s_win_tops, defScope s_win_tops, [], []⟩
abbrev s_win_row : Stmt := top 49
def d_win_row : He.DefD := ⟨("win_row", none), "win_row", "win_row", defArgs s_win_row, defBody s_win_row, defScope s_win_row, [], []⟩
abbrev s_say_numbers : Stmt := top 51
def d_say_numbers : He.DefD := ⟨("say_numbers", none), "say_numbers", "say_numbers", defArgs s_say_numbers, defBody s_say_numbers, defScope s_say_numbers, [], []⟩
abbrev s__rise_need : Stmt := top 53
def d__rise_need : He.DefD := ⟨("_rise_need", none), "_rise_need", "_rise_need", defArgs s__rise_need, defBody s__rise_need, defScope s__rise_need, [], []⟩
abbrev s__rise_tops : Stmt := top 54
def d__rise_tops : He.DefD := ⟨("_rise_tops", none), "_rise_tops", "_rise_tops", defArgs s__rise_tops, defBody s__rise_tops, defScope s__rise_tops, [], []⟩
abbrev s_call_worth : Stmt := top 55
def d_call_worth : He.DefD := ⟨("call_worth", none), "call_worth", "call_worth", defArgs s_call_worth, defBody s_call_worth, defScope s_call_worth, [], []⟩
abbrev s_rise_worth : Stmt := top 56
def d_rise_worth : He.DefD := ⟨("rise_worth", none), "rise_worth", "rise_worth", defArgs s_rise_worth, defBody s_rise_worth, defScope s_rise_worth, [], []⟩
abbrev s__law_pool : Stmt := top 58
def d__law_pool : He.DefD := ⟨("_law_pool", none), "_law_pool", "_law_pool", defArgs s__law_pool, defBody s__law_pool, defScope s__law_pool, [], []⟩
abbrev s__law_pick : Stmt := top 59
def d__law_pick : He.DefD := ⟨("_law_pick", none), "_law_pick", "_law_pick", defArgs s__law_pick, defBody s__law_pick, defScope s__law_pick, [], []⟩
abbrev s__law_size : Stmt := top 60
def d__law_size : He.DefD := ⟨("_law_size", none), "_law_size", "_law_size", defArgs s__law_size, defBody s__law_size, defScope s__law_size, [], []⟩
abbrev s__law_rate : Stmt := top 61
def d__law_rate : He.DefD := ⟨("_law_rate", none), "_law_rate", "_law_rate", defArgs s__law_rate, defBody s__law_rate, defScope s__law_rate, [], []⟩
abbrev s__law_blank : Stmt := top 62
def d__law_blank : He.DefD := ⟨("_law_blank", none), "_law_blank", "_law_blank", defArgs s__law_blank, defBody s__law_blank, defScope s__law_blank, [], []⟩
abbrev s__law_order : Stmt := top 63
def d__law_order : He.DefD := ⟨("_law_order", none), "_law_order", "_law_order", defArgs s__law_order, defBody s__law_order, defScope s__law_order, [], []⟩
abbrev s__law_moved : Stmt := top 64
def d__law_moved : He.DefD := ⟨("_law_moved", none), "_law_moved", "_law_moved", defArgs s__law_moved, defBody s__law_moved, defScope s__law_moved, [], []⟩
abbrev s__law_both : Stmt := top 65
def d__law_both : He.DefD := ⟨("_law_both", none), "_law_both", "_law_both", defArgs s__law_both, defBody s__law_both, defScope s__law_both, [], []⟩
abbrev s__law_ring : Stmt := top 66
def d__law_ring : He.DefD := ⟨("_law_ring", none), "_law_ring", "_law_ring", defArgs s__law_ring, defBody s__law_ring, defScope s__law_ring, [], []⟩
abbrev s__law_two_way : Stmt := top 67
def d__law_two_way : He.DefD := ⟨("_law_two_way", none), "_law_two_way", "_law_two_way", defArgs s__law_two_way, defBody s__law_two_way, defScope s__law_two_way, [], []⟩
abbrev s__law_paced : Stmt := top 68
def d__law_paced : He.DefD := ⟨("_law_paced", none), "_law_paced", "_law_paced", defArgs s__law_paced, defBody s__law_paced, defScope s__law_paced, [], []⟩
abbrev s__law_stream : Stmt := top 69
def d__law_stream : He.DefD := ⟨("_law_stream", none), "_law_stream", "_law_stream", defArgs s__law_stream, defBody s__law_stream, defScope s__law_stream, [], []⟩
abbrev s__law_web : Stmt := top 70
def d__law_web : He.DefD := ⟨("_law_web", none), "_law_web", "_law_web", defArgs s__law_web, defBody s__law_web, defScope s__law_web, [], []⟩
abbrev s__law_calls : Stmt := top 71
def d__law_calls : He.DefD := ⟨("_law_calls", none), "_law_calls", "_law_calls", defArgs s__law_calls, defBody s__law_calls, defScope s__law_calls, [], []⟩
abbrev s__law_called : Stmt := top 72
def d__law_called : He.DefD := ⟨("_law_called", none), "_law_called", "_law_called", defArgs s__law_called, defBody s__law_called, defScope s__law_called, [], []⟩
abbrev s__law_lots : Stmt := top 73
def d__law_lots : He.DefD := ⟨("_law_lots", none), "_law_lots", "_law_lots", defArgs s__law_lots, defBody s__law_lots, defScope s__law_lots, [], []⟩
abbrev s__law_number : Stmt := top 74
def d__law_number : He.DefD := ⟨("_law_number", none), "_law_number", "_law_number", defArgs s__law_number, defBody s__law_number, defScope s__law_number, [], []⟩
abbrev s__law_gcd : Stmt := top 75
def d__law_gcd : He.DefD := ⟨("_law_gcd", none), "_law_gcd", "_law_gcd", defArgs s__law_gcd, defBody s__law_gcd, defScope s__law_gcd, [], []⟩
abbrev s__law_int : Stmt := top 76
def d__law_int : He.DefD := ⟨("_law_int", none), "_law_int", "_law_int", defArgs s__law_int, defBody s__law_int, defScope s__law_int, [], []⟩
abbrev s__law_right : Stmt := top 77
def d__law_right : He.DefD := ⟨("_law_right", none), "_law_right", "_law_right", defArgs s__law_right, defBody s__law_right, defScope s__law_right, [], []⟩
abbrev s__law_low : Stmt := top 78
def d__law_low : He.DefD := ⟨("_law_low", none), "_law_low", "_law_low", defArgs s__law_low, defBody s__law_low, defScope s__law_low, [], []⟩
abbrev s__law_sum : Stmt := top 79
def d__law_sum : He.DefD := ⟨("_law_sum", none), "_law_sum", "_law_sum", defArgs s__law_sum, defBody s__law_sum, defScope s__law_sum, [], []⟩
abbrev s__law_row_right : Stmt := top 80
def d__law_row_right : He.DefD := ⟨("_law_row_right", none), "_law_row_right", "_law_row_right", defArgs s__law_row_right, defBody s__law_row_right, defScope s__law_row_right, [], []⟩
abbrev s__law_common : Stmt := top 81
def d__law_common : He.DefD := ⟨("_law_common", none), "_law_common", "_law_common", defArgs s__law_common, defBody s__law_common, defScope s__law_common, [], []⟩
abbrev s__law_win_fits : Stmt := top 82
def d__law_win_fits : He.DefD := ⟨("_law_win_fits", none), "_law_win_fits", "_law_win_fits", defArgs s__law_win_fits, defBody s__law_win_fits, defScope s__law_win_fits, [], []⟩
abbrev s__law_solve : Stmt := top 83
def d__law_solve : He.DefD := ⟨("_law_solve", none), "_law_solve", "_law_solve", defArgs s__law_solve, defBody s__law_solve, defScope s__law_solve, [], []⟩
abbrev s__law_says : Stmt := top 84
def d__law_says : He.DefD := ⟨("_law_says", none), "_law_says", "_law_says", defArgs s__law_says, defBody s__law_says, defScope s__law_says, [], []⟩
abbrev s__law_is_line : Stmt := top 85
def d__law_is_line : He.DefD := ⟨("_law_is_line", none), "_law_is_line", "_law_is_line", defArgs s__law_is_line, defBody s__law_is_line, defScope s__law_is_line, [], []⟩
abbrev s__law_by_says : Stmt := top 86
def d__law_by_says : He.DefD := ⟨("_law_by_says", none), "_law_by_says", "_law_by_says", defArgs s__law_by_says, defBody s__law_by_says, defScope s__law_by_says, [], []⟩
abbrev s__law_by_wins : Stmt := top 87
def d__law_by_wins : He.DefD := ⟨("_law_by_wins", none), "_law_by_wins", "_law_by_wins", defArgs s__law_by_wins, defBody s__law_by_wins, defScope s__law_by_wins, [], []⟩
abbrev s__law_due : Stmt := top 88
def d__law_due : He.DefD := ⟨("_law_due", none), "_law_due", "_law_due", defArgs s__law_due, defBody s__law_due, defScope s__law_due, [], []⟩
abbrev s__law_refused : Stmt := top 89
def d__law_refused : He.DefD := ⟨("_law_refused", none), "_law_refused", "_law_refused", defArgs s__law_refused, defBody s__law_refused, defScope s__law_refused, [], []⟩
abbrev s_law : Stmt := top 90
def d_law : He.DefD := ⟨("law", none), "law", "law", defArgs s_law, defBody s_law, defScope s_law, [], []⟩
abbrev s_World___init__ : Stmt := inClass (top 43) 1
def d_World___init__ : He.DefD := ⟨("World", some "__init__"), "__init__", "World.__init__", defArgs s_World___init__, defBody s_World___init__, defScope s_World___init__, [], [("calls", .non)]⟩
abbrev s_World_calling : Stmt := inClass (top 43) 5
def d_World_calling : He.DefD := ⟨("World", some "calling"), "calling", "World.calling", defArgs s_World_calling, defBody s_World_calling, defScope s_World_calling, [], []⟩
abbrev s_BadGrades___init__ : Stmt := inClass (top 8) 0
def d_BadGrades___init__ : He.DefD := ⟨("BadGrades", some "__init__"), "__init__", "BadGrades.__init__", defArgs s_BadGrades___init__, defBody s_BadGrades___init__, defScope s_BadGrades___init__, [], []⟩
def fns_0 : List He.DefD := [d_is_whole, d__ratios_lowest, d_ratio, d_grades_of, d__lots_size, d_bits_of, d_lot_from, d_lot_of, d_number_of, d__linking_looks, d__linking_reached, d_shut_lot, d_need_linked, d_heads, d_need_one_head, d__solving_pivot, d_solved, d__worlds_row, d__worlds_takes, d__worlds_calls]
def fns_1 : List He.DefD := [d__worlds_ties, d_need_small, d__win_equation, d_win_equations, d_win_tops, d_win_row, d_say_numbers, d__rise_need, d__rise_tops, d_call_worth, d_rise_worth, d__law_pool, d__law_pick, d__law_size, d__law_rate, d__law_blank, d__law_order, d__law_moved, d__law_both, d__law_ring]
def fns_2 : List He.DefD := [d__law_two_way, d__law_paced, d__law_stream, d__law_web, d__law_calls, d__law_called, d__law_lots, d__law_number, d__law_gcd, d__law_int, d__law_right, d__law_low, d__law_sum, d__law_row_right, d__law_common, d__law_win_fits, d__law_solve, d__law_says, d__law_is_line, d__law_by_says]
def fns_3 : List He.DefD := [d__law_by_wins, d__law_due, d__law_refused, d_law, d_World___init__, d_World_calling, d_BadGrades___init__]
def fns : List He.DefD := fns_0 ++ (fns_1 ++ (fns_2 ++ (fns_3)))
def fas_0 : List He.Fa := [.glo "is_whole", .glo "_ratios_lowest", .glo "ratio", .glo "grades_of", .glo "_lots_size", .glo "bits_of", .glo "lot_from", .glo "lot_of", .glo "number_of", .glo "_linking_looks", .glo "_linking_reached", .glo "shut_lot", .glo "need_linked", .glo "heads", .glo "need_one_head", .glo "_solving_pivot", .glo "solved", .glo "_worlds_row", .glo "_worlds_takes", .glo "_worlds_calls"]
def fas_1 : List He.Fa := [.glo "_worlds_ties", .glo "need_small", .glo "_win_equation", .glo "win_equations", .glo "win_tops", .glo "win_row", .glo "say_numbers", .glo "_rise_need", .glo "_rise_tops", .glo "call_worth", .glo "rise_worth", .glo "_law_pool", .glo "_law_pick", .glo "_law_size", .glo "_law_rate", .glo "_law_blank", .glo "_law_order", .glo "_law_moved", .glo "_law_both", .glo "_law_ring"]
def fas_2 : List He.Fa := [.glo "_law_two_way", .glo "_law_paced", .glo "_law_stream", .glo "_law_web", .glo "_law_calls", .glo "_law_called", .glo "_law_lots", .glo "_law_number", .glo "_law_gcd", .glo "_law_int", .glo "_law_right", .glo "_law_low", .glo "_law_sum", .glo "_law_row_right", .glo "_law_common", .glo "_law_win_fits", .glo "_law_solve", .glo "_law_says", .glo "_law_is_line", .glo "_law_by_says"]
def fas_3 : List He.Fa := [.glo "_law_by_wins", .glo "_law_due", .glo "_law_refused", .glo "law", .glo "World", .glo "BadGrades", .glo "RatesError", .glo "BadLot", .free "len", .free "range", .free "min", .free "max", .free "abs", .free "int", .free "list", .free "tuple", .free "sum", .free "zip", .free "enumerate", .free "sorted"]
def fas_4 : List He.Fa := [.free "set", .free "isinstance", .free "all", .free "bool"]
def fas : List He.Fa := fas_0 ++ (fas_1 ++ (fas_2 ++ (fas_3 ++ (fas_4))))
def loose_0 : List PySem.Str := ["gcd", "_wall", "RatesError", "BadNumber", "BadPlace", "BadLot", "BadTable", "BadGrades", "NotLinked", "ManyHeads", "TooMany", "OtherSize", "is_whole", "_ratios_lowest", "ratio", "grades_of", "_lots_size", "place_of", "bits_of", "lot_from"]
def loose_1 : List PySem.Str := ["lot_of", "number_of", "_linking_looks", "_linking_reached", "shut_lot", "need_linked", "heads", "need_one_head", "_solving_pivot", "solved", "_worlds_row", "_worlds_takes", "_worlds_calls", "_worlds_added", "_worlds_scaled", "_worlds_ties", "World", "need_small", "_win_equation", "win_equations"]
def loose_2 : List PySem.Str := ["win_tops", "win_row", "say_numbers", "_rise_need", "_rise_tops", "call_worth", "rise_worth", "_law_pool", "_law_pick", "_law_size", "_law_rate", "_law_blank", "_law_order", "_law_moved", "_law_both", "_law_ring", "_law_two_way", "_law_paced", "_law_stream", "_law_web"]
def loose_3 : List PySem.Str := ["_law_calls", "_law_called", "_law_lots", "_law_number", "_law_gcd", "_law_int", "_law_right", "_law_low", "_law_sum", "_law_row_right", "_law_common", "_law_win_fits", "_law_solve", "_law_says", "_law_is_line", "_law_by_says", "_law_by_wins", "_law_due", "_law_refused"]
def loose : List PySem.Str := loose_0 ++ (loose_1 ++ (loose_2 ++ (loose_3)))
end Cy
namespace Cy
open PySem PySem.Spec PyProof.Rows L2 He
/-! ### further facts of the top -/
def gcdB (K : PySem.W.Frag) : Bool := eqO (PySem.W.nsIn K mainGlobals "gcd") (some (some (.builtin "math.gcd")))
def slIx (K : PySem.W.Frag) (C : Addr) (f : Str) : Nat := (PySem.W.slotIn K (ma K C f) C).getD 0
def sltB (K : PySem.W.Frag) (C : Addr) (f : Str) : Bool := eqO (PySem.W.findIn K (.ref C) f) (some (some (.ref (ma K C f)))) && (eqO (PySem.W.specialIn K (.ref (ma K C f)) "__get__") (some (some (.builtin "member_descriptor.__get__"))) &&
  (decide (PySem.W.takesIn K (.ref (ma K C f)) = some true) && (decide (PySem.W.slotIn K (ma K C f) C = some (slIx K C f)) && (decide (PySem.W.typeIn K (.ref (ma K C f)) = some (.type "member_descriptor")) && decide (slIx K C f < 3)))))
theorem sltB_ok {K : PySem.W.Frag} {C : Addr} {f : Str} (h : sltB K C f = true) : Slt K C f (slIx K C f) (ma K C f) ∧ slIx K C f < 3 := by
  obtain ⟨h1, h⟩ := ba h
  obtain ⟨h2, h⟩ := ba h
  obtain ⟨h3, h⟩ := ba h
  obtain ⟨h4, h⟩ := ba h
  obtain ⟨h5, h6⟩ := ba h
  have l := of_decide_eq_true h6
  exact ⟨⟨eqO_ok h1, eqO_ok h2, of_decide_eq_true h3, of_decide_eq_true h4, of_decide_eq_true h5, by omega⟩, l⟩
def sclsB (K : PySem.W.Frag) (C : Addr) : Bool := PySem.W.plainGet K C Str.empty && (PySem.W.isClsIn K C && (PySem.W.plainOver K C && eqO (PySem.W.findIn K (.ref C) "__setattr__") (some (some (.builtin "object.__setattr__")))))
theorem sclsB_ok {K : PySem.W.Frag} {C : Addr} (h : sclsB K C = true) : SCls K C := by
  obtain ⟨h1, h⟩ := ba h
  obtain ⟨h2, h⟩ := ba h
  obtain ⟨h3, h4⟩ := ba h
  exact ⟨h1, h2, h3, eqO_ok h4⟩
def diffB (K : PySem.W.Frag) (C : Addr) : Bool := decide (slIx K C "size" ≠ slIx K C "takes") && (decide (slIx K C "size" ≠ slIx K C "calls") && decide (slIx K C "takes" ≠ slIx K C "calls"))
def oexLook (K : PySem.W.Frag) (C : Addr) : Bool := match K.lookup C with
  | some ⟨.type "type", _, .cls cdt, slo⟩ => (match cdt.mro, slo.toList with
    | .ref C2 :: bmr, [_, _, _, _, some (.builtin n), _] => C2 == C && n == "ValueError.__new__" && !cdt.hasDel && cdt.hasDict && PySem.HandSPX.refsVE bmr
    | _, _ => false)
  | _ => false
def oexB (K : PySem.W.Frag) (C : Addr) : Bool := oexLook K C && (eqO (PySem.W.findIn K (.ref C) "__setattr__") (some (some (.builtin "object.__setattr__"))) && (decide (PySem.W.subIn K (.ref C) (.type "BaseException") = some true) && (decide (PySem.W.typeIn K (.ref C) = some (.type "type")) && PySem.W.keepIn K (.ref C))))
theorem oexB_ok {K : PySem.W.Frag} {C : Addr} (h : oexB K C = true) : OexC K C := by
  obtain ⟨h1, h⟩ := ba h
  obtain ⟨h2, h⟩ := ba h
  obtain ⟨h3, h⟩ := ba h
  obtain ⟨h4, h5⟩ := ba h
  refine ⟨?_, eqO_ok h2, of_decide_eq_true h3, of_decide_eq_true h4, h5⟩
  unfold oexLook at h1
  split at h1
  · rename_i dd cdt slo ho
    split at h1
    · rename_i C2 bmr k0 k1 k2 k3 n k5 hmr hse
      simp only [Bool.and_eq_true, beq_iff_eq, Bool.not_eq_true'] at h1
      obtain ⟨⟨⟨⟨rfl, rfl⟩, hdel⟩, hdct⟩, hbm⟩ := h1
      obtain ⟨nme, bs, mro, ns, qn, hd, sn, sub, ab, col, del⟩ := cdt
      dsimp only at hmr hdel hdct
      subst hmr hdel hdct
      have hsl : slo = #[k0, k1, k2, k3, some (.builtin "ValueError.__new__"), k5] := by
        obtain ⟨l⟩ := slo
        simp only at hse
        rw [hse]
      subst hsl
      exact ⟨nme, qn, ns, bs, bmr, sn, sub, ab, col, dd, k0, k1, k2, k3, k5, ho, hbm⟩
    · cases h1
  · cases h1
def excB (K : PySem.W.Frag) (D : Addr) : Bool := xfB K D && (eqO (PySem.W.findIn K (.ref D) "__class__") (some (some (.builtin "object.__class__"))) && (eqO (PySem.W.specialIn K (.builtin "object.__class__") "__get__") (some (some (.builtin "getset_descriptor.__get__"))) &&
  (decide (PySem.W.takesIn K (.builtin "object.__class__") = some true) && decide (PySem.W.mroIn K D (.type "object") = some true))))
theorem excB_ok {K : PySem.W.Frag} {D : Addr} (h : excB K D = true) : XfC K D ∧ ExcC K D := by
  obtain ⟨h1, h⟩ := ba h
  obtain ⟨h2, h⟩ := ba h
  obtain ⟨h3, h⟩ := ba h
  obtain ⟨h4, h5⟩ := ba h
  have x := xfB_ok h1
  exact ⟨x, ⟨x.ga, x.gg, x.exC, x.hdC, eqO_ok h2, eqO_ok h3, of_decide_eq_true h4, of_decide_eq_true h5⟩⟩
def bgB (K : PySem.W.Frag) : Bool := eqO (PySem.W.findIn K (.ref (ga K "BadGrades")) "__init__") (some (some (.ref (ma K (ga K "BadGrades") "__init__")))) && (decide (PySem.W.typeIn K (.ref (ma K (ga K "BadGrades") "__init__")) = some (.type "function")) &&
  (eqO (PySem.W.findIn K (.ref (ga K "BadGrades")) "at") (some none) && (decide (PySem.W.exmOne K (.ref (ga K "BadGrades")) (.ref (ga K "BadGrades")) = some true) && (decide (PySem.W.kitOne K (.ref (ga K "BadGrades")) (.ref (ga K "RatesError")) = some true) &&
  decide (PySem.W.kitOne K (.ref (ga K "BadGrades")) (.ref (ga K "BadLot")) = some false)))))
def exs : List (PySem.W.Frag → Bool) := [gcdB, fun K => sltB K (ga K "World") "size", fun K => sltB K (ga K "World") "takes", fun K => sltB K (ga K "World") "calls", fun K => sclsB K (ga K "World"), fun K => diffB K (ga K "World"),
  fun K => (Fa.mkr "World").ok K, fun K => (Fa.meth "World" "calling").ok K, fun K => oexB K (ga K "BadGrades"), fun K => excB K (ga K "BadGrades"), bgB]
end Cy
namespace Cy
open PySem PySem.Spec PyProof.Rows L2 He
/-! ### the Hook -/
def frA {α : Type} (n : Nat) (k : Nat → α) : α := match n with
  | 0 => k 0
  | m + 1 => k (m + 1)
def frN {α : Type} : List Nat → (List Nat → α) → α
  | [], k => k []
  | a :: r, k => frA a fun a => frN r fun r => k (a :: r)
def frP {α : Type} : PySem.W.Frag → (PySem.W.Frag → α) → α
  | [], k => k []
  | (a, ⟨c, d, dt, sl⟩) :: r, k => frA a fun a => frP r fun r => k ((a, ⟨c, d, dt, sl⟩) :: r)
/-- the frontier of a reach: what its objects name -/
def nextG (g : Addr → Option Obj) (as : List Addr) : List Addr := as.flatMap fun a => match g a with
  | some o => refsD o
  | none => []
def reachG {α : Type} (g : Addr → Option Obj) : Nat → List Addr → (List Addr → α) → α
  | 0, as, k => k as
  | n + 1, as, k => frN (nextG g as) fun b => reachG g n b fun r => k (as ++ r)
theorem frA_eq {α : Type} (n : Nat) (k : Nat → α) : frA n k = k n := by
  cases n <;> rfl
theorem frN_eq {α : Type} : ∀ (l : List Nat) (k : List Nat → α), frN l k = k l
  | [], k => rfl
  | a :: r, k => by
    show (frA a fun a => frN r fun r => k (a :: r)) = _
    rw [frA_eq, frN_eq r]
theorem frP_eq {α : Type} : ∀ (l : PySem.W.Frag) (k : PySem.W.Frag → α), frP l k = k l
  | [], k => rfl
  | (a, ⟨c, d, dt, sl⟩) :: r, k => by
    show (frA a fun a => frP r fun r => k ((a, ⟨c, d, dt, sl⟩) :: r)) = _
    rw [frA_eq, frP_eq r]
theorem reachG_eq {α : Type} (g : Addr → Option Obj) : ∀ (n : Nat) (as : List Addr) (k : List Addr → α), ∃ bs, reachG g n as k = k bs
  | 0, as, k => ⟨as, rfl⟩
  | n + 1, as, k => by
    obtain ⟨bs, e⟩ := reachG_eq g n (nextG g as) (fun r => k (as ++ r))
    refine ⟨as ++ bs, ?_⟩
    show (frN (nextG g as) fun b => reachG g n b fun r => k (as ++ r)) = _
    rw [frN_eq, e]
def obsX (K : PySem.W.Frag) : AlD := ((fas.all fun f => f.ok K) && ((fns.all fun d => d.ok K) && exs.all fun f => f K), fns.map fun d => fnW K d.at_)
def SaysX (K : PySem.W.Frag) : Prop := obsX K = valD fns
def obsXG (n : Nat) (g : Addr → Option Obj) : AlD := reachG g n [mainGlobals] fun as => frP (frG g as) obsX
def hookX (n : Nat) : PySem.W.Hook where
  α := AlD
  obs := fun s => obsXG n s.heap.get?
  val := fun _ => valD fns
  says := fun _ h => ∃ K : PySem.W.Frag, K.In h ∧ SaysX K
  of := fun _ s e => by
    obtain ⟨bs, q⟩ := reachG_eq s.heap.get? n [mainGlobals] fun as => frP (frG s.heap.get? as) obsX
    rw [frP_eq] at q
    exact ⟨_, frG_in, q.symm.trans e⟩
  keeps := fun _ _ _ ⟨K, inK, said⟩ kept => ⟨K, PySem.W.Frag.In.keeps inK kept, said⟩
theorem obsXG_eq {n : Nat} {g : Addr → Option Obj} {s : Shared} (h : ∀ a, g a = s.heap.get? a) : obsXG n g = (hookX n).obs s := by
  have e : g = s.heap.get? := funext fun a => h a
  rw [e] <;> rfl
section
variable {K : PySem.W.Frag}
theorem SaysX.alls (c : SaysX K) : (fas.all fun f => f.ok K) = true ∧ (fns.all fun d => d.ok K) = true ∧ (exs.all fun f => f K) = true := by
  have z : ((fas.all fun f => f.ok K) && ((fns.all fun d => d.ok K) && exs.all fun f => f K)) = true := congrArg (fun z : AlD => z.1) c
  obtain ⟨a, z⟩ := ba z
  obtain ⟨b, z⟩ := ba z
  exact ⟨a, b, z⟩
theorem SaysX.fact (c : SaysX K) (i : Nat) {f : Fa} (h : fas[i]? = some f := by rfl) : f.ok K = true := List.all_eq_true.mp c.alls.1 f (List.mem_of_getElem? h)
theorem SaysX.more (c : SaysX K) (i : Nat) {f : PySem.W.Frag → Bool} (h : exs[i]? = some f := by rfl) : f K = true := List.all_eq_true.mp c.alls.2.2 f (List.mem_of_getElem? h)
theorem SaysX.def_ (c : SaysX K) (i : Nat) {d : DefD} (h : fns[i]? = some d := by rfl) : ∃ fd, FunD K d.name d.qual d.params d.body d.scope (d.dvs K) (d.kws K) (fAd K d.at_) fd := by
  have e : fns.map (fun d => fnW K d.at_) = fns.map DefD.val := congrArg (fun z : AlD => z.2) c
  have e2 : (fns.map fun d => fnW K d.at_)[i]? = (fns.map DefD.val)[i]? := by rw [e]
  rw [List.getElem?_map] at e2; rw [List.getElem?_map, h] at e2
  exact DefD.funD (Option.some.inj e2) (List.all_eq_true.mp c.alls.2.1 d (List.mem_of_getElem? h))
end
end Cy
namespace Cy
open PySem PySem.Spec PyProof.Rows L2 He
/-! ### the run -/
abbrev R : PySem.W.OpenRow := PySem.W.OpenLaw.row PySem.Challenge.rw_copyrates_k36_whole_effective_calls_weig
abbrev qv : Program := PySem.W.view R.prog [0, 90]
abbrev hk : PySem.W.Hook := hookX 4
def ob (s : PySem.W.SharedT) : AlD := obsXG 4 (HandSHeadRun.getT s)
theorem ob_eq (s : PySem.W.SharedT) : ob s = hk.obs s.abs := obsXG_eq (HandSHeadRun.getT_eq s)
theorem run (w : World) : HandSHeadRun.RunEqI R qv hk ob 9000 loose w := by
  unfold HandSHeadRun.RunEqI
  kernel_rfl
end Cy
namespace Cy
open PySem PySem.Spec PyProof.Rows L2 He
/-! ### the facts by name -/
structure Tx (K : PySem.W.Frag) (mg : Str → Option Value) : Prop where
  says : SaysX K
  at_ : ∃ h : Heap, K.In h ∧ h.Ns mainGlobals mg
section
variable {K : PySem.W.Frag} {mg : Str → Option Value}
theorem Tx.gl (T : Tx K mg) {x : Str} {i : Nat} (h : fas[i]? = some (.glo x) := by rfl) : mg x = some (.ref (ga K x)) := let ⟨_, X, G⟩ := T.at_; glo_ok X G (T.says.fact i h)
theorem Tx.fr (T : Tx K mg) {x : Str} {i : Nat} (h : fas[i]? = some (.free x) := by rfl) : mg x = none := let ⟨_, X, G⟩ := T.at_; free_ok X G (T.says.fact i h)
theorem Tx.df (T : Tx K mg) {d : DefD} (i : Nat) (h : fns[i]? = some d := by rfl) : ∃ fd, FunD K d.name d.qual d.params d.body d.scope (d.dvs K) (d.kws K) (fAd K d.at_) fd := T.says.def_ i h
theorem Tx.g_is_whole (T : Tx K mg) : mg "is_whole" = some (.ref (ga K "is_whole")) := T.gl (i := 0)
theorem Tx.g__ratios_lowest (T : Tx K mg) : mg "_ratios_lowest" = some (.ref (ga K "_ratios_lowest")) := T.gl (i := 1)
theorem Tx.g_ratio (T : Tx K mg) : mg "ratio" = some (.ref (ga K "ratio")) := T.gl (i := 2)
theorem Tx.g_grades_of (T : Tx K mg) : mg "grades_of" = some (.ref (ga K "grades_of")) := T.gl (i := 3)
theorem Tx.g__lots_size (T : Tx K mg) : mg "_lots_size" = some (.ref (ga K "_lots_size")) := T.gl (i := 4)
theorem Tx.g_bits_of (T : Tx K mg) : mg "bits_of" = some (.ref (ga K "bits_of")) := T.gl (i := 5)
theorem Tx.g_lot_from (T : Tx K mg) : mg "lot_from" = some (.ref (ga K "lot_from")) := T.gl (i := 6)
theorem Tx.g_lot_of (T : Tx K mg) : mg "lot_of" = some (.ref (ga K "lot_of")) := T.gl (i := 7)
theorem Tx.g_number_of (T : Tx K mg) : mg "number_of" = some (.ref (ga K "number_of")) := T.gl (i := 8)
theorem Tx.g__linking_looks (T : Tx K mg) : mg "_linking_looks" = some (.ref (ga K "_linking_looks")) := T.gl (i := 9)
theorem Tx.g__linking_reached (T : Tx K mg) : mg "_linking_reached" = some (.ref (ga K "_linking_reached")) := T.gl (i := 10)
theorem Tx.g_shut_lot (T : Tx K mg) : mg "shut_lot" = some (.ref (ga K "shut_lot")) := T.gl (i := 11)
theorem Tx.g_need_linked (T : Tx K mg) : mg "need_linked" = some (.ref (ga K "need_linked")) := T.gl (i := 12)
theorem Tx.g_heads (T : Tx K mg) : mg "heads" = some (.ref (ga K "heads")) := T.gl (i := 13)
theorem Tx.g_need_one_head (T : Tx K mg) : mg "need_one_head" = some (.ref (ga K "need_one_head")) := T.gl (i := 14)
theorem Tx.g__solving_pivot (T : Tx K mg) : mg "_solving_pivot" = some (.ref (ga K "_solving_pivot")) := T.gl (i := 15)
theorem Tx.g_solved (T : Tx K mg) : mg "solved" = some (.ref (ga K "solved")) := T.gl (i := 16)
theorem Tx.g__worlds_row (T : Tx K mg) : mg "_worlds_row" = some (.ref (ga K "_worlds_row")) := T.gl (i := 17)
theorem Tx.g__worlds_takes (T : Tx K mg) : mg "_worlds_takes" = some (.ref (ga K "_worlds_takes")) := T.gl (i := 18)
theorem Tx.g__worlds_calls (T : Tx K mg) : mg "_worlds_calls" = some (.ref (ga K "_worlds_calls")) := T.gl (i := 19)
theorem Tx.g__worlds_ties (T : Tx K mg) : mg "_worlds_ties" = some (.ref (ga K "_worlds_ties")) := T.gl (i := 20)
theorem Tx.g_need_small (T : Tx K mg) : mg "need_small" = some (.ref (ga K "need_small")) := T.gl (i := 21)
theorem Tx.g__win_equation (T : Tx K mg) : mg "_win_equation" = some (.ref (ga K "_win_equation")) := T.gl (i := 22)
theorem Tx.g_win_equations (T : Tx K mg) : mg "win_equations" = some (.ref (ga K "win_equations")) := T.gl (i := 23)
theorem Tx.g_win_tops (T : Tx K mg) : mg "win_tops" = some (.ref (ga K "win_tops")) := T.gl (i := 24)
theorem Tx.g_win_row (T : Tx K mg) : mg "win_row" = some (.ref (ga K "win_row")) := T.gl (i := 25)
theorem Tx.g_say_numbers (T : Tx K mg) : mg "say_numbers" = some (.ref (ga K "say_numbers")) := T.gl (i := 26)
theorem Tx.g__rise_need (T : Tx K mg) : mg "_rise_need" = some (.ref (ga K "_rise_need")) := T.gl (i := 27)
theorem Tx.g__rise_tops (T : Tx K mg) : mg "_rise_tops" = some (.ref (ga K "_rise_tops")) := T.gl (i := 28)
theorem Tx.g_call_worth (T : Tx K mg) : mg "call_worth" = some (.ref (ga K "call_worth")) := T.gl (i := 29)
theorem Tx.g_rise_worth (T : Tx K mg) : mg "rise_worth" = some (.ref (ga K "rise_worth")) := T.gl (i := 30)
theorem Tx.g__law_pool (T : Tx K mg) : mg "_law_pool" = some (.ref (ga K "_law_pool")) := T.gl (i := 31)
theorem Tx.g__law_pick (T : Tx K mg) : mg "_law_pick" = some (.ref (ga K "_law_pick")) := T.gl (i := 32)
theorem Tx.g__law_size (T : Tx K mg) : mg "_law_size" = some (.ref (ga K "_law_size")) := T.gl (i := 33)
theorem Tx.g__law_rate (T : Tx K mg) : mg "_law_rate" = some (.ref (ga K "_law_rate")) := T.gl (i := 34)
theorem Tx.g__law_blank (T : Tx K mg) : mg "_law_blank" = some (.ref (ga K "_law_blank")) := T.gl (i := 35)
theorem Tx.g__law_order (T : Tx K mg) : mg "_law_order" = some (.ref (ga K "_law_order")) := T.gl (i := 36)
theorem Tx.g__law_moved (T : Tx K mg) : mg "_law_moved" = some (.ref (ga K "_law_moved")) := T.gl (i := 37)
theorem Tx.g__law_both (T : Tx K mg) : mg "_law_both" = some (.ref (ga K "_law_both")) := T.gl (i := 38)
theorem Tx.g__law_ring (T : Tx K mg) : mg "_law_ring" = some (.ref (ga K "_law_ring")) := T.gl (i := 39)
theorem Tx.g__law_two_way (T : Tx K mg) : mg "_law_two_way" = some (.ref (ga K "_law_two_way")) := T.gl (i := 40)
theorem Tx.g__law_paced (T : Tx K mg) : mg "_law_paced" = some (.ref (ga K "_law_paced")) := T.gl (i := 41)
theorem Tx.g__law_stream (T : Tx K mg) : mg "_law_stream" = some (.ref (ga K "_law_stream")) := T.gl (i := 42)
theorem Tx.g__law_web (T : Tx K mg) : mg "_law_web" = some (.ref (ga K "_law_web")) := T.gl (i := 43)
theorem Tx.g__law_calls (T : Tx K mg) : mg "_law_calls" = some (.ref (ga K "_law_calls")) := T.gl (i := 44)
theorem Tx.g__law_called (T : Tx K mg) : mg "_law_called" = some (.ref (ga K "_law_called")) := T.gl (i := 45)
theorem Tx.g__law_lots (T : Tx K mg) : mg "_law_lots" = some (.ref (ga K "_law_lots")) := T.gl (i := 46)
theorem Tx.g__law_number (T : Tx K mg) : mg "_law_number" = some (.ref (ga K "_law_number")) := T.gl (i := 47)
theorem Tx.g__law_gcd (T : Tx K mg) : mg "_law_gcd" = some (.ref (ga K "_law_gcd")) := T.gl (i := 48)
theorem Tx.g__law_int (T : Tx K mg) : mg "_law_int" = some (.ref (ga K "_law_int")) := T.gl (i := 49)
theorem Tx.g__law_right (T : Tx K mg) : mg "_law_right" = some (.ref (ga K "_law_right")) := T.gl (i := 50)
theorem Tx.g__law_low (T : Tx K mg) : mg "_law_low" = some (.ref (ga K "_law_low")) := T.gl (i := 51)
theorem Tx.g__law_sum (T : Tx K mg) : mg "_law_sum" = some (.ref (ga K "_law_sum")) := T.gl (i := 52)
theorem Tx.g__law_row_right (T : Tx K mg) : mg "_law_row_right" = some (.ref (ga K "_law_row_right")) := T.gl (i := 53)
theorem Tx.g__law_common (T : Tx K mg) : mg "_law_common" = some (.ref (ga K "_law_common")) := T.gl (i := 54)
theorem Tx.g__law_win_fits (T : Tx K mg) : mg "_law_win_fits" = some (.ref (ga K "_law_win_fits")) := T.gl (i := 55)
theorem Tx.g__law_solve (T : Tx K mg) : mg "_law_solve" = some (.ref (ga K "_law_solve")) := T.gl (i := 56)
theorem Tx.g__law_says (T : Tx K mg) : mg "_law_says" = some (.ref (ga K "_law_says")) := T.gl (i := 57)
theorem Tx.g__law_is_line (T : Tx K mg) : mg "_law_is_line" = some (.ref (ga K "_law_is_line")) := T.gl (i := 58)
theorem Tx.g__law_by_says (T : Tx K mg) : mg "_law_by_says" = some (.ref (ga K "_law_by_says")) := T.gl (i := 59)
theorem Tx.g__law_by_wins (T : Tx K mg) : mg "_law_by_wins" = some (.ref (ga K "_law_by_wins")) := T.gl (i := 60)
theorem Tx.g__law_due (T : Tx K mg) : mg "_law_due" = some (.ref (ga K "_law_due")) := T.gl (i := 61)
theorem Tx.g__law_refused (T : Tx K mg) : mg "_law_refused" = some (.ref (ga K "_law_refused")) := T.gl (i := 62)
theorem Tx.g_law (T : Tx K mg) : mg "law" = some (.ref (ga K "law")) := T.gl (i := 63)
theorem Tx.g_World (T : Tx K mg) : mg "World" = some (.ref (ga K "World")) := T.gl (i := 64)
theorem Tx.g_BadGrades (T : Tx K mg) : mg "BadGrades" = some (.ref (ga K "BadGrades")) := T.gl (i := 65)
theorem Tx.g_RatesError (T : Tx K mg) : mg "RatesError" = some (.ref (ga K "RatesError")) := T.gl (i := 66)
theorem Tx.g_BadLot (T : Tx K mg) : mg "BadLot" = some (.ref (ga K "BadLot")) := T.gl (i := 67)
theorem Tx.f_len (T : Tx K mg) : mg "len" = none := T.fr (i := 68)
theorem Tx.f_range (T : Tx K mg) : mg "range" = none := T.fr (i := 69)
theorem Tx.f_min (T : Tx K mg) : mg "min" = none := T.fr (i := 70)
theorem Tx.f_max (T : Tx K mg) : mg "max" = none := T.fr (i := 71)
theorem Tx.f_abs (T : Tx K mg) : mg "abs" = none := T.fr (i := 72)
theorem Tx.f_int (T : Tx K mg) : mg "int" = none := T.fr (i := 73)
theorem Tx.f_list (T : Tx K mg) : mg "list" = none := T.fr (i := 74)
theorem Tx.f_tuple (T : Tx K mg) : mg "tuple" = none := T.fr (i := 75)
theorem Tx.f_sum (T : Tx K mg) : mg "sum" = none := T.fr (i := 76)
theorem Tx.f_zip (T : Tx K mg) : mg "zip" = none := T.fr (i := 77)
theorem Tx.f_enumerate (T : Tx K mg) : mg "enumerate" = none := T.fr (i := 78)
theorem Tx.f_sorted (T : Tx K mg) : mg "sorted" = none := T.fr (i := 79)
theorem Tx.f_set (T : Tx K mg) : mg "set" = none := T.fr (i := 80)
theorem Tx.f_isinstance (T : Tx K mg) : mg "isinstance" = none := T.fr (i := 81)
theorem Tx.f_all (T : Tx K mg) : mg "all" = none := T.fr (i := 82)
theorem Tx.f_bool (T : Tx K mg) : mg "bool" = none := T.fr (i := 83)
theorem Tx.d_is_whole (T : Tx K mg) : ∃ fd, FunD K "is_whole" "is_whole" (defArgs s_is_whole) (defBody s_is_whole) (defScope s_is_whole) [] [] (ga K "is_whole") fd := T.df 0
theorem Tx.d__ratios_lowest (T : Tx K mg) : ∃ fd, FunD K "_ratios_lowest" "_ratios_lowest" (defArgs s__ratios_lowest) (defBody s__ratios_lowest) (defScope s__ratios_lowest) [] [] (ga K "_ratios_lowest") fd := T.df 1
theorem Tx.d_ratio (T : Tx K mg) : ∃ fd, FunD K "ratio" "ratio" (defArgs s_ratio) (defBody s_ratio) (defScope s_ratio) [.int 1] [] (ga K "ratio") fd := T.df 2
theorem Tx.d_grades_of (T : Tx K mg) : ∃ fd, FunD K "grades_of" "grades_of" (defArgs s_grades_of) (defBody s_grades_of) (defScope s_grades_of) [] [] (ga K "grades_of") fd := T.df 3
theorem Tx.d__lots_size (T : Tx K mg) : ∃ fd, FunD K "_lots_size" "_lots_size" (defArgs s__lots_size) (defBody s__lots_size) (defScope s__lots_size) [] [] (ga K "_lots_size") fd := T.df 4
theorem Tx.d_bits_of (T : Tx K mg) : ∃ fd, FunD K "bits_of" "bits_of" (defArgs s_bits_of) (defBody s_bits_of) (defScope s_bits_of) [] [] (ga K "bits_of") fd := T.df 5
theorem Tx.d_lot_from (T : Tx K mg) : ∃ fd, FunD K "lot_from" "lot_from" (defArgs s_lot_from) (defBody s_lot_from) (defScope s_lot_from) [] [] (ga K "lot_from") fd := T.df 6
theorem Tx.d_lot_of (T : Tx K mg) : ∃ fd, FunD K "lot_of" "lot_of" (defArgs s_lot_of) (defBody s_lot_of) (defScope s_lot_of) [] [] (ga K "lot_of") fd := T.df 7
theorem Tx.d_number_of (T : Tx K mg) : ∃ fd, FunD K "number_of" "number_of" (defArgs s_number_of) (defBody s_number_of) (defScope s_number_of) [] [] (ga K "number_of") fd := T.df 8
theorem Tx.d__linking_looks (T : Tx K mg) : ∃ fd, FunD K "_linking_looks" "_linking_looks" (defArgs s__linking_looks) (defBody s__linking_looks) (defScope s__linking_looks) [] [] (ga K "_linking_looks") fd := T.df 9
theorem Tx.d__linking_reached (T : Tx K mg) : ∃ fd, FunD K "_linking_reached" "_linking_reached" (defArgs s__linking_reached) (defBody s__linking_reached) (defScope s__linking_reached) [] [] (ga K "_linking_reached") fd := T.df 10
theorem Tx.d_shut_lot (T : Tx K mg) : ∃ fd, FunD K "shut_lot" "shut_lot" (defArgs s_shut_lot) (defBody s_shut_lot) (defScope s_shut_lot) [] [] (ga K "shut_lot") fd := T.df 11
theorem Tx.d_need_linked (T : Tx K mg) : ∃ fd, FunD K "need_linked" "need_linked" (defArgs s_need_linked) (defBody s_need_linked) (defScope s_need_linked) [] [] (ga K "need_linked") fd := T.df 12
theorem Tx.d_heads (T : Tx K mg) : ∃ fd, FunD K "heads" "heads" (defArgs s_heads) (defBody s_heads) (defScope s_heads) [] [] (ga K "heads") fd := T.df 13
theorem Tx.d_need_one_head (T : Tx K mg) : ∃ fd, FunD K "need_one_head" "need_one_head" (defArgs s_need_one_head) (defBody s_need_one_head) (defScope s_need_one_head) [] [] (ga K "need_one_head") fd := T.df 14
theorem Tx.d__solving_pivot (T : Tx K mg) : ∃ fd, FunD K "_solving_pivot" "_solving_pivot" (defArgs s__solving_pivot) (defBody s__solving_pivot) (defScope s__solving_pivot) [] [] (ga K "_solving_pivot") fd := T.df 15
theorem Tx.d_solved (T : Tx K mg) : ∃ fd, FunD K "solved" "solved" (defArgs s_solved) (defBody s_solved) (defScope s_solved) [] [] (ga K "solved") fd := T.df 16
theorem Tx.d__worlds_row (T : Tx K mg) : ∃ fd, FunD K "_worlds_row" "_worlds_row" (defArgs s__worlds_row) (defBody s__worlds_row) (defScope s__worlds_row) [] [] (ga K "_worlds_row") fd := T.df 17
theorem Tx.d__worlds_takes (T : Tx K mg) : ∃ fd, FunD K "_worlds_takes" "_worlds_takes" (defArgs s__worlds_takes) (defBody s__worlds_takes) (defScope s__worlds_takes) [] [] (ga K "_worlds_takes") fd := T.df 18
theorem Tx.d__worlds_calls (T : Tx K mg) : ∃ fd, FunD K "_worlds_calls" "_worlds_calls" (defArgs s__worlds_calls) (defBody s__worlds_calls) (defScope s__worlds_calls) [] [] (ga K "_worlds_calls") fd := T.df 19
theorem Tx.d__worlds_ties (T : Tx K mg) : ∃ fd, FunD K "_worlds_ties" "_worlds_ties" (defArgs s__worlds_ties) (defBody s__worlds_ties) (defScope s__worlds_ties) [] [] (ga K "_worlds_ties") fd := T.df 20
theorem Tx.d_need_small (T : Tx K mg) : ∃ fd, FunD K "need_small" "need_small" (defArgs s_need_small) (defBody s_need_small) (defScope s_need_small) [] [] (ga K "need_small") fd := T.df 21
theorem Tx.d__win_equation (T : Tx K mg) : ∃ fd, FunD K "_win_equation" "_win_equation" (defArgs s__win_equation) (defBody s__win_equation) (defScope s__win_equation) [] [] (ga K "_win_equation") fd := T.df 22
theorem Tx.d_win_equations (T : Tx K mg) : ∃ fd, FunD K "win_equations" "win_equations" (defArgs s_win_equations) (defBody s_win_equations) (defScope s_win_equations) [] [] (ga K "win_equations") fd := T.df 23
theorem Tx.d_win_tops (T : Tx K mg) : ∃ fd, FunD K "win_tops" "win_tops" (defArgs s_win_tops) (defBody s_win_tops) (defScope s_win_tops) [] [] (ga K "win_tops") fd := T.df 24
theorem Tx.d_win_row (T : Tx K mg) : ∃ fd, FunD K "win_row" "win_row" (defArgs s_win_row) (defBody s_win_row) (defScope s_win_row) [] [] (ga K "win_row") fd := T.df 25
theorem Tx.d_say_numbers (T : Tx K mg) : ∃ fd, FunD K "say_numbers" "say_numbers" (defArgs s_say_numbers) (defBody s_say_numbers) (defScope s_say_numbers) [] [] (ga K "say_numbers") fd := T.df 26
theorem Tx.d__rise_need (T : Tx K mg) : ∃ fd, FunD K "_rise_need" "_rise_need" (defArgs s__rise_need) (defBody s__rise_need) (defScope s__rise_need) [] [] (ga K "_rise_need") fd := T.df 27
theorem Tx.d__rise_tops (T : Tx K mg) : ∃ fd, FunD K "_rise_tops" "_rise_tops" (defArgs s__rise_tops) (defBody s__rise_tops) (defScope s__rise_tops) [] [] (ga K "_rise_tops") fd := T.df 28
theorem Tx.d_call_worth (T : Tx K mg) : ∃ fd, FunD K "call_worth" "call_worth" (defArgs s_call_worth) (defBody s_call_worth) (defScope s_call_worth) [] [] (ga K "call_worth") fd := T.df 29
theorem Tx.d_rise_worth (T : Tx K mg) : ∃ fd, FunD K "rise_worth" "rise_worth" (defArgs s_rise_worth) (defBody s_rise_worth) (defScope s_rise_worth) [] [] (ga K "rise_worth") fd := T.df 30
theorem Tx.d__law_pool (T : Tx K mg) : ∃ fd, FunD K "_law_pool" "_law_pool" (defArgs s__law_pool) (defBody s__law_pool) (defScope s__law_pool) [] [] (ga K "_law_pool") fd := T.df 31
theorem Tx.d__law_pick (T : Tx K mg) : ∃ fd, FunD K "_law_pick" "_law_pick" (defArgs s__law_pick) (defBody s__law_pick) (defScope s__law_pick) [] [] (ga K "_law_pick") fd := T.df 32
theorem Tx.d__law_size (T : Tx K mg) : ∃ fd, FunD K "_law_size" "_law_size" (defArgs s__law_size) (defBody s__law_size) (defScope s__law_size) [] [] (ga K "_law_size") fd := T.df 33
theorem Tx.d__law_rate (T : Tx K mg) : ∃ fd, FunD K "_law_rate" "_law_rate" (defArgs s__law_rate) (defBody s__law_rate) (defScope s__law_rate) [] [] (ga K "_law_rate") fd := T.df 34
theorem Tx.d__law_blank (T : Tx K mg) : ∃ fd, FunD K "_law_blank" "_law_blank" (defArgs s__law_blank) (defBody s__law_blank) (defScope s__law_blank) [] [] (ga K "_law_blank") fd := T.df 35
theorem Tx.d__law_order (T : Tx K mg) : ∃ fd, FunD K "_law_order" "_law_order" (defArgs s__law_order) (defBody s__law_order) (defScope s__law_order) [] [] (ga K "_law_order") fd := T.df 36
theorem Tx.d__law_moved (T : Tx K mg) : ∃ fd, FunD K "_law_moved" "_law_moved" (defArgs s__law_moved) (defBody s__law_moved) (defScope s__law_moved) [] [] (ga K "_law_moved") fd := T.df 37
theorem Tx.d__law_both (T : Tx K mg) : ∃ fd, FunD K "_law_both" "_law_both" (defArgs s__law_both) (defBody s__law_both) (defScope s__law_both) [] [] (ga K "_law_both") fd := T.df 38
theorem Tx.d__law_ring (T : Tx K mg) : ∃ fd, FunD K "_law_ring" "_law_ring" (defArgs s__law_ring) (defBody s__law_ring) (defScope s__law_ring) [] [] (ga K "_law_ring") fd := T.df 39
theorem Tx.d__law_two_way (T : Tx K mg) : ∃ fd, FunD K "_law_two_way" "_law_two_way" (defArgs s__law_two_way) (defBody s__law_two_way) (defScope s__law_two_way) [] [] (ga K "_law_two_way") fd := T.df 40
theorem Tx.d__law_paced (T : Tx K mg) : ∃ fd, FunD K "_law_paced" "_law_paced" (defArgs s__law_paced) (defBody s__law_paced) (defScope s__law_paced) [] [] (ga K "_law_paced") fd := T.df 41
theorem Tx.d__law_stream (T : Tx K mg) : ∃ fd, FunD K "_law_stream" "_law_stream" (defArgs s__law_stream) (defBody s__law_stream) (defScope s__law_stream) [] [] (ga K "_law_stream") fd := T.df 42
theorem Tx.d__law_web (T : Tx K mg) : ∃ fd, FunD K "_law_web" "_law_web" (defArgs s__law_web) (defBody s__law_web) (defScope s__law_web) [] [] (ga K "_law_web") fd := T.df 43
theorem Tx.d__law_calls (T : Tx K mg) : ∃ fd, FunD K "_law_calls" "_law_calls" (defArgs s__law_calls) (defBody s__law_calls) (defScope s__law_calls) [] [] (ga K "_law_calls") fd := T.df 44
theorem Tx.d__law_called (T : Tx K mg) : ∃ fd, FunD K "_law_called" "_law_called" (defArgs s__law_called) (defBody s__law_called) (defScope s__law_called) [] [] (ga K "_law_called") fd := T.df 45
theorem Tx.d__law_lots (T : Tx K mg) : ∃ fd, FunD K "_law_lots" "_law_lots" (defArgs s__law_lots) (defBody s__law_lots) (defScope s__law_lots) [] [] (ga K "_law_lots") fd := T.df 46
theorem Tx.d__law_number (T : Tx K mg) : ∃ fd, FunD K "_law_number" "_law_number" (defArgs s__law_number) (defBody s__law_number) (defScope s__law_number) [] [] (ga K "_law_number") fd := T.df 47
theorem Tx.d__law_gcd (T : Tx K mg) : ∃ fd, FunD K "_law_gcd" "_law_gcd" (defArgs s__law_gcd) (defBody s__law_gcd) (defScope s__law_gcd) [] [] (ga K "_law_gcd") fd := T.df 48
theorem Tx.d__law_int (T : Tx K mg) : ∃ fd, FunD K "_law_int" "_law_int" (defArgs s__law_int) (defBody s__law_int) (defScope s__law_int) [] [] (ga K "_law_int") fd := T.df 49
theorem Tx.d__law_right (T : Tx K mg) : ∃ fd, FunD K "_law_right" "_law_right" (defArgs s__law_right) (defBody s__law_right) (defScope s__law_right) [] [] (ga K "_law_right") fd := T.df 50
theorem Tx.d__law_low (T : Tx K mg) : ∃ fd, FunD K "_law_low" "_law_low" (defArgs s__law_low) (defBody s__law_low) (defScope s__law_low) [] [] (ga K "_law_low") fd := T.df 51
theorem Tx.d__law_sum (T : Tx K mg) : ∃ fd, FunD K "_law_sum" "_law_sum" (defArgs s__law_sum) (defBody s__law_sum) (defScope s__law_sum) [] [] (ga K "_law_sum") fd := T.df 52
theorem Tx.d__law_row_right (T : Tx K mg) : ∃ fd, FunD K "_law_row_right" "_law_row_right" (defArgs s__law_row_right) (defBody s__law_row_right) (defScope s__law_row_right) [] [] (ga K "_law_row_right") fd := T.df 53
theorem Tx.d__law_common (T : Tx K mg) : ∃ fd, FunD K "_law_common" "_law_common" (defArgs s__law_common) (defBody s__law_common) (defScope s__law_common) [] [] (ga K "_law_common") fd := T.df 54
theorem Tx.d__law_win_fits (T : Tx K mg) : ∃ fd, FunD K "_law_win_fits" "_law_win_fits" (defArgs s__law_win_fits) (defBody s__law_win_fits) (defScope s__law_win_fits) [] [] (ga K "_law_win_fits") fd := T.df 55
theorem Tx.d__law_solve (T : Tx K mg) : ∃ fd, FunD K "_law_solve" "_law_solve" (defArgs s__law_solve) (defBody s__law_solve) (defScope s__law_solve) [] [] (ga K "_law_solve") fd := T.df 56
theorem Tx.d__law_says (T : Tx K mg) : ∃ fd, FunD K "_law_says" "_law_says" (defArgs s__law_says) (defBody s__law_says) (defScope s__law_says) [] [] (ga K "_law_says") fd := T.df 57
theorem Tx.d__law_is_line (T : Tx K mg) : ∃ fd, FunD K "_law_is_line" "_law_is_line" (defArgs s__law_is_line) (defBody s__law_is_line) (defScope s__law_is_line) [] [] (ga K "_law_is_line") fd := T.df 58
theorem Tx.d__law_by_says (T : Tx K mg) : ∃ fd, FunD K "_law_by_says" "_law_by_says" (defArgs s__law_by_says) (defBody s__law_by_says) (defScope s__law_by_says) [] [] (ga K "_law_by_says") fd := T.df 59
theorem Tx.d__law_by_wins (T : Tx K mg) : ∃ fd, FunD K "_law_by_wins" "_law_by_wins" (defArgs s__law_by_wins) (defBody s__law_by_wins) (defScope s__law_by_wins) [] [] (ga K "_law_by_wins") fd := T.df 60
theorem Tx.d__law_due (T : Tx K mg) : ∃ fd, FunD K "_law_due" "_law_due" (defArgs s__law_due) (defBody s__law_due) (defScope s__law_due) [] [] (ga K "_law_due") fd := T.df 61
theorem Tx.d__law_refused (T : Tx K mg) : ∃ fd, FunD K "_law_refused" "_law_refused" (defArgs s__law_refused) (defBody s__law_refused) (defScope s__law_refused) [] [] (ga K "_law_refused") fd := T.df 62
theorem Tx.d_law (T : Tx K mg) : ∃ fd, FunD K "law" "law" (defArgs s_law) (defBody s_law) (defScope s_law) [] [] (ga K "law") fd := T.df 63
theorem Tx.d_World___init__ (T : Tx K mg) : ∃ fd, FunD K "__init__" "World.__init__" (defArgs s_World___init__) (defBody s_World___init__) (defScope s_World___init__) [] [("calls", .non)] (ma K (ga K "World") "__init__") fd := T.df 64
theorem Tx.d_World_calling (T : Tx K mg) : ∃ fd, FunD K "calling" "World.calling" (defArgs s_World_calling) (defBody s_World_calling) (defScope s_World_calling) [] [] (ma K (ga K "World") "calling") fd := T.df 65
theorem Tx.d_BadGrades___init__ (T : Tx K mg) : ∃ fd, FunD K "__init__" "BadGrades.__init__" (defArgs s_BadGrades___init__) (defBody s_BadGrades___init__) (defScope s_BadGrades___init__) [] [] (ma K (ga K "BadGrades") "__init__") fd := T.df 66
theorem Tx.gcd (T : Tx K mg) : mg "gcd" = some (.builtin "math.gcd") := let ⟨_, X, G⟩ := T.at_; PySem.W.mg_of X G (eqO_ok (T.says.more 0))
theorem Tx.sl_size (T : Tx K mg) : Slt K (ga K "World") "size" (slIx K (ga K "World") "size") (ma K (ga K "World") "size") := (sltB_ok (T.says.more 1)).1
theorem Tx.sl_takes (T : Tx K mg) : Slt K (ga K "World") "takes" (slIx K (ga K "World") "takes") (ma K (ga K "World") "takes") := (sltB_ok (T.says.more 2)).1
theorem Tx.sl_calls (T : Tx K mg) : Slt K (ga K "World") "calls" (slIx K (ga K "World") "calls") (ma K (ga K "World") "calls") := (sltB_ok (T.says.more 3)).1
theorem Tx.scls (T : Tx K mg) : SCls K (ga K "World") := sclsB_ok (T.says.more 4)
theorem Tx.lts (T : Tx K mg) : slIx K (ga K "World") "size" < 3 ∧ slIx K (ga K "World") "takes" < 3 ∧ slIx K (ga K "World") "calls" < 3 := ⟨(sltB_ok (T.says.more 1)).2, (sltB_ok (T.says.more 2)).2, (sltB_ok (T.says.more 3)).2⟩
theorem Tx.nes (T : Tx K mg) : slIx K (ga K "World") "size" ≠ slIx K (ga K "World") "takes" ∧ slIx K (ga K "World") "size" ≠ slIx K (ga K "World") "calls" ∧ slIx K (ga K "World") "takes" ≠ slIx K (ga K "World") "calls" := by
  obtain ⟨a, b⟩ := ba (T.says.more 5)
  obtain ⟨b, c⟩ := ba b
  exact ⟨of_decide_eq_true a, of_decide_eq_true b, of_decide_eq_true c⟩
theorem Tx.mkr (T : Tx K mg) : Mk K (ga K "World") (ma K (ga K "World") "__init__") := mkr_ok (T.says.more 6)
theorem Tx.calling (T : Tx K mg) : Meth K (ga K "World") "calling" (ma K (ga K "World") "calling") := meth_ok (T.says.more 7)
theorem Tx.oex (T : Tx K mg) : OexC K (ga K "BadGrades") := oexB_ok (T.says.more 8)
theorem Tx.exc (T : Tx K mg) : XfC K (ga K "BadGrades") ∧ ExcC K (ga K "BadGrades") := excB_ok (T.says.more 9)
theorem Tx.bg (T : Tx K mg) : PySem.W.findIn K (.ref (ga K "BadGrades")) "__init__" = some (some (.ref (ma K (ga K "BadGrades") "__init__"))) ∧ PySem.W.typeIn K (.ref (ma K (ga K "BadGrades") "__init__")) = some (.type "function") ∧
    PySem.W.findIn K (.ref (ga K "BadGrades")) "at" = some none ∧ PySem.W.exmOne K (.ref (ga K "BadGrades")) (.ref (ga K "BadGrades")) = some true ∧ PySem.W.kitOne K (.ref (ga K "BadGrades")) (.ref (ga K "RatesError")) = some true ∧
    PySem.W.kitOne K (.ref (ga K "BadGrades")) (.ref (ga K "BadLot")) = some false := by
  obtain ⟨a, b⟩ := ba (T.says.more 10)
  obtain ⟨b, c⟩ := ba b
  obtain ⟨c, d⟩ := ba c
  obtain ⟨d, e⟩ := ba d
  obtain ⟨e, f⟩ := ba e
  exact ⟨eqO_ok a, of_decide_eq_true b, eqO_ok c, of_decide_eq_true d, of_decide_eq_true e, of_decide_eq_true f⟩
end
/-! ### a def that lets nothing out -/
section
variable (P : Program) (w : World) (K : PySem.W.Frag) (mg : Str → Option Value) (base : Heap)
/-- the def x of the module keeps the promise sp -/
def Ok (k : Nat) (x : Str) (ps : List Str) (sp : Sp) : Prop := ∃ fd, FnOk P w K mg base CX0 k (ga K x) fd ps sp ∧ Binds K fd ps [] ∧ PySem.W.keepIn K (.ref (ga K x)) = true
end
section
variable {K : PySem.W.Frag} {mg : Str → Option Value} {base : Heap} {P : Program} {w : World}
theorem ok_of {x : Str} {st : Stmt} {N ps : List Str} {k : Nat} {sp : Sp} (F : ∃ fd, FunD K x x (defArgs st) (defBody st) (defScope st) [] [] (ga K x) fd) (S : FnScope N ps (defScope st))
    (bi : ∀ (kV doc pm : Value) (an : Option Addr) (cdv ct : Value) (us : List Value), us.length = ps.length → bindArgs (PySem.W.fnOf x x (defArgs st) (defBody st) (defScope st) .none kV doc pm an cdv ct) ⟨us, []⟩ = pure (ps.zip us))
    (len : ∀ xs J Q E, sp xs J Q E → xs.length = ps.length)
    (hbody : ∀ (f : Addr) (cdv : Value) (A : Around) (outer : List Env) (s : Shared) (H : Hp) (vs : List V) (Q : VK) (E : XK), Room k (A.deeper (envOfC x (defScope st) s.heap.objs.size f cdv)) → sp vs H Q E →
      ∃ t, PSs (cxOf CX0 P w K mg base N x (defScope st) f cdv A outer s H E).nox (defBody st) t ∧ t { nx := fun _ H' => Q .non H', rt := Q } (start N vs) H) : Ok P w K mg base (k + 1) x ps sp := by
  obtain ⟨fd, F⟩ := F
  refine ⟨fd, F.ok S len fun cdv A outer s H vs Q E hr h => ?_, F.bindsN bi, F.kp⟩
  obtain ⟨t, a, b⟩ := hbody _ cdv A outer s H vs Q E hr h
  exact ⟨t, a.nox, b⟩
theorem Ok.mono {j k : Nat} {x : Str} {ps : List Str} {sp : Sp} (h : Ok P w K mg base j x ps sp) (hjk : j ≤ k) : Ok P w K mg base k x ps sp := by
  obtain ⟨fd, a, b⟩ := h
  exact ⟨fd, a.mono hjk, b⟩
end
/-! ### further rules -/
section
variable {X : Cx}
/-- // by any divisor but 0 of less than 9000 bits -/
def CDivY (_ j : Int) : Prop := j ≠ 0 ∧ j.natAbs.log2 < 9000
theorem op_fdivY : OpR X (binaryOp .FloorDiv) (rI CDivY fun i j => .int (i.fdiv j)) := opI fun _ _ _ _ _ _ _ hc q => floordiv_int hc.1 q (.inl (PyProof.noPylong_of_log2 hc.2))
/-- xs[i] by values -/
def gL (K : PySem.W.Frag) : V → V → Hp → VK → Prop := fun x y H Q => ∃ p xs i v, x = .ref p ∧ y = .int i ∧ SqL K H p xs ∧ 0 ≤ i ∧ i < 2 ^ 63 ∧ xs[i.toNat]? = some v ∧ Q v H
theorem get_list : PGet X (gL X.K) := by
  intro pins s σ H o i ov iv Q I ro ri h
  obtain ⟨p, xs, k, v, rfl, rfl, hS, h0, h1, hx, q⟩ := h
  cases ro
  obtain ⟨t, rfl⟩ := ri
  obtain ⟨its, r, pl, hz⟩ := I.list hS
  obtain ⟨u, eu, ru⟩ := r.get hx
  exact wpAny_getItem_list pl.isList h0 h1 (by simpa using eu) ⟨v, H, I, ru, q⟩
end
end Cy
/-! a layer above the readings: what stands in a view G of the heap H, by relations of values to data; evaluation that leaves the view as it is or makes it greater -/
namespace Cy
open L2 PySem PySem.Spec PyProof.Rows
def Ex (G H : Hp) : Prop := ∀ p u, G p = some u → H p = some u
theorem Ex.refl (G : Hp) : Ex G G := fun _ _ z => z
theorem Ex.trans {G1 G2 G3 : Hp} (a : Ex G1 G2) (b : Ex G2 G3) : Ex G1 G3 := fun p u z => b p u (a p u z)
theorem Ex.new {H : Hp} {p : Addr} {o : HO} (h : H p = Option.none) : Ex H (upd H p o) := fun a u e => by
  rw [upd_ne (ne_of_none e h)]; exact e
theorem Ex.none {G H : Hp} (e : Ex G H) {p : Addr} (h : H p = none) : G p = none := by
  cases q : G p with
  | none => rfl
  | some o => rw [e p o q] at h; cases h
theorem Ex.mut {G H : Hp} {p : Addr} {o : HO} (e : Ex G H) (h : G p = Option.none) : Ex G (upd H p o) := fun a u ha => by
  rw [upd_ne (ne_of_none ha h)]; exact e a u ha
theorem Ex.both {G H : Hp} {p : Addr} {o : HO} (e : Ex G H) : Ex (upd G p o) (upd H p o) := fun a u ha => by
  by_cases h : a = p
  · rw [h, upd_same] at ha ⊢; exact ha
  · rw [upd_ne h] at ha ⊢; exact e a u ha
theorem Ex.add {G H : Hp} {p : Addr} {o : HO} (e : Ex G H) (h : H p = some o) : Ex (upd G p o) H := fun a u ha => by
  by_cases q : a = p
  · rw [q, upd_same] at ha; rw [q, h]; exact ha
  · rw [upd_ne q] at ha; exact e a u ha
/-- from the view G of H to the view G' of H': nothing changed, and what of G' stood in H stood in G -/
structure Stp (G H G' H' : Hp) : Prop where
  h : Ex H H'
  g : Ex G G'
  v : Ex G' H'
  n : ∀ b o, H b = some o → G b = none → G' b = none
theorem Stp.refl {G H : Hp} (e : Ex G H) : Stp G H G H := ⟨Ex.refl H, Ex.refl G, e, fun _ _ _ h => h⟩
theorem Stp.trans {G H G1 H1 G2 H2 : Hp} (a : Stp G H G1 H1) (b : Stp G1 H1 G2 H2) : Stp G H G2 H2 :=
  ⟨a.h.trans b.h, a.g.trans b.g, b.v, fun x o h g => b.n x o (a.h x o h) (a.n x o h g)⟩
theorem Stp.new {G H : Hp} {p : Addr} {o : HO} (e : Ex G H) (h : H p = none) : Stp G H (upd G p o) (upd H p o) :=
  ⟨Ex.new h, Ex.new (e.none h), e.both, fun b u hb g => by rw [upd_ne (ne_of_none hb h)]; exact g⟩
/-- an own object (not of the start) changes -/
theorem Stp.mut {G H G1 H1 : Hp} {p : Addr} {o : HO} (a : Stp G H G1 H1) (h : H p = none) (g : G1 p = none) : Stp G H G1 (upd H1 p o) :=
  ⟨a.h.mut h, a.g, a.v.mut g, a.n⟩
/-- an own object is shown -/
theorem Stp.add {G H G1 H1 : Hp} {p : Addr} {o : HO} (a : Stp G H G1 H1) (h : H p = none) (g : G1 p = none) (e : H1 p = some o) : Stp G H (upd G1 p o) H1 :=
  ⟨a.h, a.g.trans (Ex.new g), a.v.add e, fun b u hb z => by rw [upd_ne (ne_of_none hb h)]; exact a.n b u hb z⟩
/-- an own object is made, not shown yet -/
theorem Stp.own {G H G1 H1 : Hp} {p : Addr} {o : HO} (a : Stp G H G1 H1) (h : H1 p = none) : Stp G H G1 (upd H1 p o) :=
  ⟨a.h.trans (Ex.new h), a.g, a.v.trans (Ex.new h), a.n⟩

/-! ### relations of values to data -/
abbrev Rel (α : Type) := Hp → V → α → Prop
class Mono {α : Type} (R : Rel α) : Prop where
  up : ∀ {G G' : Hp} {v : V} {x : α}, Ex G G' → R G v x → R G' v x
def IR : Rel Int := fun _ v i => v = .int i
def BR : Rel Bool := fun _ v b => v = .bl b
def NR : Rel Nat := fun _ v i => v = .int (i : Int)
/-- the value itself -/
def VR : Rel V := fun _ v u => v = u
instance : Mono IR := ⟨fun _ h => h⟩
instance : Mono BR := ⟨fun _ h => h⟩
instance : Mono NR := ⟨fun _ h => h⟩
instance : Mono VR := ⟨fun _ h => h⟩
theorem paired_imp {α β : Type} {F F' : α → β → Prop} (h : ∀ a b, F a b → F' a b) : ∀ {l : List α} {l' : List β}, Paired F l l' → Paired F' l l'
  | _, _, .nil => .nil
  | _, _, .cons a r => .cons (h _ _ a) (paired_imp h r)
/-- a list | a tuple of such -/
def Ls {α : Type} (R : Rel α) : Rel (List α) := fun G v xs => ∃ a us, v = .ref a ∧ G a = some (.lst us) ∧ Paired (R G) us xs
def Tp {α : Type} (R : Rel α) : Rel (List α) := fun G v xs => ∃ a us, v = .ref a ∧ G a = some (.tup us) ∧ Paired (R G) us xs
def Sq {α : Type} (R : Rel α) : Rel (List α) := fun G v xs => Ls R G v xs ∨ Tp R G v xs
/-- a pair, a tuple -/
def P2 {α β : Type} (R : Rel α) (S : Rel β) : Rel (α × β) := fun G v x => ∃ a u w, v = .ref a ∧ G a = some (.tup [u, w]) ∧ R G u x.1 ∧ S G w x.2
/-- a list of two things -/
def L2_ {α β : Type} (R : Rel α) (S : Rel β) : Rel (α × β) := fun G v x => ∃ a u w, v = .ref a ∧ G a = some (.lst [u, w]) ∧ R G u x.1 ∧ S G w x.2
instance {α : Type} {R : Rel α} [Mono R] : Mono (Ls R) := ⟨fun e ⟨a, us, h1, h2, h3⟩ => ⟨a, us, h1, e _ _ h2, paired_imp (fun _ _ => Mono.up e) h3⟩⟩
instance {α : Type} {R : Rel α} [Mono R] : Mono (Tp R) := ⟨fun e ⟨a, us, h1, h2, h3⟩ => ⟨a, us, h1, e _ _ h2, paired_imp (fun _ _ => Mono.up e) h3⟩⟩
instance {α : Type} {R : Rel α} [Mono R] : Mono (Sq R) := ⟨fun e h => h.elim (fun h => .inl (Mono.up e h)) (fun h => .inr (Mono.up e h))⟩
instance {α β : Type} {R : Rel α} {S : Rel β} [Mono R] [Mono S] : Mono (P2 R S) := ⟨fun e ⟨a, u, w, h1, h2, h3, h4⟩ => ⟨a, u, w, h1, e _ _ h2, Mono.up e h3, Mono.up e h4⟩⟩
instance {α β : Type} {R : Rel α} {S : Rel β} [Mono R] [Mono S] : Mono (L2_ R S) := ⟨fun e ⟨a, u, w, h1, h2, h3, h4⟩ => ⟨a, u, w, h1, e _ _ h2, Mono.up e h3, Mono.up e h4⟩⟩
abbrev FR : Rel (Int × Int) := P2 IR IR
theorem Ls.sq {α : Type} {R : Rel α} {G : Hp} {v : V} {xs : List α} (h : Ls R G v xs) : Sq R G v xs := .inl h
theorem Tp.sq {α : Type} {R : Rel α} {G : Hp} {v : V} {xs : List α} (h : Tp R G v xs) : Sq R G v xs := .inr h
theorem paired_ints {G : Hp} : ∀ {us : List V} {ns : List Int}, Paired (IR G) us ns → us = ns.map V.int
  | _, _, .nil => rfl
  | _, _, .cons a r => by rw [show _ = V.int _ from a, paired_ints r]; rfl
theorem ints_paired (G : Hp) : ∀ ns : List Int, Paired (IR G) (ns.map V.int) ns
  | [] => .nil
  | n :: r => .cons rfl (ints_paired G r)
theorem paired_get1 {α β : Type} {F : α → β → Prop} : ∀ {l : List α} {l' : List β} {i : Nat} {y : β}, Paired F l l' → l'[i]? = some y → ∃ x, l[i]? = some x ∧ F x y
  | _, _, _, _, .nil, h => by simp at h
  | _, _, 0, _, .cons a r, h => by
    have e := Option.some.inj h
    subst e
    exact ⟨_, rfl, a⟩
  | _, _, i + 1, _, .cons a r, h => paired_get1 (i := i) r h
theorem paired_len {α β : Type} {F : α → β → Prop} : ∀ {l : List α} {l' : List β}, Paired F l l' → l.length = l'.length
  | _, _, .nil => rfl
  | _, _, .cons a r => by rw [List.length_cons, List.length_cons, paired_len r]
theorem paired_app {α β : Type} {F : α → β → Prop} {a : List α} {b : List β} {c : List α} {d : List β} (h : Paired F a b) (h' : Paired F c d) : Paired F (a ++ c) (b ++ d) := by
  induction h with
  | nil => exact h'
  | cons x r ih => exact .cons x ih
theorem paired_get2 {α β : Type} {F : α → β → Prop} : ∀ {l : List α} {l' : List β} {i : Nat} {x : α}, Paired F l l' → l[i]? = some x → ∃ y, l'[i]? = some y ∧ F x y
  | _, _, _, _, .nil, h => by simp at h
  | _, _, 0, _, .cons a r, h => by
    have e := Option.some.inj h
    subst e
    exact ⟨_, rfl, a⟩
  | _, _, i + 1, _, .cons a r, h => paired_get2 (i := i) r h

/-! ### evaluation -/
def Ev {α : Type} (te : TE) (σ : L2.St) (G H : Hp) (R : Rel α) (x : α) : Prop := ∀ G1 H1, Stp G H G1 H1 → ∀ Q : VK, (∀ v G2 H2, Stp G1 H1 G2 H2 → R G2 v x → Q v H2) → te σ H1 Q
def EvT (tt : TT) (σ : L2.St) (G H : Hp) (b : Bool) : Prop := ∀ G1 H1, Stp G H G1 H1 → ∀ Q : Bool → Hp → Prop, (∀ G2 H2, Stp G1 H1 G2 H2 → Q b H2) → tt σ H1 Q
def EvA (ta : TA) (σ : L2.St) (G H : Hp) (A : List V → Hp → Prop) : Prop := ∀ G1 H1, Stp G H G1 H1 → ∀ Q : List V → Hp → Prop, (∀ vs G2 H2, Stp G1 H1 G2 H2 → A vs G2 → Q vs H2) → ta σ H1 Q
def EvO (to : TO) (σ : L2.St) (G H : Hp) (o : Option Int) : Prop := ∀ G1 H1, Stp G H G1 H1 → ∀ Q : Option Int → Hp → Prop, (∀ G2 H2, Stp G1 H1 G2 H2 → Q o H2) → to σ H1 Q
/-- operations on values -/
def RV {α : Type} (r : R2) (x y : V) (G : Hp) (R : Rel α) (z : α) : Prop := ∀ G1 H1, Ex G G1 → Ex G1 H1 → ∀ Q : VK, (∀ v G2 H2, Stp G1 H1 G2 H2 → R G2 v z → Q v H2) → r x y H1 Q
section
variable {α β γ : Type} {K : PySem.W.Frag} {σ : L2.St} {G H : Hp} {ta tb te tx : TE} {t u : TT} {R : Rel α} {S : Rel β} {U : Rel γ} {x : α} {y : β} {z : γ} {r : R2} {i j : Int} {b c : Bool}
theorem Ev.mono {G' H' : Hp} (s : Stp G H G' H') (h : Ev te σ G H R x) : Ev te σ G' H' R x := fun G1 H1 a Q q => h G1 H1 (s.trans a) Q q
theorem EvT.mono {G' H' : Hp} (s : Stp G H G' H') (h : EvT t σ G H b) : EvT t σ G' H' b := fun G1 H1 a Q q => h G1 H1 (s.trans a) Q q
theorem Ev.run (h : Ev te σ G H R x) (e : Ex G H) {Q : VK} (q : ∀ v G2 H2, Stp G H G2 H2 → R G2 v x → Q v H2) : te σ H Q := h G H (Stp.refl e) Q q
theorem EvT.run (h : EvT t σ G H b) (e : Ex G H) {Q : Bool → Hp → Prop} (q : ∀ G2 H2, Stp G H G2 H2 → Q b H2) : t σ H Q := h G H (Stp.refl e) Q q
theorem Ev.imp (h : Ev te σ G H R x) (f : ∀ G' v, R G' v x → S G' v y) : Ev te σ G H S y := fun G1 H1 s Q q => h G1 H1 s Q fun v G2 H2 s2 r => q v G2 H2 s2 (f G2 v r)
theorem ev_var [Mono R] {i : Nat} {v : V} (h : σ[i]? = some (some v)) (r : R G v x) : Ev (tVar i) σ G H R x := fun G1 H1 s _ q => ⟨v, h, q v G1 H1 (Stp.refl s.v) (Mono.up s.g r)⟩
theorem ev_int : Ev (tC (.int i)) σ G H IR i := fun G1 H1 s _ q => q _ G1 H1 (Stp.refl s.v) rfl
theorem ev_bl : Ev (tC (.bl b)) σ G H BR b := fun G1 H1 s _ q => q _ G1 H1 (Stp.refl s.v) rfl
theorem ev_c {v : V} : Ev (tC v) σ G H VR v := fun G1 H1 s _ q => q _ G1 H1 (Stp.refl s.v) rfl
theorem ev_op [Mono R] (ha : Ev ta σ G H R x) (hb : Ev tb σ G H S y) (hr : ∀ G' v w, Ex G G' → R G' v x → S G' w y → RV r v w G' U z) : Ev (tOp r ta tb) σ G H U z := fun G1 H1 s Q q =>
  ha G1 H1 s _ fun v G2 H2 s2 rv => hb G2 H2 (s.trans s2) _ fun w G3 H3 s3 rw => hr G3 v w (s.g.trans (s2.g.trans s3.g)) (Mono.up s3.g rv) rw G3 H3 (Ex.refl _) s3.v Q fun z' G4 H4 s4 q4 => q z' G4 H4 (s2.trans (s3.trans s4)) q4
theorem ev_I0 {f : Int → Int → Int} (ha : Ev ta σ G H IR i) (hb : Ev tb σ G H IR j) : Ev (tOp (rI0 fun i j => .int (f i j)) ta tb) σ G H IR (f i j) := ev_op ha hb fun G' v w _ e1 e2 G1 H1 _ v1 Q q => ⟨i, j, e1, e2, q _ G1 H1 (Stp.refl v1) rfl⟩
theorem ev_B0 {f : Int → Int → Bool} (ha : Ev ta σ G H IR i) (hb : Ev tb σ G H IR j) : Ev (tOp (rI0 fun i j => .bl (f i j)) ta tb) σ G H BR (f i j) := ev_op ha hb fun G' v w _ e1 e2 G1 H1 _ v1 Q q => ⟨i, j, e1, e2, q _ G1 H1 (Stp.refl v1) rfl⟩
theorem ev_I {C : Int → Int → Prop} {f : Int → Int → Int} (ha : Ev ta σ G H IR i) (hb : Ev tb σ G H IR j) (hc : C i j) : Ev (tOp (rI C fun i j => .int (f i j)) ta tb) σ G H IR (f i j) := ev_op ha hb fun G' v w _ e1 e2 G1 H1 _ v1 Q q => ⟨i, j, e1, e2, hc, q _ G1 H1 (Stp.refl v1) rfl⟩
theorem ev_un {f : Int → Int} (ha : Ev ta σ G H IR i) : Ev (tUn (rU fun i => .int (f i)) ta) σ G H IR (f i) := fun G1 H1 s Q q =>
  ha G1 H1 s _ fun v G2 H2 s2 rv => ⟨i, rv, q _ G2 H2 s2 rfl⟩
/-- == of two scalars: ints | anything flat by value -/
theorem ev_eqI (ha : Ev ta σ G H IR i) (hb : Ev tb σ G H IR j) : Ev (tOp rEq ta tb) σ G H BR (decide (i = j)) := ev_op ha hb fun G' v w _ e1 e2 G1 H1 _ v1 Q q => by
  cases e1; cases e2
  refine ⟨rfl, q _ G1 H1 (Stp.refl v1) ?_⟩
  show V.bl _ = V.bl _
  rw [dec_int, Bool.beq_eq_decide_eq]
theorem ev_neI (ha : Ev ta σ G H IR i) (hb : Ev tb σ G H IR j) : Ev (tOp rNe ta tb) σ G H BR (!decide (i = j)) := ev_op ha hb fun G' v w _ e1 e2 G1 H1 _ v1 Q q => by
  cases e1; cases e2
  refine ⟨rfl, q _ G1 H1 (Stp.refl v1) ?_⟩
  show V.bl _ = V.bl _
  rw [dec_int, Bool.beq_eq_decide_eq]
/-! tests -/
theorem et_test (h : Ev te σ G H BR b) : EvT (tTest te) σ G H b := fun G1 H1 s Q q => h G1 H1 s _ fun v G2 H2 s2 r => ⟨b, r, q G2 H2 s2⟩
theorem et_B (h : Ev te σ G H BR b) : EvT (tB te) σ G H b := fun G1 H1 s Q q => h G1 H1 s _ fun v G2 H2 s2 r => ⟨b, r, q G2 H2 s2⟩
theorem et_and (h1 : EvT t σ G H b) (h2 : b = true → EvT u σ G H c) : EvT (tAnd t u) σ G H (b && c) := fun G1 H1 s Q q => h1 G1 H1 s _ fun G2 H2 s2 => by
  cases b with
  | true =>
    show u σ H2 Q
    exact h2 rfl G2 H2 (s.trans s2) Q fun G3 H3 s3 => q G3 H3 (s2.trans s3)
  | false => exact q G2 H2 s2
theorem et_or (h1 : EvT t σ G H b) (h2 : b = false → EvT u σ G H c) : EvT (tOr t u) σ G H (b || c) := fun G1 H1 s Q q => h1 G1 H1 s _ fun G2 H2 s2 => by
  cases b with
  | false =>
    show u σ H2 Q
    exact h2 rfl G2 H2 (s.trans s2) Q fun G3 H3 s3 => q G3 H3 (s2.trans s3)
  | true => exact q G2 H2 s2
theorem et_not (h : EvT t σ G H b) : EvT (tNot t) σ G H (!b) := fun G1 H1 s Q q => h G1 H1 s _ fun G2 H2 s2 => q G2 H2 s2
theorem ev_andV (h1 : Ev ta σ G H BR b) (h2 : b = true → Ev tb σ G H BR c) : Ev (tAndV ta tb) σ G H BR (b && c) := fun G1 H1 s Q q => h1 G1 H1 s _ fun v G2 H2 s2 r => ⟨b, r, by
  cases b with
  | true =>
    show tb σ H2 Q
    exact h2 rfl G2 H2 (s.trans s2) Q fun v G3 H3 s3 r3 => q v G3 H3 (s2.trans s3) r3
  | false => exact q _ G2 H2 s2 rfl⟩
theorem ev_orV (h1 : Ev ta σ G H BR b) (h2 : b = false → Ev tb σ G H BR c) : Ev (tOrV ta tb) σ G H BR (b || c) := fun G1 H1 s Q q => h1 G1 H1 s _ fun v G2 H2 s2 r => ⟨b, r, by
  cases b with
  | false =>
    show tb σ H2 Q
    exact h2 rfl G2 H2 (s.trans s2) Q fun v G3 H3 s3 r3 => q v G3 H3 (s2.trans s3) r3
  | true => exact q _ G2 H2 s2 rfl⟩
theorem ev_notV (h : Ev ta σ G H BR b) : Ev (tNotV ta) σ G H BR (!b) := fun G1 H1 s Q q => h G1 H1 s _ fun v G2 H2 s2 r => ⟨b, r, q _ G2 H2 s2 rfl⟩
theorem ev_if (h : EvT t σ G H b) (h1 : b = true → Ev ta σ G H R x) (h2 : b = false → Ev tb σ G H R x) : Ev (tIf t ta tb) σ G H R x := fun G1 H1 s Q q => h G1 H1 s _ fun G2 H2 s2 => by
  cases b with
  | true =>
    show ta σ H2 Q
    exact h1 rfl G2 H2 (s.trans s2) Q fun v G3 H3 s3 r => q v G3 H3 (s2.trans s3) r
  | false =>
    show tb σ H2 Q
    exact h2 rfl G2 H2 (s.trans s2) Q fun v G3 H3 s3 r => q v G3 H3 (s2.trans s3) r
/-- an int, a list as a test -/
abbrev tTru (K : PySem.W.Frag) (te : TE) : TT := fun σ H Q => te σ H fun x H' => ∃ k, TruV K x H' k ∧ Q k H'
/-! tuples, lists, subscripts -/
theorem at_ok {us : List V} {xs : List α} {n : Nat} (p : Paired (R G) us xs) (h : xs[n]? = some x) : ∃ v, atI us (n : Int) = some v ∧ R G v x := by
  obtain ⟨v, e, r⟩ := paired_get1 p h
  exact ⟨v, atI_nat e, r⟩
theorem rv_ixL [Mono R] {n : Nat} {v w : V} {xs : List α} (h : Ls R G v xs) (e : w = .int (n : Int)) (hx : xs[n]? = some x) : RV (rIxL K) v w G R x := by
  intro G1 H1 eg v1 Q q
  obtain ⟨a, us, rfl, ha, p⟩ := h
  obtain ⟨v, e1, r⟩ := at_ok p hx
  exact ⟨a, us, n, v, rfl, e, SqL.of (v1 _ _ (eg _ _ ha)), e1, q v G1 H1 (Stp.refl v1) (Mono.up eg r)⟩
theorem rv_ixT [Mono R] {n : Nat} {v w : V} {xs : List α} (h : Tp R G v xs) (e : w = .int (n : Int)) (hx : xs[n]? = some x) : RV (rIxT K) v w G R x := by
  intro G1 H1 eg v1 Q q
  obtain ⟨a, us, rfl, ha, p⟩ := h
  obtain ⟨v, e1, r⟩ := at_ok p hx
  exact ⟨a, us, n, v, rfl, e, SqT.of (v1 _ _ (eg _ _ ha)), e1, q v G1 H1 (Stp.refl v1) (Mono.up eg r)⟩
/-- xs[i], a list | a tuple | either -/
theorem ev_ixL [Mono R] {n : Nat} {xs : List α} (ha : Ev ta σ G H (Ls R) xs) (hb : Ev tb σ G H IR i) (e : i = (n : Int)) (hx : xs[n]? = some x) : Ev (tOp (rIxL K) ta tb) σ G H R x :=
  ev_op ha hb fun G' v w _ r1 r2 => rv_ixL r1 (by rw [r2, e]) hx
theorem ev_ixT [Mono R] {n : Nat} {xs : List α} (ha : Ev ta σ G H (Tp R) xs) (hb : Ev tb σ G H IR i) (e : i = (n : Int)) (hx : xs[n]? = some x) : Ev (tOp (rIxT K) ta tb) σ G H R x :=
  ev_op ha hb fun G' v w _ r1 r2 => rv_ixT r1 (by rw [r2, e]) hx
theorem ev_ixS [Mono R] {n : Nat} {xs : List α} (ha : Ev ta σ G H (Sq R) xs) (hb : Ev tb σ G H IR i) (e : i = (n : Int)) (hx : xs[n]? = some x) : Ev (tOp (fun x y H Q => rIxL K x y H Q ∨ rIxT K x y H Q) ta tb) σ G H R x :=
  ev_op ha hb fun G' v w _ r1 r2 => r1.elim (fun r1 => fun G1 H1 a b Q q => .inl (rv_ixL r1 (by rw [r2, e]) hx G1 H1 a b Q q)) (fun r1 => fun G1 H1 a b Q q => .inr (rv_ixT r1 (by rw [r2, e]) hx G1 H1 a b Q q))
/-- the parts of a pair -/
theorem ev_fst [Mono R] [Mono S] {p : α × β} (ha : Ev ta σ G H (P2 R S) p) : Ev (tOp (rIxT K) ta (tC (.int 0))) σ G H R p.1 :=
  ev_op ha ev_int fun G' v w _ r1 r2 G1 H1 eg v1 Q q => by
    obtain ⟨a, u, w', rfl, e, r3, r4⟩ := r1
    exact ⟨a, [u, w'], 0, u, rfl, r2, SqT.of (v1 _ _ (eg _ _ e)), atI_nat (j := 0) rfl, q _ G1 H1 (Stp.refl v1) (Mono.up eg r3)⟩
theorem ev_snd [Mono R] [Mono S] {p : α × β} (ha : Ev ta σ G H (P2 R S) p) : Ev (tOp (rIxT K) ta (tC (.int 1))) σ G H S p.2 :=
  ev_op ha ev_int fun G' v w _ r1 r2 G1 H1 eg v1 Q q => by
    obtain ⟨a, u, w', rfl, e, r3, r4⟩ := r1
    exact ⟨a, [u, w'], 1, w', rfl, r2, SqT.of (v1 _ _ (eg _ _ e)), atI_nat (j := 1) rfl, q _ G1 H1 (Stp.refl v1) (Mono.up eg r4)⟩
/-! arguments -/
theorem ea_nil : EvA tNil σ G H (fun vs _ => vs = []) := fun G1 H1 s Q q => q [] G1 H1 (Stp.refl s.v) rfl
def AC {α : Type} (R : Rel α) (x : α) (A : List V → Hp → Prop) : List V → Hp → Prop := fun vs G => ∃ v r, vs = v :: r ∧ R G v x ∧ A r G
abbrev A0 : List V → Hp → Prop := fun vs _ => vs = []
theorem ea_cons [Mono R] {tr : TA} {A : List V → Hp → Prop} (ha : Ev ta σ G H R x) (hr : EvA tr σ G H A) : EvA (tCons ta tr) σ G H (AC R x A) := fun G1 H1 s Q q =>
  ha G1 H1 s _ fun v G2 H2 s2 rv => hr G2 H2 (s.trans s2) _ fun vs G3 H3 s3 a => q (v :: vs) G3 H3 (s2.trans s3) ⟨v, vs, rfl, Mono.up s3.g rv, a⟩
/-! displays -/
theorem ev_tup2 [Mono R] [Mono S] (ha : Ev ta σ G H R x) (hb : Ev tb σ G H S y) : Ev (tTup (tCons ta (tCons tb tNil))) σ G H (P2 R S) (x, y) := fun G1 H1 s Q q =>
  ea_cons ha (ea_cons hb ea_nil) G1 H1 s _ fun vs G2 H2 s2 ⟨v, r, e, r1, w, r', e', r2, e2⟩ => by
    subst e e' e2
    refine ⟨(by show 2 ≤ sizeLine; decide), fun p hp => ?_⟩
    exact q (.ref p) _ _ (s2.trans (Stp.new s2.v hp)) ⟨p, v, w, rfl, upd_same, Mono.up (Ex.new (s2.v.none hp)) r1, Mono.up (Ex.new (s2.v.none hp)) r2⟩
theorem ev_lst2 [Mono R] [Mono S] (ha : Ev ta σ G H R x) (hb : Ev tb σ G H S y) : Ev (tLst (tCons ta (tCons tb tNil))) σ G H (L2_ R S) (x, y) := fun G1 H1 s Q q =>
  ea_cons ha (ea_cons hb ea_nil) G1 H1 s _ fun vs G2 H2 s2 ⟨v, r, e, r1, w, r', e', r2, e2⟩ => by
    subst e e' e2
    refine ⟨(by show 2 ≤ sizeLine; decide), fun p hp => ?_⟩
    exact q (.ref p) _ _ (s2.trans (Stp.new s2.v hp)) ⟨p, v, w, rfl, upd_same, Mono.up (Ex.new (s2.v.none hp)) r1, Mono.up (Ex.new (s2.v.none hp)) r2⟩
/-- items of one kind -/
inductive AL {α : Type} (R : Rel α) (σ : L2.St) (G H : Hp) : TA → List α → Prop
  | nil : AL R σ G H tNil []
  | cons {ta : TE} {tr : TA} {x : α} {xs : List α} (h : Ev ta σ G H R x) (r : AL R σ G H tr xs) : AL R σ G H (tCons ta tr) (x :: xs)
theorem AL.ev [Mono R] {tr : TA} {xs : List α} (h : AL R σ G H tr xs) : EvA tr σ G H (fun vs G' => Paired (R G') vs xs) := by
  induction h with
  | nil => exact fun G1 H1 s Q q => q [] G1 H1 (Stp.refl s.v) .nil
  | cons h r ih => exact fun G1 H1 s Q q => h G1 H1 s _ fun v G2 H2 s2 rv => ih G2 H2 (s.trans s2) _ fun vs G3 H3 s3 a => q (v :: vs) G3 H3 (s2.trans s3) (.cons (Mono.up s3.g rv) a)
theorem small_le {n : Nat} (h : n ≤ 100000) : n ≤ sizeLine := Nat.le_trans h (by decide)
theorem small_lt {n : Nat} (h : n < 100000) : n < sizeLine := Nat.lt_of_lt_of_le h (by decide)
theorem ev_lst [Mono R] {tr : TA} {xs : List α} (h : AL R σ G H tr xs) (hl : xs.length ≤ 100000 := by decide) : Ev (tLst tr) σ G H (Ls R) xs := fun G1 H1 s Q q =>
  h.ev G1 H1 s _ fun vs G2 H2 s2 p => ⟨small_le (by rw [paired_len p]; exact hl), fun a ha => q (.ref a) _ _ (s2.trans (Stp.new s2.v ha)) ⟨a, vs, rfl, upd_same, paired_imp (fun _ _ => Mono.up (Ex.new (s2.v.none ha))) p⟩⟩
theorem ev_tup [Mono R] {tr : TA} {xs : List α} (h : AL R σ G H tr xs) (hl : xs.length ≤ 100000 := by decide) : Ev (tTup tr) σ G H (Tp R) xs := fun G1 H1 s Q q =>
  h.ev G1 H1 s _ fun vs G2 H2 s2 p => ⟨small_le (by rw [paired_len p]; exact hl), fun a ha => q (.ref a) _ _ (s2.trans (Stp.new s2.v ha)) ⟨a, vs, rfl, upd_same, paired_imp (fun _ _ => Mono.up (Ex.new (s2.v.none ha))) p⟩⟩
/-! built-in calls -/
theorem ev_cb {rc : List V → Hp → VK → Prop} {tr : TA} {A : List V → Hp → Prop} (h : EvA tr σ G H A) (hr : ∀ G' H' vs, Ex G G' → Ex G' H' → A vs G' → ∀ Q : VK, (∀ v G2 H2, Stp G' H' G2 H2 → R G2 v x → Q v H2) → rc vs H' Q) : Ev (tCB rc tr) σ G H R x :=
  fun G1 H1 s Q q => h G1 H1 s _ fun vs G2 H2 s2 a => hr G2 H2 vs (s.g.trans s2.g) s2.v a Q fun v G3 H3 s3 r => q v G3 H3 (s2.trans s3) r
theorem ev_len {xs : List α} [Mono R] (ha : Ev ta σ G H (Sq R) xs) : Ev (tCB (fun xs H Q => ∃ p ys, xs = [.ref p] ∧ (SqL K H p ys ∨ SqT K H p ys) ∧ Q (.int ys.length) H) (tCons ta tNil)) σ G H IR (xs.length : Int) :=
  ev_cb (ea_cons ha ea_nil) fun G' H' vs _ v1 ⟨v, r, e, r1, e2⟩ Q q => by
    subst e e2
    rcases r1 with ⟨a, us, rfl, h, p⟩ | ⟨a, us, rfl, h, p⟩
    · exact ⟨a, us, rfl, .inl (SqL.of (v1 _ _ h)), q _ G' H' (Stp.refl v1) (by rw [paired_len p]; rfl)⟩
    · exact ⟨a, us, rfl, .inr (SqT.of (v1 _ _ h)), q _ G' H' (Stp.refl v1) (by rw [paired_len p]; rfl)⟩
theorem ev_abs (ha : Ev ta σ G H IR i) : Ev (tCB (fun xs H Q => ∃ i, xs = [.int i] ∧ Q (.int (if i < 0 then -i else i)) H) (tCons ta tNil)) σ G H IR (i.natAbs : Int) :=
  ev_cb (ea_cons ha ea_nil) fun G' H' vs _ v1 ⟨v, r, e, r1, e2⟩ Q q => by
    subst e e2
    refine ⟨i, by rw [r1], q _ G' H' (Stp.refl v1) ?_⟩
    show V.int _ = V.int _
    congr 1
    split <;> omega
theorem ev_max2 (ha : Ev ta σ G H IR i) (hb : Ev tb σ G H IR j) : Ev (tCB (fun xs H Q => ∃ i j, xs = [.int i, .int j] ∧ Q (.int (if j > i then j else i)) H) (tCons ta (tCons tb tNil))) σ G H IR (max i j) :=
  ev_cb (ea_cons ha (ea_cons hb ea_nil)) fun G' H' vs _ v1 ⟨v, r, e, r1, w, r', e', r2, e2⟩ Q q => by
    subst e e' e2
    refine ⟨i, j, by rw [r1, r2], q _ G' H' (Stp.refl v1) ?_⟩
    show V.int _ = V.int _
    congr 1
    split <;> omega
theorem ev_min2 (ha : Ev ta σ G H IR i) (hb : Ev tb σ G H IR j) : Ev (tCB (fun xs H Q => ∃ i j, xs = [.int i, .int j] ∧ Q (.int (if j < i then j else i)) H) (tCons ta (tCons tb tNil))) σ G H IR (min i j) :=
  ev_cb (ea_cons ha (ea_cons hb ea_nil)) fun G' H' vs _ v1 ⟨v, r, e, r1, w, r', e', r2, e2⟩ Q q => by
    subst e e' e2
    refine ⟨i, j, by rw [r1, r2], q _ G' H' (Stp.refl v1) ?_⟩
    show V.int _ = V.int _
    congr 1
    split <;> omega
theorem ev_int1 (ha : Ev ta σ G H IR i) : Ev (tCB (fun xs H Q => (∃ i, xs = [.int i] ∧ Q (.int i) H) ∨ ∃ k, xs = [.bl k] ∧ Q (.int (if k then 1 else 0)) H) (tCons ta tNil)) σ G H IR i :=
  ev_cb (ea_cons ha ea_nil) fun G' H' vs _ v1 ⟨v, r, e, r1, e2⟩ Q q => by
    subst e e2
    exact .inl ⟨i, by rw [r1], q _ G' H' (Stp.refl v1) rfl⟩
theorem ev_intB (ha : Ev ta σ G H BR b) : Ev (tCB (fun xs H Q => (∃ i, xs = [.int i] ∧ Q (.int i) H) ∨ ∃ k, xs = [.bl k] ∧ Q (.int (if k then 1 else 0)) H) (tCons ta tNil)) σ G H IR (if b then 1 else 0) :=
  ev_cb (ea_cons ha ea_nil) fun G' H' vs _ v1 ⟨v, r, e, r1, e2⟩ Q q => by
    subst e e2
    exact .inr ⟨b, by rw [r1], q _ G' H' (Stp.refl v1) rfl⟩
theorem ev_gcd (ha : Ev ta σ G H IR i) (hb : Ev tb σ G H IR j) : Ev (tCB rGcd (tCons ta (tCons tb tNil))) σ G H IR ((Nat.gcd i.natAbs j.natAbs : Nat) : Int) :=
  ev_cb (ea_cons ha (ea_cons hb ea_nil)) fun G' H' vs _ v1 ⟨v, r, e, r1, w, r', e', r2, e2⟩ Q q => by
    subst e e' e2
    exact ⟨i, j, by rw [r1, r2], q _ G' H' (Stp.refl v1) rfl⟩
theorem ev_bits (ha : Ev ta σ G H IR i) : Ev (tBits ta) σ G H IR (Builtin.Int.intBits i : Nat) := fun G1 H1 s Q q => ha G1 H1 s _ fun v G2 H2 s2 r => ⟨i, r, q _ G2 H2 s2 rfl⟩
/-! own defs that leave all as it is -/
/-- a promise: from the arguments (A, in a view) what is given back (post) -/
def Pu {δ : Type} (A : δ → List V → Hp → Prop) (post : δ → Hp → V → Prop) : Sp := fun vs H Q _ => ∃ G x, Ex G H ∧ A x vs G ∧ ∀ u G' H', Stp G H G' H' → post x G' u → Q u H'
theorem ev_call {δ : Type} {A : δ → List V → Hp → Prop} {post : δ → Hp → V → Prop} {B : List V → Hp → Prop} {tr : TA} {E : XK} (d : δ) (h : EvA tr σ G H B) (hA : ∀ vs G', Ex G G' → B vs G' → A d vs G') (hp : ∀ G' u, post d G' u → R G' u x) : Ev (tCall (Pu A post) [] E tr) σ G H R x :=
  fun G1 H1 s Q q => h G1 H1 s _ fun vs G2 H2 s2 a => ⟨G2, d, s2.v, by rw [List.append_nil]; exact hA vs G2 (s.g.trans s2.g) a, fun u G3 H3 s3 p => q u G3 H3 (s2.trans s3) (hp G3 u p)⟩
end
/-! ### statements -/
section
variable {α : Type} {K : PySem.W.Frag} {σ : L2.St} {G H : Hp} {te : TE} {tc : TT} {t u : TS} {R : Rel α} {x : α} {b : Bool} {D : Ends}
theorem s_set {i : Nat} (h : Ev te σ G H R x) (e : Ex G H) (k : ∀ v G' H', Stp G H G' H' → R G' v x → u D (σ.set i (some v)) H') : tSeq (tAsg te (gName i)) u D σ H := h.run e k
theorem s_set1 {i : Nat} (h : Ev te σ G H R x) (e : Ex G H) (k : ∀ v G' H', Stp G H G' H' → R G' v x → D.nx (σ.set i (some v)) H') : tAsg te (gName i) D σ H := h.run e k
theorem s_ret (h : Ev te σ G H R x) (e : Ex G H) (k : ∀ v G' H', Stp G H G' H' → R G' v x → D.rt v H') : tRet te D σ H := h.run e k
theorem s_if (h : EvT tc σ G H b) (e : Ex G H) (k1 : ∀ G' H', Stp G H G' H' → b = true → t D σ H') (k2 : ∀ G' H', Stp G H G' H' → b = false → u D σ H') : tIfS tc t u D σ H := h.run e fun G' H' s => by
  cases b with
  | true => exact k1 G' H' s rfl
  | false => exact k2 G' H' s rfl
theorem s_ifc {w : TS} (h : EvT tc σ G H b) (e : Ex G H) (k1 : ∀ G' H', Stp G H G' H' → b = true → t { D with nx := w D } σ H') (k2 : ∀ G' H', Stp G H G' H' → b = false → u { D with nx := w D } σ H') : tSeq (tIfS tc t u) w D σ H := s_if (D := { D with nx := w D }) h e k1 k2
end
end Cy
/-! loops and comprehensions over the layer -/
namespace Cy
open L2 PySem PySem.Spec PyProof.Rows
section
variable {α β γ : Type} {K : PySem.W.Frag} {σ : L2.St} {G H : Hp} {te tl : TE} {tt : TT} {tb u : TS} {ta : TA} {g : TG} {wi : TI} {R : Rel α} {S : Rel β} {U : Rel γ} {x : α} {b : Bool} {D : Ends} {n : Nat} {W : Nat → Hp → V → Prop}
theorem ar1 {n : Int} {vs : List V} {G : Hp} (h : AC IR n A0 vs G) : vs = [.int n] := by
  obtain ⟨v, r, rfl, rv, e⟩ := h
  rw [show v = .int n from rv, show r = [] from e]
theorem ar2 {n m : Int} {vs : List V} {G : Hp} (h : AC IR n (AC IR m A0) vs G) : vs = [.int n, .int m] := by
  obtain ⟨v, r, rfl, rv, h2⟩ := h
  rw [show v = .int n from rv, ar1 h2]
theorem ar3 {n m k : Int} {vs : List V} {G : Hp} (h : AC IR n (AC IR m (AC IR k A0)) vs G) : vs = [.int n, .int m, .int k] := by
  obtain ⟨v, r, rfl, rv, h2⟩ := h
  rw [show v = .int n from rv, ar2 h2]
/-- what is walked: n turns, W tells the item of a turn in a view -/
def EvI (wi : TI) (σ : L2.St) (G H : Hp) (n : Nat) (W : Nat → Hp → V → Prop) : Prop := ∀ G1 H1, Stp G H G1 H1 → ∀ R : It → Hp → Prop,
  (∀ J G2 H2 GH Y, Stp G1 H1 G2 H2 → Walk J n GH Y → (∀ H', Ex G2 H' → GH H') → (∀ i G' H' v H'', i < n → Ex G2 G' → Ex G' H' → Y i H' v H'' → ∃ G'', Stp G' H' G'' H'' ∧ W i G'' v) → R J H2) → wi σ H1 R
theorem EvI.mono {G' H' : Hp} (s : Stp G H G' H') (h : EvI wi σ G H n W) : EvI wi σ G' H' n W := fun G1 H1 a Q q => h G1 H1 (s.trans a) Q q
theorem ei_range1 {m : Int} (h : EvA ta σ G H (AC IR m A0)) (h1 : -(2 ^ 62) ≤ m) (h2 : m < 2 ^ 62) : EvI (iRng1 ta) σ G H m.toNat (fun i _ v => v = .int (i : Int)) := fun G1 H1 s R k =>
  h G1 H1 s _ fun vs G2 H2 s2 a => ⟨m, ar1 a, h1, h2, k _ G2 H2 _ _ s2 walk_range (fun _ _ => trivial) fun i G' H' v H'' _ _ e ⟨y1, y2⟩ => ⟨G', by rw [y1]; exact Stp.refl e, by subst y2; show V.int (0 + (i : Int)) = _; rw [Int.zero_add]⟩⟩
theorem ei_range2 {a b : Int} (h : EvA ta σ G H (AC IR a (AC IR b A0))) (hb : -(2 ^ 62) ≤ a ∧ a < 2 ^ 62 ∧ -(2 ^ 62) ≤ b ∧ b < 2 ^ 62) : EvI (iRng2 ta) σ G H (b - a).toNat (fun i _ v => v = .int (a + (i : Int))) := fun G1 H1 s R k =>
  h G1 H1 s _ fun vs G2 H2 s2 q => ⟨a, b, ar2 q, hb, k _ G2 H2 _ _ s2 walk_range (fun _ _ => trivial) fun i G' H' v H'' _ _ e ⟨y1, y2⟩ => ⟨G', by rw [y1]; exact Stp.refl e, y2⟩⟩
/-- range(m - 1, -1, -1) and the like -/
theorem ei_down {a b : Int} (h : EvA ta σ G H (AC IR a (AC IR b (AC IR (-1) A0)))) (hb : -(2 ^ 62) ≤ a ∧ a < 2 ^ 62 ∧ -(2 ^ 62) ≤ b ∧ b < 2 ^ 62) : EvI (iRng3 ta) σ G H (a - b).toNat (fun i _ v => v = .int (a - (i : Int))) := fun G1 H1 s R k =>
  h G1 H1 s _ fun vs G2 H2 s2 q => ⟨a, b, -1, _, ar3 q, RgC.neg hb.1 hb.2.1 hb.2.2.1 hb.2.2.2, k _ G2 H2 _ _ s2 walk_rangeC (fun _ _ => trivial) fun i G' H' v H'' _ _ e ⟨y1, y2⟩ => ⟨G', by rw [y1]; exact Stp.refl e, by subst y2; show V.int (a + ((i : Nat) : Int) * -1) = _; congr 1; omega⟩⟩
theorem ei_list [Mono R] {xs : List α} (h : Ev tl σ G H (Ls R) xs) : EvI (iList K tl) σ G H xs.length (fun i G v => ∃ y, xs[i]? = some y ∧ R G v y) := fun G1 H1 s Q k =>
  h G1 H1 s _ fun v G2 H2 s2 ⟨a, us, ev, ha, p⟩ => ⟨a, ev, ⟨us, SqL.of (s2.v _ _ ha)⟩, k _ G2 H2 (fun H => SqL K H a us) (YAt us) s2 (by rw [← paired_len p]; exact walk_list) (fun H' e => SqL.of (e _ _ ha)) fun i G' H' v H'' _ e1 e ⟨y1, y2⟩ => by
    obtain ⟨y, hy, r⟩ := paired_get2 p y2
    exact ⟨G', by rw [y1]; exact Stp.refl e, y, hy, Mono.up e1 r⟩⟩
theorem ei_tup [Mono R] {xs : List α} (h : Ev tl σ G H (Tp R) xs) : EvI (iTup K tl) σ G H xs.length (fun i G v => ∃ y, xs[i]? = some y ∧ R G v y) := fun G1 H1 s Q k =>
  h G1 H1 s _ fun v G2 H2 s2 ⟨a, us, ev, ha, p⟩ => ⟨a, ev, ⟨us, SqT.of (s2.v _ _ ha)⟩, k _ G2 H2 (fun H => SqT K H a us) (YAt us) s2 (by rw [← paired_len p]; exact walk_tup) (fun H' e => SqT.of (e _ _ ha)) fun i G' H' v H'' _ e1 e ⟨y1, y2⟩ => by
    obtain ⟨y, hy, r⟩ := paired_get2 p y2
    exact ⟨G', by rw [y1]; exact Stp.refl e, y, hy, Mono.up e1 r⟩⟩
theorem ypair_ok {G' H' H'' : Hp} {fx fy : Nat → Option V} {i : Nat} {v : V} (e : Ex G' H') (h : YPair fx fy i H' v H'') : ∃ G'' T x y, Stp G' H' G'' H'' ∧ v = .ref T ∧ G'' T = some (.tup [x, y]) ∧ fx i = some x ∧ fy i = some y := by
  obtain ⟨T, x, y, h1, h2, h3, h4, h5⟩ := h
  exact ⟨upd G' T (.tup [x, y]), T, x, y, by rw [h3]; exact Stp.new e h2, h1, upd_same, h4, h5⟩
theorem ei_zip [Mono R] [Mono S] {xs : List α} {ys : List β} (h : EvA ta σ G H (AC (Ls R) xs (AC (Ls S) ys A0))) : EvI (iZip K ta) σ G H (min xs.length ys.length) (fun i G v => ∃ x y, xs[i]? = some x ∧ ys[i]? = some y ∧ P2 R S G v (x, y)) := fun G1 H1 s Q k =>
  h G1 H1 s _ fun vs G2 H2 s2 ⟨v, r, e1, ⟨a, us, ev, ha, p⟩, w, r', e2, ⟨b, ws, ew, hb, q⟩, e3⟩ => by
    subst e1 e2 e3 ev ew
    refine ⟨a, b, us, ws, rfl, SqL.of (s2.v _ _ ha), SqL.of (s2.v _ _ hb), k _ G2 H2 _ _ s2 (walk_zip (by rw [paired_len p, paired_len q])) (fun H' e => ⟨SqL.of (e _ _ ha), SqL.of (e _ _ hb)⟩) fun i G' H' v H'' _ e1 e y => ?_⟩
    obtain ⟨G'', T, x, y, s3, ev, hT, hx, hy⟩ := ypair_ok e y
    obtain ⟨x', hx', rx⟩ := paired_get2 p hx
    obtain ⟨y', hy', ry⟩ := paired_get2 q hy
    exact ⟨G'', s3, x', y', hx', hy', T, x, y, ev, hT, Mono.up (e1.trans s3.g) rx, Mono.up (e1.trans s3.g) ry⟩
theorem ei_enum [Mono R] {xs : List α} (h : EvA ta σ G H (AC (Ls R) xs A0)) : EvI (iEnum K ta) σ G H xs.length (fun i G v => ∃ y, xs[i]? = some y ∧ P2 NR R G v (i, y)) := fun G1 H1 s Q k =>
  h G1 H1 s _ fun vs G2 H2 s2 ⟨v, r, e1, ⟨a, us, ev, ha, p⟩, e3⟩ => by
    subst e1 e3 ev
    refine ⟨a, us, rfl, SqL.of (s2.v _ _ ha), k _ G2 H2 _ _ s2 (by rw [← paired_len p]; exact walk_enum) (fun H' e => SqL.of (e _ _ ha)) fun i G' H' v H'' _ e1 e y => ?_⟩
    obtain ⟨G'', T, x, y, s3, ev, hT, hx, hy⟩ := ypair_ok e y
    obtain ⟨y', hy', ry⟩ := paired_get2 p hy
    exact ⟨G'', s3, y', hy', T, x, y, ev, hT, (Option.some.inj hx).symm, Mono.up (e1.trans s3.g) ry⟩
/-- a for -/
theorem s_for (h : EvI wi σ G H n W) (e : Ex G H) (I : Nat → L2.St → Hp → Hp → Prop) (h0 : ∀ G1 H1, Stp G H G1 H1 → I 0 σ G1 H1)
    (hs : ∀ (i : Nat) v σ Gp Hq G' H' G1, i < n → Ex G G1 → Ex G1 Gp → I i σ Gp Hq → Stp Gp Hq G' H' → W i G' v → g v σ H' fun σ2 H2 => tb { D with nx := fun σ H => ∃ G', Ex G1 G' ∧ Ex G' H ∧ I (i + 1) σ G' H, ct := fun σ H => ∃ G', Ex G1 G' ∧ Ex G' H ∧ I (i + 1) σ G' H, bk := u D } σ2 H2)
    (hd : ∀ σ G' H', Ex G G' → Ex G' H' → I n σ G' H' → u D σ H') : tSeq (tFor wi g tb) u D σ H :=
  h G H (Stp.refl e) _ fun J G2 H2 GH Y s w hG hY => for_it (D := { D with nx := u D }) w (fun i σ H => ∃ G', Ex G2 G' ∧ Ex G' H ∧ I i σ G' H) ⟨G2, Ex.refl _, s.v, h0 G2 H2 s⟩
    (fun i σ H _ ⟨G', e1, e2, _⟩ => hG H (e1.trans e2))
    (fun i v σ H H' hi ⟨Gp, e1, e2, q⟩ y => by
      obtain ⟨G', s3, w3⟩ := hY i Gp H v H' hi e1 e2 y
      exact hs i v σ Gp H G' H' G2 hi s.g e1 q s3 w3)
    (fun σ H ⟨G', e1, e2, q⟩ => hd σ G' H (s.g.trans e1) e2 q)
/-- a for that stands last -/
theorem s_for' (h : EvI wi σ G H n W) (e : Ex G H) (I : Nat → L2.St → Hp → Hp → Prop) (h0 : ∀ G1 H1, Stp G H G1 H1 → I 0 σ G1 H1)
    (hs : ∀ (i : Nat) v σ Gp Hq G' H' G1, i < n → Ex G G1 → Ex G1 Gp → I i σ Gp Hq → Stp Gp Hq G' H' → W i G' v → g v σ H' fun σ2 H2 => tb { D with nx := fun σ H => ∃ G', Ex G1 G' ∧ Ex G' H ∧ I (i + 1) σ G' H, ct := fun σ H => ∃ G', Ex G1 G' ∧ Ex G' H ∧ I (i + 1) σ G' H, bk := D.nx } σ2 H2)
    (hd : ∀ σ G' H', Ex G G' → Ex G' H' → I n σ G' H' → D.nx σ H') : tFor wi g tb D σ H :=
  h G H (Stp.refl e) _ fun J G2 H2 GH Y s w hG hY => for_it (D := D) w (fun i σ H => ∃ G', Ex G2 G' ∧ Ex G' H ∧ I i σ G' H) ⟨G2, Ex.refl _, s.v, h0 G2 H2 s⟩
    (fun i σ H _ ⟨G', e1, e2, _⟩ => hG H (e1.trans e2))
    (fun i v σ H H' hi ⟨Gp, e1, e2, q⟩ y => by
      obtain ⟨G', s3, w3⟩ := hY i Gp H v H' hi e1 e2 y
      exact hs i v σ Gp H G' H' G2 hi s.g e1 q s3 w3)
    (fun σ H ⟨G', e1, e2, q⟩ => hd σ G' H (s.g.trans e1) e2 q)
/-- a pair taken apart -/
theorem g_pair {a b : Nat} {p : α × β} {v : V} {Q : L2.St → Hp → Prop} (e : Ex G H) (r : P2 R S G v p) (k : ∀ u w, R G u p.1 → S G w p.2 → Q ((σ.set a (some u)).set b (some w)) H) : gTup K 2 (gCons (gName a) (gCons (gName b) gNil)) v σ H Q := by
  obtain ⟨t, u, w, e1, e2, r1, r2⟩ := r
  exact ⟨t, [u, w], e1, SqT.of (e _ _ e2), rfl, u, [w], rfl, w, [], rfl, rfl, k u w r1 r2⟩
/-! comprehensions -/
theorem wipe1 (σ : L2.St) (j : Nat) (v : Option V) : wipe ((wipe σ [j]).set j v) [j] = wipe σ [j] := by
  show ((σ.set j none).set j v).set j none = σ.set j none
  rw [List.set_set, List.set_set]
/-- what the new list holds so far -/
structure LcI (G0 H0 : Hp) (D : Addr) (S : Rel β) (ys : List β) (G H : Hp) (us : List V) : Prop where
  s : Stp G0 H0 G H
  d : H D = some (.lst us)
  g : G D = none
  p : Paired (S G) us ys
theorem LcI.start {G H : Hp} {D : Addr} (e : Ex G H) (h : H D = none) : LcI (β := β) G H D S [] G (upd H D (.lst [])) [] := ⟨(Stp.refl e).own h, upd_same, e.none h, .nil⟩
theorem LcI.more [Mono S] {G0 H0 G H G1 H1 : Hp} {D : Addr} {ys : List β} {us : List V} {v : V} {y : β} (h0 : H0 D = none) (I : LcI G0 H0 D S ys G H us) (s : Stp G H G1 H1) (r : S G1 v y) (hz : ys.length < 100000) :
    ∃ acc, H1 D = some (.lst acc) ∧ acc.length < sizeLine ∧ LcI G0 H0 D S (ys ++ [y]) G1 (upd H1 D (.lst (acc ++ [v]))) (us ++ [v]) := by
  have g1 := s.n D _ I.d I.g
  refine ⟨us, s.h _ _ I.d, small_lt (by rw [paired_len I.p]; exact hz), ⟨(I.s.trans s).mut h0 g1, upd_same, g1, paired_app (paired_imp (fun _ _ => Mono.up s.g) I.p) (.cons r .nil)⟩⟩
theorem LcI.same [Mono S] {G0 H0 G H G1 H1 : Hp} {D : Addr} {ys : List β} {us : List V} (I : LcI G0 H0 D S ys G H us) (s : Stp G H G1 H1) : LcI G0 H0 D S ys G1 H1 us :=
  ⟨I.s.trans s, s.h _ _ I.d, s.n D _ I.d I.g, paired_imp (fun _ _ => Mono.up s.g) I.p⟩
theorem LcI.done [Mono S] {G0 H0 G H : Hp} {D : Addr} {ys : List β} {us : List V} (h0 : H0 D = none) (I : LcI G0 H0 D S ys G H us) : Stp G0 H0 (upd G D (.lst us)) H ∧ Ls S (upd G D (.lst us)) (.ref D) ys :=
  ⟨I.s.add h0 I.g I.d, D, us, rfl, upd_same, paired_imp (fun _ _ => Mono.up (Ex.new I.g)) I.p⟩
/-- one turn -/
theorem lc_turn [Mono S] {G0 H0 G' H' : Hp} {Dl : Addr} {ys : List β} {us : List V} {σ2 : L2.St} {vs : List Nat} {o : Option β} {Nx : Hp → Prop} (hD : H0 Dl = none) (I : LcI G0 H0 Dl S ys G' H' us) (hw : wipe σ2 vs = wipe σ vs) (ht : EvT tt σ2 G' H' o.isSome) (he : ∀ y, o = some y → Ev te σ2 G' H' S y) (hz : ys.length < 100000)
    (k : ∀ G'' H'' us', LcI G0 H0 Dl S (ys ++ o.toList) G'' H'' us' → Nx H'') :
    wipe σ2 vs = wipe σ vs ∧ tt σ2 H' fun b H3 => if b = true then te σ2 H3 fun y H4 => ∃ acc, H4 Dl = some (.lst acc) ∧ acc.length < sizeLine ∧ Nx (upd H4 Dl (.lst (acc ++ [y]))) else Nx H3 := by
  refine ⟨hw, ht.run I.s.v fun G3 H3 s3 => ?_⟩
  cases o with
  | none => exact iteF (k G3 H3 us (by have := I.same s3; rw [show ys ++ (none : Option β).toList = ys by simp]; exact this))
  | some y =>
    refine iteT ((he y rfl) G3 H3 s3 _ fun v G4 H4 s4 r => ?_)
    obtain ⟨acc, a1, a2, a3⟩ := I.more hD (s3.trans s4) r hz
    exact ⟨acc, a1, a2, k G4 _ (us ++ [v]) a3⟩
/-- a comprehension: the target of any form (hg brings it to the slots of its values), ys i the list after i turns -/
theorem ev_lc [Mono S] {vs : List Nat} (ys : Nat → List β) (h : EvI wi σ G H n W) (hz : ∀ i, i < n → (ys i).length < 100000) (h0 : ys 0 = [])
    (hg : ∀ (i : Nat) v G' H' (Q : L2.St → Hp → Prop), i < n → Stp G H G' H' → W i G' v → (∀ σ2 o, wipe σ2 vs = wipe σ vs → EvT tt σ2 G' H' o.isSome → (∀ y, o = some y → Ev te σ2 G' H' S y) → ys (i + 1) = ys i ++ o.toList → Q σ2 H') → g v (wipe σ vs) H' Q) :
    Ev (tLc wi g tt te vs) σ G H (Ls S) (ys n) := fun G0 H0 s0 Q q =>
  h G0 H0 s0 _ fun J G1 H1 GH Y s1 w hG hY D hD => lc_it w (fun i H' => ∃ G' us, LcI G1 H1 D S (ys i) G' H' us) ⟨G1, [], by rw [h0]; exact LcI.start s1.v hD⟩
    (fun i H' _ ⟨G', us, I⟩ => hG H' (I.s.g.trans I.s.v))
    (fun i v H' H'' hi ⟨G', us, I⟩ y => by
      obtain ⟨G2, s2, w2⟩ := hY i G' H' v H'' hi I.s.g I.s.v y
      have I2 := I.same s2
      refine hg i v G2 H'' _ hi ((s0.trans s1).trans (I.s.trans s2)) w2 fun σ2 o hw ht he hy => lc_turn hD I2 hw ht he (hz i hi) fun G3 H3 us' I3 => ?_
      refine ⟨G3, us', ?_⟩
      rw [hy]
      exact I3)
    (fun H' ⟨G', us, I⟩ => by
      obtain ⟨s2, r⟩ := I.done hD
      exact q (.ref D) _ H' (s1.trans s2) r)
/-- one name, a test -/
theorem ev_lc1 [Mono S] {j : Nat} {f : Nat → Option β} (h : EvI wi σ G H n W) (hz : n ≤ 100000)
    (ht : ∀ (i : Nat) v G' H', i < n → Stp G H G' H' → W i G' v → EvT tt ((wipe σ [j]).set j (some v)) G' H' (f i).isSome)
    (he : ∀ (i : Nat) v y G' H', i < n → Stp G H G' H' → W i G' v → f i = some y → Ev te ((wipe σ [j]).set j (some v)) G' H' S y) : Ev (tLc wi (gName j) tt te [j]) σ G H (Ls S) ((List.range n).filterMap f) :=
  ev_lc (fun i => (List.range i).filterMap f) h (fun i hi => Nat.lt_of_le_of_lt (List.length_filterMap_le _ _) (by rw [List.length_range]; omega)) rfl fun i v G' H' Q hi s w k => k _ (f i) (wipe1 _ _ _) (ht i v G' H' hi s w) (fun y hy => he i v y G' H' hi s w hy) (by rw [List.range_succ, List.filterMap_append]; congr 1)
theorem et_yes : EvT tYes σ G H true := fun G1 H1 s Q q => q G1 H1 (Stp.refl s.v)
/-- one name, no test -/
theorem ev_lc0 [Mono S] {j : Nat} {f : Nat → β} (h : EvI wi σ G H n W) (hz : n ≤ 100000)
    (he : ∀ (i : Nat) v G' H', i < n → Stp G H G' H' → W i G' v → Ev te ((wipe σ [j]).set j (some v)) G' H' S (f i)) : Ev (tLc wi (gName j) tYes te [j]) σ G H (Ls S) ((List.range n).map f) :=
  ev_lc (fun i => (List.range i).map f) h (fun i hi => by rw [List.length_map, List.length_range]; omega) rfl fun i v G' H' Q hi s w k => k _ (some (f i)) (wipe1 _ _ _) et_yes (fun y hy => by cases hy; exact he i v G' H' hi s w) (by
    rw [List.range_succ, List.map_append]; rfl)
theorem take_more {xs : List α} {i : Nat} {x : α} (h : xs[i]? = some x) : xs.take (i + 1) = xs.take i ++ [x] := by
  rw [List.take_succ, h]; rfl
/-- [e for x in xs] -/
theorem ev_lcL [Mono S] {j : Nat} {xs : List α} {f : α → β} (h : EvI wi σ G H xs.length (fun i G v => ∃ y, xs[i]? = some y ∧ R G v y)) (hz : xs.length ≤ 100000)
    (he : ∀ (i : Nat) x v G' H', xs[i]? = some x → Stp G H G' H' → R G' v x → Ev te ((wipe σ [j]).set j (some v)) G' H' S (f x)) : Ev (tLc wi (gName j) tYes te [j]) σ G H (Ls S) (xs.map f) := by
  have z := ev_lc (S := S) (vs := [j]) (g := gName j) (tt := tYes) (te := te) (fun i => (xs.take i).map f) h (fun i hi => by rw [List.length_map, List.length_take]; omega) rfl fun i v G' H' Q hi s ⟨x, hx, r⟩ k => k _ (some (f x)) (wipe1 _ _ _) et_yes (fun y hy => by cases hy; exact he i x v G' H' hx s r) (by
    rw [take_more hx, List.map_append]; rfl)
  rw [List.take_length] at z
  exact z
/-- [e for (x, y) in ..] -/
theorem ev_lcP [Mono S] {a b : Nat} (hab : a ≠ b) {f : Nat → β} {U : Rel γ} {T : Rel α} {px : Nat → γ × α} (h : EvI wi σ G H n (fun i G v => P2 U T G v (px i))) (hz : n ≤ 100000)
    (he : ∀ (i : Nat) u w G' H', i < n → Stp G H G' H' → U G' u (px i).1 → T G' w (px i).2 → Ev te (((wipe σ [a, b]).set a (some u)).set b (some w)) G' H' S (f i)) : Ev (tLc wi (gTup K 2 (gCons (gName a) (gCons (gName b) gNil))) tYes te [a, b]) σ G H (Ls S) ((List.range n).map f) :=
  ev_lc (fun i => (List.range i).map f) h (fun i hi => by rw [List.length_map, List.length_range]; omega) rfl fun i v G' H' Q hi s w k => g_pair s.v w fun u x r1 r2 => k _ (some (f i)) (by
    show ((((((σ.set b none).set a none).set a (some u)).set b (some x)).set b none).set a none) = (σ.set b none).set a none
    rw [List.set_set, List.set_set, List.set_comm _ _ hab, List.set_set, List.set_set]) et_yes (fun y hy => by cases hy; exact he i u x G' H' hi s r1 r2) (by rw [List.range_succ, List.map_append]; rfl)
theorem ev_varI {i : Nat} {n : Int} (h : σ[i]? = some (some (.int n))) : Ev (tVar i) σ G H IR n := ev_var h rfl
end
end Cy
/-! isinstance; further built-ins -/
namespace Cy
open L2 PySem PySem.Spec PyProof.Rows
/-- of a built-in type -/
inductive TyS (G : Hp) : V → String → Prop where
  | non : TyS G .non "NoneType"
  | bl (x : Bool) : TyS G (.bl x) "bool"
  | int (i : Int) : TyS G (.int i) "int"
  | str (x : Str) : TyS G (.str x) "str"
  | lst {a : Addr} {xs : List V} (e : G a = some (.lst xs)) : TyS G (.ref a) "list"
  | tup {a : Addr} {xs : List V} (e : G a = some (.tup xs)) : TyS G (.ref a) "tuple"
abbrev TR : Rel String := TyS
instance : Mono TR := ⟨fun {G G' v x} e h => by
  cases h with
  | non => exact .non
  | bl x => exact .bl x
  | int i => exact .int i
  | str x => exact .str x
  | lst q => exact .lst (e _ _ q)
  | tup q => exact .tup (e _ _ q)⟩
theorem TyS.x {K : PySem.W.Frag} {G H : Hp} {v : V} {T : String} (h : TyS G v T) (e : Ex G H) : TyX K H v (.type T) := by
  cases h with
  | non => exact .base .non
  | bl x => exact .base (.bl x)
  | int i => exact .base (.int i)
  | str x => exact .base (.str x)
  | lst q => exact .base (.lst (e _ _ q))
  | tup q => exact .base (.tup (e _ _ q))
theorem tys_ls {α : Type} {R : Rel α} {G : Hp} {v : V} {xs : List α} (h : Ls R G v xs) : TyS G v "list" := by
  obtain ⟨a, us, rfl, h, _⟩ := h
  exact .lst h
theorem tys_tp {α : Type} {R : Rel α} {G : Hp} {v : V} {xs : List α} (h : Tp R G v xs) : TyS G v "tuple" := by
  obtain ⟨a, us, rfl, h, _⟩ := h
  exact .tup h
theorem tys_p2 {α β : Type} {R : Rel α} {S : Rel β} {G : Hp} {v : V} {xs : α × β} (h : P2 R S G v xs) : TyS G v "tuple" := by
  obtain ⟨a, u, w, rfl, h, _⟩ := h
  exact .tup h
section
variable {α β γ : Type} {K : PySem.W.Frag} {σ : L2.St} {G H : Hp} {te ta tb : TE} {tt : TT} {R : Rel α} {S : Rel β} {x : α} {i j : Int} {b : Bool} {T n : String}
theorem ev_isi (ha : Ev ta σ G H TR T) (h : kitB T n = some b) : Ev (tCB (rIsi K) (tCons ta (tCons (tC (.ty n)) tNil))) σ G H BR b :=
  ev_cb (ea_cons ha (ea_cons ev_c ea_nil)) fun G' H' vs _ v1 ⟨v, r, e, r1, w, r', e', r2, e2⟩ Q q => by
    subst e e' e2
    obtain rfl : w = .ty n := r2
    exact ⟨v, .ty n, .type T, .type n, b, rfl, .ty n, r1.x v1, kit_ty h, q _ G' H' (Stp.refl v1) rfl⟩
/-- isinstance(x, (tuple, list)) -/
theorem ev_isiTL (ha : Ev ta σ G H TR T) (hT : T = "list" ∨ T = "tuple") : Ev (tCB (rIsiT K) (tCons ta (tCons (tTup (tCons (tC (.ty "tuple")) (tCons (tC (.ty "list")) tNil))) tNil))) σ G H BR true :=
  ev_cb (ea_cons ha (ea_cons (ev_tup (R := VR) (xs := [.ty "tuple", .ty "list"]) (.cons ev_c (.cons ev_c .nil))) ea_nil)) fun G' H' vs _ v1 ⟨v, r, e, r1, w, r', e', r2, e2⟩ Q q => by
    subst e e' e2
    obtain ⟨p, us, rfl, hp, pr⟩ := r2
    have eus : us = [.ty "tuple", .ty "list"] := by
      cases pr with
      | cons h1 t => cases t with
        | cons h2 t => cases t; rw [show _ = V.ty "tuple" from h1, show _ = V.ty "list" from h2]
    subst eus
    refine ⟨v, p, _, .type T, [.type "tuple", .type "list"], true, rfl, v1 _ _ hp, .cons (.ty _) (.cons (.ty _) .nil), r1.x v1, ?_, q _ G' H' (Stp.refl v1) rfl⟩
    rcases hT with rfl | rfl
    · exact kitAny_cons (b := false) (kit_ty (by decide +kernel)) (fun _ => kitAny_cons (b := true) (kit_ty (by decide +kernel)) (fun h => by cases h) (fun _ => rfl)) (fun h => by cases h)
    · exact kitAny_cons (b := true) (kit_ty (by decide +kernel)) (fun h => by cases h) (fun _ => rfl)
/-- truth of an int -/
theorem et_int (ha : Ev te σ G H IR i) : EvT (fun σ H Q => te σ H fun x H' => ∃ k, TruV K x H' k ∧ Q k H') σ G H (i != 0) := fun G1 H1 s Q q => ha G1 H1 s _ fun v G2 H2 s2 r => by
  obtain rfl : v = .int i := r
  exact ⟨i != 0, rfl, q G2 H2 s2⟩
theorem ev_intIR {i : Int} (ha : Ev ta σ G H IR i) : Ev ta σ G H TR "int" := ha.imp fun _ v r => by rw [show v = .int i from r]; exact .int i
end
end Cy
namespace Cy
open L2 PySem PySem.Spec PyProof.Rows
section
variable {α β γ δ ε : Type} {R : Rel α} {S : Rel β} {T : Rel γ} {U : Rel δ} {W : Rel ε} {x : α} {y : β} {z : γ} {u : δ} {w : ε} {vs : List V} {G : Hp}
theorem ac1 (h : AC R x A0 vs G) : ∃ a, vs = [a] ∧ R G a x := by
  obtain ⟨a, r, rfl, h1, h2⟩ := h
  rw [show r = [] from h2]; exact ⟨a, rfl, h1⟩
theorem ac2 (h : AC R x (AC S y A0) vs G) : ∃ a b, vs = [a, b] ∧ R G a x ∧ S G b y := by
  obtain ⟨a, r, rfl, h1, h2⟩ := h
  obtain ⟨b, rfl, h3⟩ := ac1 h2
  exact ⟨a, b, rfl, h1, h3⟩
theorem ac3 (h : AC R x (AC S y (AC T z A0)) vs G) : ∃ a b c, vs = [a, b, c] ∧ R G a x ∧ S G b y ∧ T G c z := by
  obtain ⟨a, r, rfl, h1, h2⟩ := h
  obtain ⟨b, c, rfl, h3, h4⟩ := ac2 h2
  exact ⟨a, b, c, (rfl), h1, h3, h4⟩
theorem ac4 (h : AC R x (AC S y (AC T z (AC U u A0))) vs G) : ∃ a b c d, vs = [a, b, c, d] ∧ R G a x ∧ S G b y ∧ T G c z ∧ U G d u := by
  obtain ⟨a, r, rfl, h1, h2⟩ := h
  obtain ⟨b, c, d, rfl, h3, h4, h5⟩ := ac3 h2
  exact ⟨a, b, c, d, rfl, h1, h3, h4, h5⟩
theorem ac5 (h : AC R x (AC S y (AC T z (AC U u (AC W w A0)))) vs G) : ∃ a b c d e, vs = [a, b, c, d, e] ∧ R G a x ∧ S G b y ∧ T G c z ∧ U G d u ∧ W G e w := by
  obtain ⟨a, r, rfl, h1, h2⟩ := h
  obtain ⟨b, c, d, e, rfl, h3, h4, h5, h6⟩ := ac4 h2
  exact ⟨a, b, c, d, e, rfl, h1, h3, h4, h5, h6⟩
end
end Cy
namespace Cy
open L2 PySem PySem.Spec PyProof.Rows
section
variable {K : PySem.W.Frag} {σ : L2.St} {G H : Hp} {tc : TT} {t w : TS} {b : Bool} {D : Ends}
theorem s_ifn (h : EvT tc σ G H b) (e : Ex G H) (k1 : ∀ G' H', Stp G H G' H' → b = true → t { D with nx := w D } σ H') (k2 : ∀ G' H', Stp G H G' H' → b = false → w D σ H') : tSeq (tIfS tc t tNext) w D σ H := s_if (D := { D with nx := w D }) h e k1 k2
theorem s_chk (h : EvT tc σ G H false) (e : Ex G H) (k : ∀ G' H', Stp G H G' H' → w D σ H') : tSeq (tIfS tc t tNext) w D σ H := s_ifn h e (fun _ _ _ z => by cases z) fun G' H' s _ => k G' H' s
end
end Cy
/-! lots as numbers: bits -/
namespace Cy
open L2 PySem PySem.Spec PyProof.Rows
section
variable {K : PySem.W.Frag} {σ : L2.St} {G H : Hp} {te ta tb : TE} {a b n k p : Nat}
theorem ev_orN (ha : Ev ta σ G H IR (a : Int)) (hb : Ev tb σ G H IR (b : Int)) : Ev (tOp (rI0 fun i j => .int (Builtin.bitOr i j)) ta tb) σ G H IR ((a ||| b : Nat) : Int) := by
  have z := ev_I0 (f := Builtin.bitOr) ha hb
  rw [bitOr_nn (Int.natCast_nonneg _) (Int.natCast_nonneg _), Int.toNat_natCast, Int.toNat_natCast] at z
  exact z
theorem bitAnd_nat (a b : Nat) : Builtin.bitAnd (a : Int) (b : Int) = ((a &&& b : Nat) : Int) := by
  unfold Builtin.bitAnd
  rw [decide_eq_true (Int.natCast_nonneg a), decide_eq_true (Int.natCast_nonneg b)]
  show (((a : Int).toNat &&& (b : Int).toNat : Nat) : Int) = _
  rw [Int.toNat_natCast, Int.toNat_natCast]
theorem bitAnd_not (a b : Nat) : Builtin.bitAnd (a : Int) (Builtin.bitNot (b : Int)) = ((a - (a &&& b) : Nat) : Int) := by
  unfold Builtin.bitAnd
  rw [decide_eq_true (Int.natCast_nonneg a), decide_eq_false (show ¬ 0 ≤ Builtin.bitNot (b : Int) by show ¬ 0 ≤ -(b : Int) - 1; omega)]
  show (a : Int) - (((a : Int).toNat &&& (Builtin.bitNot (Builtin.bitNot (b : Int))).toNat : Nat) : Int) = _
  rw [show Builtin.bitNot (Builtin.bitNot (b : Int)) = b by show -(-(b : Int) - 1) - 1 = b; omega, Int.toNat_natCast, Int.toNat_natCast]
  have := @Nat.and_le_left a b
  omega
theorem ev_shl (hb : Ev tb σ G H IR (k : Int)) (hk : k ≤ 1000) : Ev (tOp (fun x y H Q => ∃ k : Nat, x = .int 1 ∧ y = .int (k : Int) ∧ k ≤ 134217727 ∧ Q (.int (2 ^ k)) H) (tC (.int 1)) tb) σ G H IR ((2 ^ k : Nat) : Int) :=
  ev_op ev_int hb fun G' v w _ e1 e2 G1 H1 _ v1 Q q => ⟨k, e1, e2, by omega, q _ G1 H1 (Stp.refl v1) (by show V.int _ = V.int _; rw [Int.natCast_pow]; rfl)⟩
theorem shr_nat (n p : Nat) : (n : Int) / 2 ^ (p : Int).toNat = ((n >>> p : Nat) : Int) := by
  rw [Int.toNat_natCast, Nat.shiftRight_eq_div_pow]
  push_cast
  rfl
theorem ev_shrN (ha : Ev ta σ G H IR (n : Int)) (hb : Ev tb σ G H IR (p : Int)) : Ev (tOp (rI (fun _ j => 0 ≤ j) fun i j => .int (i / 2 ^ j.toNat)) ta tb) σ G H IR ((n >>> p : Nat) : Int) := by
  have z := ev_I (C := fun _ j => 0 ≤ j) (f := fun i j => i / 2 ^ j.toNat) ha hb (Int.natCast_nonneg _)
  rw [shr_nat] at z
  exact z
theorem ev_andN (ha : Ev ta σ G H IR (a : Int)) (hb : Ev tb σ G H IR (b : Int)) : Ev (tOp (rI0 fun i j => .int (Builtin.bitAnd i j)) ta tb) σ G H IR ((a &&& b : Nat) : Int) := by
  have z := ev_I0 (f := Builtin.bitAnd) ha hb
  rw [bitAnd_nat] at z
  exact z
/-- n >> p & 1 -/
theorem bit1 (n p : Nat) : (((n >>> p) &&& 1 : Nat) : Int) = if n.testBit p then 1 else 0 := by
  have e : n.testBit p = decide ((n >>> p) % 2 = 1) := Nat.testBit_eq_decide_div_mod_eq ▸ by rw [Nat.shiftRight_eq_div_pow]
  rw [Nat.and_one_is_mod, e]
  have := Nat.mod_two_eq_zero_or_one (n >>> p)
  rcases this with h | h <;> rw [h] <;> simp
theorem ev_bit (ha : Ev ta σ G H IR (n : Int)) (hb : Ev tb σ G H IR (p : Int)) : Ev (tOp (rI0 fun i j => .int (Builtin.bitAnd i j)) (tOp (rI (fun _ j => 0 ≤ j) fun i j => .int (i / 2 ^ j.toNat)) ta tb) (tC (.int 1))) σ G H IR (if n.testBit p then 1 else 0) := by
  have z := ev_andN (b := 1) (ev_shrN ha hb) ev_int
  rw [bit1] at z
  exact z
/-- the same as a test -/
theorem et_bit (ha : Ev ta σ G H IR (n : Int)) (hb : Ev tb σ G H IR (p : Int)) : EvT (fun σ H Q => (tOp (rI0 fun i j => .int (Builtin.bitAnd i j)) (tOp (rI (fun _ j => 0 ≤ j) fun i j => .int (i / 2 ^ j.toNat)) ta tb) (tC (.int 1))) σ H fun x H' => ∃ k, TruV K x H' k ∧ Q k H') σ G H (n.testBit p) := by
  have z := et_int (K := K) (ev_bit ha hb)
  rw [show ((if n.testBit p then 1 else 0 : Int) != 0) = n.testBit p by cases n.testBit p <;> rfl] at z
  exact z
theorem ev_andNot (ha : Ev ta σ G H IR (a : Int)) (hb : Ev tb σ G H IR (b : Int)) : Ev (tOp (rI0 fun i j => .int (Builtin.bitAnd i j)) ta (tUn (rU fun i => .int (Builtin.bitNot i)) tb)) σ G H IR ((a - (a &&& b) : Nat) : Int) := by
  have z := ev_I0 (f := Builtin.bitAnd) ha (ev_un (f := Builtin.bitNot) hb)
  rw [bitAnd_not] at z
  exact z
theorem bitXor_nat (a b : Nat) : Builtin.bitXor (a : Int) (b : Int) = (((a ||| b) : Nat) : Int) - ((a &&& b : Nat) : Int) := by
  show Builtin.bitOr _ _ - Builtin.bitAnd _ _ = _
  rw [bitOr_nn (Int.natCast_nonneg _) (Int.natCast_nonneg _), bitAnd_nat, Int.toNat_natCast, Int.toNat_natCast]
theorem ev_xorN (ha : Ev ta σ G H IR (a : Int)) (hb : Ev tb σ G H IR (b : Int)) : Ev (tOp (rI0 fun i j => .int (Builtin.bitXor i j)) ta tb) σ G H IR ((((a ||| b) : Nat) : Int) - ((a &&& b : Nat) : Int)) := by
  have z := ev_I0 (f := Builtin.bitXor) ha hb
  rw [bitXor_nat] at z
  exact z
end
/-! ### lots -/
/-- the number of places -/
def msk (ps : List Nat) : Nat := ps.foldl (fun a p => a ||| 2 ^ p) 0
/-- the places of a number -/
def plc (n : Nat) : List Nat := (List.range (Builtin.Int.intBits (n : Int))).filter n.testBit
theorem msk_app (ps : List Nat) (p : Nat) : msk (ps ++ [p]) = msk ps ||| 2 ^ p := by
  unfold msk
  rw [List.foldl_append]
  rfl
theorem msk_bit : ∀ (ps : List Nat) (a i : Nat), (ps.foldl (fun a p => a ||| 2 ^ p) a).testBit i = (a.testBit i || decide (i ∈ ps))
  | [], a, i => by simp
  | p :: r, a, i => by
    rw [List.foldl_cons, msk_bit r, Nat.testBit_or, Nat.testBit_two_pow]
    by_cases h : p = i
    · subst h; simp
    · rw [decide_eq_false h, Bool.or_false]
      congr 1
      simp [Ne.symm h]
theorem msk_test (ps : List Nat) (i : Nat) : (msk ps).testBit i = decide (i ∈ ps) := by
  unfold msk
  rw [msk_bit, Nat.zero_testBit, Bool.false_or]
theorem plc_mem (n p : Nat) : p ∈ plc n ↔ n.testBit p = true := by
  unfold plc
  rw [List.mem_filter, List.mem_range]
  constructor
  · exact fun h => h.2
  · intro h
    refine ⟨?_, h⟩
    refine Classical.byContradiction fun c => ?_
    have : n < 2 ^ p := Nat.lt_of_lt_of_le (show n < 2 ^ Builtin.Int.intBits (n : Int) by
      unfold Builtin.Int.intBits
      by_cases h : n = 0
      · subst h; simp
      · rw [if_neg (by simpa using h), Int.natAbs_natCast]; exact Nat.lt_log2_self) (Nat.pow_le_pow_right (by decide) (by omega))
    rw [Nat.testBit_lt_two_pow this] at h
    cases h
theorem plc_nodup (n : Nat) : (plc n).Nodup := List.Nodup.sublist List.filter_sublist List.nodup_range
theorem bits_eq {a b : Nat} (h : ∀ i, a.testBit i = b.testBit i) : a = b := Nat.eq_of_testBit_eq h
theorem msk_plc (n : Nat) : msk (plc n) = n := bits_eq fun i => by
  rw [msk_test]
  cases h : n.testBit i with
  | true => exact decide_eq_true ((plc_mem n i).mpr h)
  | false => exact decide_eq_false fun z => by rw [(plc_mem n i).mp z] at h; cases h
end Cy
/-! worlds as values; conversions -/
namespace Cy
open PySem PySem.Spec PyProof.Rows L2 He
abbrev Mx := List (List Int)
abbrev MxL : Rel Mx := Ls (Ls IR)
abbrev MxT : Rel Mx := Tp (Tp IR)
abbrev MxS : Rel Mx := Sq (Sq IR)
/-! slots -/
section
variable {X : Cx} {o e value : Expr} {f : Str} {pos pos' apos : Pos} {ta tv : TE} {C p : Addr} {i : Nat} {m : Str}
/-- a slot of an instance, read -/
def tSlotX (C : Addr) (i : Nat) (ta : TE) : TE := fun σ H Q => ta σ H fun x H1 => ∃ a dx vs v, x = .ref a ∧ SlX.Slt H1 a C dx vs ∧ vs[i]? = some (some v) ∧ Q v H1
/-- e.f = value -/
def sSlotX (C : Addr) (i : Nat) (ta tv : TE) : TS := fun D σ H => tv σ H fun y H1 => ta σ H1 fun x H2 => ∃ a dx vs, x = .ref a ∧ SlX.Slt H2 a C dx vs ∧ D.nx σ (SlX.slH H2 a C dx (SlX.putS i y vs))
theorem pe_slotX (c : SlX.SCls X.K C) (k : SlX.Slot1 X.K C f p i) (he : PE X e ta) (hb : attributeBase e f X.env (eval e X.env) = eval e X.env := by rfl) : PE X (.Attribute e f pos) (tSlotX C i ta) := by
  refine ⟨fun pin s σ H Q Iv h => ?_⟩
  refine attr_of hb (thn (he.run pin s σ H _ Iv h) fun ob sa ⟨x, H1, Ia, rox, a, dx, vs, v, ex, hs, l, qq⟩ => ?_)
  subst ex
  obtain rfl : ob = Value.ref a := rox
  exact SlX.getslot_ok Ia hs c k l fun u' sb Ib ru => ⟨v, H1, Ib, ru, qq⟩
theorem ps_slotX (c : SlX.SCls X.K C) (k : SlX.Slot1 X.K C f p i) (ha : PE X o ta) (hv : PE X value tv) (hs : swapsWith value (some (.Attribute o f pos')) pos.line X.env = pure false := by rfl) : PS X (.Assign [.Attribute o f pos'] value pos) (sSlotX C i ta tv) := by
  refine ⟨fun pin s σ H D Iv h => ?_⟩
  refine plainObj_wpAny_Assign_Attribute (thn (hv.run pin s σ H _ Iv h) fun ob sa ⟨y, H1, Ia, ry, qq⟩ => thn (ha.run pin sa σ H1 _ Ia qq) fun ow sb ⟨x, H2, Ib, rox, a, dx, vs, ex, hst, qq2⟩ => ?_) hs
  subst ex
  obtain rfl : ow = Value.ref a := rox
  exact SlX.setslot_ok Ib hst c k ry fun s3 I3 => ⟨σ, _, I3, qq2⟩
/-- o.m() by a promise -/
def tMethX (sp : Sp) (E : XK) (C : Addr) (ta : TE) : TE := fun σ H Q => ta σ H fun x H1 => ∃ a dx vs, x = .ref a ∧ SlX.Slt H1 a C dx vs ∧ sp [x] H1 Q E
theorem pe_methX0 {CX : CXT} {k : Nat} {g : Addr} {sp : Sp} {E : XK} {pl : Sem Bool} {fd : FuncData} {ps : List Str} (he : PE X o ta) (c : SlX.SCls X.K C) (hm : Meth X.K C m g) (F : FnOk X.prog X.w X.K X.mg X.base CX k g fd ps sp) (hb : Binds X.K fd ps []) (hr : Room k X.A) (hx : Passes CX X E)
    (hev : eval (.Call (.Attribute o m apos) [] [] pos) X.env = (do
      let ow ← eval o X.env
      standAt apos.atName
      let (f, first) ← holding [ow] (getMethod ow m pl)
      callWith pos f first (backTo pos (starEach [] X.env))
        (backToKw pos (keywordEach [] X.env))) := by rfl) :
    PE X (.Call (.Attribute o m apos) [] [] pos) (tMethX sp E C ta) := by
  refine ⟨fun pin s σ H Q Iv h => ?_⟩
  refine PySem.W.methodCall_KW (pl := pl) (thn (he.run pin s σ H _ Iv h) fun ob sa ⟨x, H1, Ia, rox, a, dx, vs, ex, hst, qq⟩ => ?_) hev
  subst ex
  obtain rfl : ob = Value.ref a := rox
  refine SlX.getmethsl_ok Ia hst c hm ?_
  exact PySem.W.callWith_K0 (first := [.ref a]) Ia.kIn hm.kp (wpAny_call (run_fnR (us := [.ref a]) (vs := [.ref a]) ((F.raw hb .nil).imp fun vs H Q E h => by rw [List.append_nil]; exact h) hr hx Ia (.cons rfl .nil) qq))
end
section
variable {K : PySem.W.Frag} {mg : Str → Option Value}
theorem sclsX {C : Addr} (c : SCls K C) : SlX.SCls K C := ⟨c.pg, c.ic, c.po, c.sa⟩
theorem slotX {C p : Addr} {f : Str} {i : Nat} (k : Slt K C f i p) : SlX.Slot1 K C f p i := ⟨k.at_, k.get, k.tk, k.ty, k.ix, k.lt⟩
end
structure Wd where
  n : Nat
  t : Mx
  c : Mx
def WR (K : PySem.W.Frag) : Rel Wd := fun G v w => ∃ a dx vs tv cv, v = .ref a ∧ SlX.Slt G a (ga K "World") dx vs ∧ vs[slIx K (ga K "World") "size"]? = some (some (.int (w.n : Int))) ∧ vs[slIx K (ga K "World") "takes"]? = some (some tv) ∧ vs[slIx K (ga K "World") "calls"]? = some (some cv) ∧ MxT G tv w.t ∧ MxT G cv w.c
theorem slAt_up {G G' : Hp} {a C dx : Addr} {vs : List (Option V)} (e : Ex G G') (h : SlX.Slt G a C dx vs) : SlX.Slt G' a C dx vs := by
  rcases h with (⟨h1, h2⟩ | ⟨h1, h2⟩)
  · exact .inl ⟨e _ _ h1, h2⟩
  · exact .inr ⟨e _ _ h1, e _ _ h2⟩
instance {K : PySem.W.Frag} : Mono (WR K) := ⟨fun e ⟨a, dx, vs, tv, cv, h1, h2, h3, h4, h5, h6, h7⟩ => ⟨a, dx, vs, tv, cv, h1, slAt_up e h2, h3, h4, h5, Mono.up e h6, Mono.up e h7⟩⟩
section
variable {α β : Type} {K : PySem.W.Frag} {σ : L2.St} {G H : Hp} {te ta tb : TE} {w : Wd} {R : Rel α} {S : Rel β} {xs : List α} {b : Bool} {T : String}
theorem ev_size (ha : Ev ta σ G H (WR K) w) : Ev (tSlotX (ga K "World") (slIx K (ga K "World") "size") ta) σ G H IR (w.n : Int) := fun G1 H1 s Q q =>
  ha G1 H1 s _ fun v G2 H2 s2 ⟨a, dx, vs, tv, cv, h1, h2, h3, h4, h5, h6, h7⟩ => ⟨a, dx, vs, _, h1, slAt_up s2.v h2, h3, q _ G2 H2 s2 rfl⟩
theorem ev_takes (ha : Ev ta σ G H (WR K) w) : Ev (tSlotX (ga K "World") (slIx K (ga K "World") "takes") ta) σ G H MxT w.t := fun G1 H1 s Q q =>
  ha G1 H1 s _ fun v G2 H2 s2 ⟨a, dx, vs, tv, cv, h1, h2, h3, h4, h5, h6, h7⟩ => ⟨a, dx, vs, _, h1, slAt_up s2.v h2, h4, q _ G2 H2 s2 h6⟩
theorem ev_calls (ha : Ev ta σ G H (WR K) w) : Ev (tSlotX (ga K "World") (slIx K (ga K "World") "calls") ta) σ G H MxT w.c := fun G1 H1 s Q q =>
  ha G1 H1 s _ fun v G2 H2 s2 ⟨a, dx, vs, tv, cv, h1, h2, h3, h4, h5, h6, h7⟩ => ⟨a, dx, vs, _, h1, slAt_up s2.v h2, h5, q _ G2 H2 s2 h7⟩
theorem ev_lenL [Mono R] (ha : Ev ta σ G H (Ls R) xs) : Ev (tCB (fun xs H Q => ∃ p ys, xs = [.ref p] ∧ (SqL K H p ys ∨ SqT K H p ys) ∧ Q (.int ys.length) H) (tCons ta tNil)) σ G H IR (xs.length : Int) := ev_len (ha.imp fun _ _ h => h.sq)
theorem ev_lenT [Mono R] (ha : Ev ta σ G H (Tp R) xs) : Ev (tCB (fun xs H Q => ∃ p ys, xs = [.ref p] ∧ (SqL K H p ys ∨ SqT K H p ys) ∧ Q (.int ys.length) H) (tCons ta tNil)) σ G H IR (xs.length : Int) := ev_len (ha.imp fun _ _ h => h.sq)
/-- len of a pair -/
theorem ev_lenP [Mono R] [Mono S] {p : α × β} (ha : Ev ta σ G H (P2 R S) p) : Ev (tCB (fun xs H Q => ∃ p ys, xs = [.ref p] ∧ (SqL K H p ys ∨ SqT K H p ys) ∧ Q (.int ys.length) H) (tCons ta tNil)) σ G H IR 2 :=
  ev_cb (ea_cons ha ea_nil) fun G' H' vs _ v1 ⟨v, r, e, ⟨a, u, w, r1, h, _⟩, e2⟩ Q q => by
    subst e e2 r1
    exact ⟨a, [u, w], rfl, .inr (SqT.of (v1 _ _ h)), q _ G' H' (Stp.refl v1) rfl⟩
/-- tuple(list), list(sequence) -/
theorem ev_tupleOf [Mono R] (ha : Ev ta σ G H (Ls R) xs) : Ev (tCB (fun xs H Q => ∃ p ys, xs = [.ref p] ∧ ((SqL K H p ys ∧ ∀ l, H l = none → Q (.ref l) (upd H l (.tup ys))) ∨ (SqT K H p ys ∧ Q (.ref p) H))) (tCons ta tNil)) σ G H (Tp R) xs :=
  ev_cb (ea_cons ha ea_nil) fun G' H' vs _ v1 ⟨v, r, e, ⟨a, us, r1, h, p⟩, e2⟩ Q q => by
    subst e e2 r1
    exact ⟨a, us, rfl, .inl ⟨SqL.of (v1 _ _ h), fun l hl => q _ _ _ (Stp.new v1 hl) ⟨l, us, rfl, upd_same, paired_imp (fun _ _ => Mono.up (Ex.new (v1.none hl))) p⟩⟩⟩
theorem ev_listOf [Mono R] (ha : Ev ta σ G H (Sq R) xs) : Ev (tCB (fun xs H Q => ∃ p ys, xs = [.ref p] ∧ (SqL K H p ys ∨ SqT K H p ys) ∧ ∀ l, H l = none → Q (.ref l) (upd H l (.lst ys))) (tCons ta tNil)) σ G H (Ls R) xs :=
  ev_cb (ea_cons ha ea_nil) fun G' H' vs _ v1 ⟨v, r, e, r0, e2⟩ Q q => by
    subst e e2
    rcases r0 with ⟨a, us, r1, h, p⟩ | ⟨a, us, r1, h, p⟩
    · subst r1
      exact ⟨a, us, rfl, .inl (SqL.of (v1 _ _ h)), fun l hl => q _ _ _ (Stp.new v1 hl) ⟨l, us, rfl, upd_same, paired_imp (fun _ _ => Mono.up (Ex.new (v1.none hl))) p⟩⟩
    · subst r1
      exact ⟨a, us, rfl, .inr (SqT.of (v1 _ _ h)), fun l hl => q _ _ _ (Stp.new v1 hl) ⟨l, us, rfl, upd_same, paired_imp (fun _ _ => Mono.up (Ex.new (v1.none hl))) p⟩⟩
theorem ev_tysL [Mono R] (ha : Ev ta σ G H (Ls R) xs) : Ev ta σ G H TR "list" := ha.imp fun _ _ h => tys_ls h
theorem ev_tysT [Mono R] (ha : Ev ta σ G H (Tp R) xs) : Ev ta σ G H TR "tuple" := ha.imp fun _ _ h => tys_tp h
theorem ev_tysP [Mono R] [Mono S] {p : α × β} (ha : Ev ta σ G H (P2 R S) p) : Ev ta σ G H TR "tuple" := ha.imp fun _ _ h => tys_p2 h
end
end Cy
namespace Cy
open L2 PySem PySem.Spec PyProof.Rows
section
variable {α : Type} {σ : L2.St} {G H : Hp} {te ta : TE} {tr : TA} {t : TT} {R : Rel α} {x y : α} {b c : Bool} {i : Int} {A : List V → Hp → Prop}
theorem EvT.eq (h : EvT t σ G H b) (e : b = c) : EvT t σ G H c := e ▸ h
theorem Ev.eq (h : Ev te σ G H R x) (e : x = y) : Ev te σ G H R y := e ▸ h
theorem ea_consI (ha : Ev ta σ G H IR i) (hr : EvA tr σ G H A) : EvA (tCons ta tr) σ G H (AC IR i A) := ea_cons ha hr
end
end Cy
namespace Cy
open L2 PySem PySem.Spec PyProof.Rows
section
variable {K : PySem.W.Frag} {σ : L2.St} {G H : Hp} {ta : TE} {p : Int × Int}
theorem ev_fstI (ha : Ev ta σ G H FR p) : Ev (tOp (rIxT K) ta (tC (.int 0))) σ G H IR p.1 := ev_fst ha
theorem ev_sndI (ha : Ev ta σ G H FR p) : Ev (tOp (rIxT K) ta (tC (.int 1))) σ G H IR p.2 := ev_snd ha
end
end Cy
namespace Cy
open L2 PySem PySem.Spec PyProof.Rows
section
variable {X : Cx} {tg l : Expr} {tl : TE} {wi wj : TI} {σ : L2.St} {G H : Hp} {n : Nat} {W : Nat → Hp → V → Prop}
/-- for x in xs, a list or a tuple -/
theorem pi_any (he : PE X l tl) : PI X tg l (fun σ H R => iList X.K tl σ H R ∨ iTup X.K tl σ H R) :=
  ⟨fun pins s σ H R I h => h.elim (fun h => (pi_list he).run pins s σ H R I h) (fun h => (pi_tup he).run pins s σ H R I h)⟩
theorem ei_inl (h : EvI wi σ G H n W) : EvI (fun σ H R => wi σ H R ∨ wj σ H R) σ G H n W := fun G1 H1 s R k => .inl (h G1 H1 s R k)
theorem ei_inr (h : EvI wj σ G H n W) : EvI (fun σ H R => wi σ H R ∨ wj σ H R) σ G H n W := fun G1 H1 s R k => .inr (h G1 H1 s R k)
theorem ei_any {α : Type} {K : PySem.W.Frag} {R : Rel α} [Mono R] {i : Nat} {v : V} {xs : List α} (h : σ[i]? = some (some v)) (r : Sq R G v xs) : EvI (fun σ H Q => iList K (tVar i) σ H Q ∨ iTup K (tVar i) σ H Q) σ G H xs.length (fun i G v => ∃ y, xs[i]? = some y ∧ R G v y) :=
  r.elim (fun r => ei_inl (ei_list (ev_var h r))) (fun r => ei_inr (ei_tup (ev_var h r)))
end
end Cy
namespace Cy
open PySem PySem.Spec PyProof.Rows L2 He
/-! readings in short -/
abbrev qAdd : R2 := rI0 fun i j => .int (i + j)
abbrev qSub : R2 := rI0 fun i j => .int (i - j)
abbrev qMul : R2 := rI CMulX fun i j => .int (i * j)
abbrev qDiv : R2 := rI CDivY fun i j => .int (i.fdiv j)
abbrev qMod : R2 := rI (fun _ j => 0 < j) fun i j => .int (i % j)
abbrev qShr : R2 := rI (fun _ j => 0 ≤ j) fun i j => .int (i / 2 ^ j.toNat)
abbrev qAnd : R2 := rI0 fun i j => .int (Builtin.bitAnd i j)
abbrev qOr : R2 := rI0 fun i j => .int (Builtin.bitOr i j)
abbrev qXor : R2 := rI0 fun i j => .int (Builtin.bitXor i j)
abbrev qShl : R2 := fun x y H Q => ∃ k : Nat, x = .int 1 ∧ y = .int (k : Int) ∧ k ≤ 134217727 ∧ Q (.int (2 ^ k)) H
abbrev qLt : R2 := rI0 fun i j => .bl (decide (i < j))
abbrev qLe : R2 := rI0 fun i j => .bl (decide (i ≤ j))
abbrev qGt : R2 := rI0 fun i j => .bl (decide (j < i))
abbrev qGe : R2 := rI0 fun i j => .bl (decide (j ≤ i))
abbrev qNeg : V → Hp → VK → Prop := rU fun i => .int (-i)
abbrev qInv : V → Hp → VK → Prop := rU fun i => .int (Builtin.bitNot i)
abbrev qIxS (K : PySem.W.Frag) : R2 := fun x y H Q => rIxL K x y H Q ∨ rIxT K x y H Q
abbrev qLen (K : PySem.W.Frag) : List V → Hp → VK → Prop := fun xs H Q => ∃ p ys, xs = [.ref p] ∧ (SqL K H p ys ∨ SqT K H p ys) ∧ Q (.int ys.length) H
abbrev qList (K : PySem.W.Frag) : List V → Hp → VK → Prop := fun xs H Q => ∃ p ys, xs = [.ref p] ∧ (SqL K H p ys ∨ SqT K H p ys) ∧ ∀ l, H l = none → Q (.ref l) (upd H l (.lst ys))
abbrev qTuple (K : PySem.W.Frag) : List V → Hp → VK → Prop := fun xs H Q => ∃ p ys, xs = [.ref p] ∧ ((SqL K H p ys ∧ ∀ l, H l = none → Q (.ref l) (upd H l (.tup ys))) ∨ (SqT K H p ys ∧ Q (.ref p) H))
abbrev qInt : List V → Hp → VK → Prop := fun xs H Q => (∃ i, xs = [.int i] ∧ Q (.int i) H) ∨ ∃ k, xs = [.bl k] ∧ Q (.int (if k then 1 else 0)) H
abbrev qAbs : List V → Hp → VK → Prop := fun xs H Q => ∃ i, xs = [.int i] ∧ Q (.int (if i < 0 then -i else i)) H
abbrev qMax2 : List V → Hp → VK → Prop := fun xs H Q => ∃ i j, xs = [.int i, .int j] ∧ Q (.int (if j > i then j else i)) H
abbrev qMin2 : List V → Hp → VK → Prop := fun xs H Q => ∃ i j, xs = [.int i, .int j] ∧ Q (.int (if j < i then j else i)) H
abbrev iAny (K : PySem.W.Frag) (tl : TE) : TI := fun σ H R => iList K tl σ H R ∨ iTup K tl σ H R
abbrev tWd (K : PySem.W.Frag) (f : Str) (te : TE) : TE := tSlotX (ga K "World") (slIx K (ga K "World") f) te
/-- xs[i], a list or a tuple -/
theorem ix_any {X : Cx} : IxR X (qIxS X.K) := ix_list.or ix_tup
end Cy
/-! further rules: extend by a tuple, sum of a tuple, all, enumerate of a tuple -/
namespace PySem
open AutoSeq1
theorem cy_extT {l b : Addr} {xs ys : Array Value} {n m : Nat} {dd : Option Addr} {sl : Array (Option Value)} (h1 : ¬(!xs.isEmpty && Builtin.List.listTooLong (xs.size + ys.size)) = true) (h2 : xs.size ≤ sizeLine) (h3 : xs.size + ys.size ≤ sizeLine + 1) :
    Meets (Builtin.«list.extend» ⟨[.ref l, .ref b], []⟩) (fun _ R s => s.heap.get? l = some { cls := .type "list", dict := none, data := .seq xs n, slots := #[] } ∧ s.heap.get? b = some { cls := .type "tuple", dict := dd, data := .seq ys m, slots := sl } ∧
      R (.ok (.ret Value.none)) { s with heap := s.heap.update l (Obj.mapSeq fun x => x ++ ys), toks := s.toks }) := by
  refine .of_wp fun pg w A R s h => ?_
  obtain ⟨hp, g0, d0, t0, o0⟩ := s
  obtain ⟨ql, qb, q⟩ := h
  have q1 := idx_int
  have q2 := sub_tuple_tuple
  have q3 := sub_list_list
  have q4 := sub_tuple_list
  have q5 := sub_list_tuple
  have q6 : (xs ++ ys).size ≤ sizeLine + 1 := Array.size_append ▸ h3
  wp_walk using (wpAny_updateSeq ql rfl (hz := h2) (_hz' := q6)), wpAny_loadPart' ql, wpAny_loadPart' qb
  exact ⟨_, rfl, q⟩
end PySem
namespace Cy
open PySem PySem.Spec PyProof.Rows L2 He
section
variable {X : Cx}
/-- xs.extend(t), t a tuple -/
def rExtT (K : PySem.W.Frag) : V → List V → Hp → VK → Prop := fun x vs H Q => ∃ l b xs zs, x = .ref l ∧ vs = [.ref b] ∧ H l = some (.lst xs) ∧ SqT K H b zs ∧ xs.length + zs.length ≤ sizeLine ∧ Q .non (upd H l (.lst (xs ++ zs)))
theorem mt_extT : MtM X "list.extend" (rExtT X.K) := by
  intro pn s σ H x vs v us Q I rx rv h
  obtain ⟨l, b, xs, zs, rfl, rfl, hl, hb, hz, q⟩ := h
  cases rx
  obtain ⟨u, rfl, ru⟩ := rv.one
  cases ru
  obtain ⟨z, its, n, r, len, e⟩ := I.lstM hl
  obtain ⟨jts, r2, hT, z2⟩ := I.tuple hb
  obtain ⟨⟨oc, od, dt, sl⟩, e2, c2, m, d2⟩ := hT
  dsimp only at c2 d2
  subst c2 d2
  have len2 := r2.length
  have sz : its.toArray.size + jts.toArray.size ≤ sizeLine := by
    simp only [List.size_toArray]
    omega
  have nl : ¬ (!its.toArray.isEmpty && Builtin.List.listTooLong (its.toArray.size + jts.toArray.size)) = true := by
    rw [notLongL sz]
    simp
  refine call_meets F.slot_list_extend ⟨_, e, rfl⟩ F.entry_list_extend (F.args_list_extend_2 _ _) (cy_extT nl (by simp only [List.size_toArray]; omega) (by omega)) ⟨e, e2, ?_⟩
  refine ⟨.non, _, I.lset (its' := its ++ jts) hl e (by simp) (r.append r2) ?_, rfl, q⟩
  simp only [List.length_append]
  omega
/-- sum of a tuple of ints -/
def rSumT (K : PySem.W.Frag) : List V → Hp → VK → Prop := fun vs H Q => ∃ (a : Addr) (ns : List Int), vs = [V.ref a] ∧ SqT K H a (ns.map V.int) ∧ Q (.int ns.sum) H
theorem cr_sumT (hc : X.calm = true) : CallR X (.builtin "sum") (rSumT X.K) := by
  intro pn s σ H vs us Q I r h
  obtain ⟨a, ns, rfl, hT, q⟩ := h
  obtain rfl := r.ref1
  obtain ⟨its, rv, ht, _⟩ := I.tuple hT
  have hi := rv.ints
  obtain ⟨xs, ex⟩ := hi.allInts.items
  have hn : numsOf (intItems xs).toList = ns := ex ▸ hi.numsOf
  rw [nums_intItems] at hn
  have ht2 : s.heap.IsTuple a (intItems xs) := ex ▸ ht
  refine PySem.W.ktm_sumG (I.ok.hd hc) ht2 fun h' tk t' hk => ?_
  refine ⟨.int _, H, I.kept hk, ⟨t', ?_⟩, q⟩
  rw [preSum_eq]; rw [List.take_of_length_le (by simp), hn]
end
section
variable {α : Type} {K : PySem.W.Frag} {σ : L2.St} {G H : Hp} {ta : TE} {R : Rel α} {bs : List Bool} {ns : List Int}
theorem paired_bools {G : Hp} : ∀ {us : List V} {bs : List Bool}, Paired (BR G) us bs → us = bs.map V.bl
  | _, _, .nil => rfl
  | _, _, .cons a r => by rw [show _ = V.bl _ from a, paired_bools r]; rfl
theorem ev_all (ha : Ev ta σ G H (Ls BR) bs) : Ev (tCB (rAll K) (tCons ta tNil)) σ G H BR (bs.all id) :=
  ev_cb (ea_cons ha ea_nil) fun G' H' vs _ v1 ⟨v, r, e, ⟨a, us, r1, h, p⟩, e2⟩ Q q => by
    subst e e2 r1
    rw [paired_bools p] at h
    exact ⟨a, bs, rfl, SqL.of (v1 _ _ h), q _ G' H' (Stp.refl v1) rfl⟩
theorem ev_sumL (ha : Ev ta σ G H (Ls IR) ns) : Ev (tCB (rSum K) (tCons ta tNil)) σ G H IR ns.sum :=
  ev_cb (ea_cons ha ea_nil) fun G' H' vs _ v1 ⟨v, r, e, ⟨a, us, r1, h, p⟩, e2⟩ Q q => by
    subst e e2 r1
    rw [paired_ints p] at h
    exact ⟨a, ns, rfl, SqL.of (v1 _ _ h), q _ G' H' (Stp.refl v1) rfl⟩
theorem ev_sumT (ha : Ev ta σ G H (Tp IR) ns) : Ev (tCB (rSumT K) (tCons ta tNil)) σ G H IR ns.sum :=
  ev_cb (ea_cons ha ea_nil) fun G' H' vs _ v1 ⟨v, r, e, ⟨a, us, r1, h, p⟩, e2⟩ Q q => by
    subst e e2 r1
    rw [paired_ints p] at h
    exact ⟨a, ns, rfl, SqT.of (v1 _ _ h), q _ G' H' (Stp.refl v1) rfl⟩
end
end Cy
/-! own lists: append, store -/
namespace Cy
open PySem PySem.Spec PyProof.Rows L2 He
section
variable {α : Type} {K : PySem.W.Frag} {σ : L2.St} {G H : Hp} {te ti : TE} {u : TS} {R : Rel α} {y : α} {D : Ends} {i : Nat} {a : Addr} {us : List V}
/-- xs.append(e), xs an own list in slot i -/
theorem s_append (hi : σ[i]? = some (some (.ref a))) (ha : H a = some (.lst us)) (hz : us.length < 100000) (h : Ev te σ G H R y) (e : Ex G H) (k : ∀ v G' H', Stp G H G' H' → R G' v y → u D σ (upd H' a (.lst (us ++ [v])))) :
    tSeq (tDrop (tBM K "list" rAppend (tVar i) (tCons te tNil))) u D σ H :=
  ⟨_, hi, .inl ⟨rfl, _, SqL.of ha⟩, h.run e fun v G' H' s r => ⟨a, us, v, rfl, rfl, s.h _ _ ha, small_lt hz, k v G' H' s r⟩⟩
theorem s_append1 (hi : σ[i]? = some (some (.ref a))) (ha : H a = some (.lst us)) (hz : us.length < 100000) (h : Ev te σ G H R y) (e : Ex G H) (k : ∀ v G' H', Stp G H G' H' → R G' v y → D.nx σ (upd H' a (.lst (us ++ [v])))) :
    tDrop (tBM K "list" rAppend (tVar i) (tCons te tNil)) D σ H :=
  ⟨_, hi, .inl ⟨rfl, _, SqL.of ha⟩, h.run e fun v G' H' s r => ⟨a, us, v, rfl, rfl, s.h _ _ ha, small_lt hz, k v G' H' s r⟩⟩
theorem ixN_nat {n j : Nat} (h : j < n) : ixN n (j : Int) = some j := by
  unfold ixN
  rw [if_pos (Int.natCast_nonneg _), if_pos (by omega), Int.toNat_natCast]
/-- xs[j] = e, xs an own list in slot i -/
theorem s_store {j : Nat} (hi : σ[i]? = some (some (.ref a))) (ha : H a = some (.lst us)) (hj : j < us.length) (h : Ev te σ G H R y) (hx : Ev ti σ G H IR (j : Int)) (e : Ex G H) (k : ∀ v G' H', Stp G H G' H' → R G' v y → u D σ (upd H' a (.lst (us.set j v)))) (hm : Mono R := by infer_instance) :
    tSeq (tAsg te (gSub (tVar i) ti rSetL)) u D σ H :=
  h.run e fun v G' H' s r => ⟨_, hi, hx G' H' s _ fun w G2 H2 s2 ew => by
    obtain rfl : w = .int (j : Int) := ew
    exact ⟨a, us, (j : Int), j, rfl, rfl, s2.h _ _ (s.h _ _ ha), ixN_nat hj, k v G2 H2 (s.trans s2) (Mono.up s2.g r)⟩⟩
theorem s_store1 {j : Nat} (hi : σ[i]? = some (some (.ref a))) (ha : H a = some (.lst us)) (hj : j < us.length) (h : Ev te σ G H R y) (hx : Ev ti σ G H IR (j : Int)) (e : Ex G H) (k : ∀ v G' H', Stp G H G' H' → R G' v y → D.nx σ (upd H' a (.lst (us.set j v)))) (hm : Mono R := by infer_instance) :
    tAsg te (gSub (tVar i) ti rSetL) D σ H :=
  h.run e fun v G' H' s r => ⟨_, hi, hx G' H' s _ fun w G2 H2 s2 ew => by
    obtain rfl : w = .int (j : Int) := ew
    exact ⟨a, us, (j : Int), j, rfl, rfl, s2.h _ _ (s.h _ _ ha), ixN_nat hj, k v G2 H2 (s.trans s2) (Mono.up s2.g r)⟩⟩
/-- x = [], a new own list -/
theorem s_new {u : TS} (e : Ex G H) (k : ∀ a, H a = none → G a = none → u D (σ.set i (some (.ref a))) (upd H a (.lst []))) : tSeq (tAsg (tLst tNil) (gName i)) u D σ H :=
  ⟨Nat.zero_le _, fun a ha => k a ha (e.none ha)⟩
end
end Cy
namespace Cy
open PySem PySem.Spec PyProof.Rows L2 He
local macro_rules | `(tactic| tm_at "ex") => `(tactic| first
  | exact Ex.refl _ | assumption | exact Stp.g (by assumption) | exact Stp.v (by assumption)
  | (refine Ex.trans (Stp.g (by assumption)) ?_; tm_at "ex")
  | (refine Ex.trans (by assumption) ?_; tm_at "ex"))
local macro_rules | `(tactic| tm_at "rl") => `(tactic| first
  | exact rfl | assumption | (apply Mono.up; rotate_left; assumption; tm_at "ex"))
local macro_rules | `(tactic| tm_at "sc") => `(tactic| first | assumption | omega)
local macro_rules | `(tactic| tm_at "ev") => `(tactic| first
  | exact ev_int | exact ev_bl | assumption
  | (apply ev_varI; exact rfl)
  | (apply ev_var; exact rfl; tm_at "rl")
  | (apply ev_I0; tm_at "ev"; tm_at "ev")
  | (apply ev_B0; tm_at "ev"; tm_at "ev")
  | (apply ev_I; tm_at "ev"; tm_at "ev"; tm_at "sc")
  | (apply ev_un; tm_at "ev")
  | (apply ev_eqI; tm_at "ev"; tm_at "ev")
  | (apply ev_neI; tm_at "ev"; tm_at "ev")
  | (apply ev_fstI; tm_at "ev")
  | (apply ev_sndI; tm_at "ev")
  | (apply ev_max2; tm_at "ev"; tm_at "ev")
  | (apply ev_min2; tm_at "ev"; tm_at "ev")
  | (apply ev_abs; tm_at "ev")
  | (apply ev_int1; tm_at "ev")
  | (apply ev_bits; tm_at "ev")
  | (apply ev_gcd; tm_at "ev"; tm_at "ev")
  | (apply ev_len; tm_at "ev")
  | (apply ev_tup2; tm_at "ev"; tm_at "ev"))
local macro_rules | `(tactic| tm_at "ea") => `(tactic| first
  | exact ea_nil
  | (apply ea_consI; tm_at "ev"; tm_at "ea")
  | (apply ea_cons; tm_at "ev"; tm_at "ea"))
local macro_rules | `(tactic| tm_at "et") => `(tactic| first
  | (apply et_test; tm_at "ev")
  | (apply et_B; tm_at "ev")
  | (apply et_not; tm_at "et"))

open Cr
/-! ### plain ints: gcd, lowest terms -/
def pw (b : Nat) (x : Int) : Prop := x.natAbs < 2 ^ b
theorem pw_bits {b : Nat} {x : Int} (h : pw b x) : Builtin.Int.intBits x ≤ b := intBits_le h
theorem mulx {i j : Int} {a b : Nat} (ha : pw a i) (hb : pw b j) (h : a + b ≤ 134217728 := by decide) : CMulX i j := mulx_ok ha hb h
theorem fdivy {i j : Int} {b : Nat} (h0 : j ≠ 0) (h : pw b j) (hb : b ≤ 9000 := by decide) : CDivY i j := ⟨h0, by
  have : j.natAbs.log2 < b := (Nat.log2_lt (by omega)).mpr h
  omega⟩
theorem lt_bits (n : Nat) : n < 2 ^ Builtin.Int.intBits (n : Int) := by
  unfold Builtin.Int.intBits
  by_cases h : n = 0
  · subst h; simp
  · rw [if_neg (by simpa using h), Int.natAbs_natCast]; exact Nat.lt_log2_self
theorem pw_nat {b : Nat} {x : Int} (h : pw b x) : pw b (x.natAbs : Int) := by unfold pw; rw [Int.natAbs_natCast]; exact h
abbrev N__law_gcd : List Str := ["_law_one", "_law_other", "_law_turn", "_law_rest"]
abbrev P__law_gcd : List Str := ["_law_one", "_law_other"]
theorem sc__law_gcd : FnScope N__law_gcd P__law_gcd (defScope s__law_gcd) := ⟨rfl, rfl, rfl, by decide +kernel, rfl, by decide +kernel, by decide +kernel⟩
def sp__law_gcd (K : PySem.W.Frag) : Sp := Pu (fun (x : Int × Int) vs G => (pw 9000 x.1 ∧ pw 9000 x.2) ∧ AC IR x.1 (AC IR x.2 A0) vs G) (fun x G u => IR G u ((Nat.gcd x.1.natAbs x.2.natAbs : Nat) : Int))
theorem len__law_gcd {K : PySem.W.Frag} {vs : List V} {H : Hp} {Q : VK} {E : XK} (h : sp__law_gcd K vs H Q E) : vs.length = P__law_gcd.length := by
  obtain ⟨G, x, e, ⟨_, a⟩, _⟩ := h
  rw [ar2 a]; rfl
theorem ok__law_gcd {P : Program} {w : World} {K : PySem.W.Frag} {mg : Str → Option Value} {base : Heap} {k : Nat} (T : Tx K mg)  : Ok P w K mg base (k + 1) "_law_gcd" P__law_gcd (sp__law_gcd K) := by
  refine ok_of T.d__law_gcd sc__law_gcd (fun _ _ _ _ _ _ us hl => match us, hl with | [_, _], _ => rfl) (fun vs H Q E h => ?_) (fun f cdv A outer s H vs Q E hr h => ?_)
  · exact len__law_gcd h
  · refine ⟨_, (pss_cons (ps_set (i := 0) sc__law_gcd.nd rfl (by first | exact Or.inl rfl | exact Or.inr rfl) (pe_callB call_abs (by rfl) T.f_abs (by decide +kernel) (pa_cons (pv 0) pa_nil)))
      (pss_cons (ps_set (i := 1) sc__law_gcd.nd rfl (by first | exact Or.inl rfl | exact Or.inr rfl) (pe_callB call_abs (by rfl) T.f_abs (by decide +kernel) (pa_cons (pv 1) pa_nil)))
      (pss_cons (ps_for PassesOwn.never rfl (pi_range1 (by rfl) T.f_range (pa_cons (pe_op op_add (pe_op op_mulX pe_int (pe_callB (call_max2 rfl) (by rfl) T.f_max (by decide +kernel) (pa_cons (pe_bits (pv 0)) (pa_cons (pe_bits (pv 1)) pa_nil)))) pe_int) pa_nil)) (pg_name (i := 2) sc__law_gcd.nd rfl (by first | exact Or.inl rfl | exact Or.inr rfl)) (pss_one (ps_if (pt_cmpR op_gt (pv 1) pe_int (nomark _)) (pss_cons (ps_set (i := 3) sc__law_gcd.nd rfl (by first | exact Or.inl rfl | exact Or.inr rfl) (pe_op op_mod (pe_callTy call_int1 (by rfl) T.f_int (by decide +kernel) (pa_cons (pv 0) pa_nil)) (pv 1)))
      (pss_cons (ps_set (i := 0) sc__law_gcd.nd rfl (by first | exact Or.inl rfl | exact Or.inr rfl) (pv 1))
      (pss_one (ps_set (i := 1) sc__law_gcd.nd rfl (by first | exact Or.inl rfl | exact Or.inr rfl) (pv 3))))) pss_nil)))
      (pss_one (ps_ret (pv 0)))))), ?_⟩
    obtain ⟨G, ⟨a, b⟩, e, ⟨⟨pa, pb⟩, hv⟩, q⟩ := h
    dsimp only at pa pb hv q
    obtain rfl := ar2 hv
    refine s_set (by tm_at "ev") e fun v G1 H1 s1 r1 => ?_
    obtain rfl := r1
    refine s_set (by tm_at "ev") s1.v fun v G2 H2 s2 r2 => ?_
    obtain rfl := r2
    have S := s1.trans s2
    have b1 := pw_bits (pw_nat pa)
    have b2 := pw_bits (pw_nat pb)
    have b3 := lt_bits b.natAbs
    generalize ea : Builtin.Int.intBits ((a.natAbs : Int)) = ba at *
    generalize eb : Builtin.Int.intBits ((b.natAbs : Int)) = bb at *
    have mu : CMulX 2 (max (ba : Int) (bb : Int)) := mulx (a := 2) (b := 14) (by show Int.natAbs 2 < 2 ^ 2; decide) (by show Int.natAbs _ < 2 ^ 14; omega)
    refine s_for (n := (2 * max (ba : Int) (bb : Int) + 4).toNat) (W := fun i _ v => v = .int (i : Int)) (I := fun i σ G' H' => Stp G H G' H' ∧ ∃ c d, σ = [some (.int (gst i (a.natAbs, b.natAbs)).1), some (.int (gst i (a.natAbs, b.natAbs)).2), c, d])
      (ei_range1 (by rw [← ea, ← eb] at *; tm_at "ea") (by omega) (by omega)) S.v ?_ ?_ ?_
    · exact fun G3 H3 s3 => ⟨S.trans s3, none, none, rfl⟩
    · rintro i v σ Gp Hq G' H' G1 hi e1 e2 ⟨S2, c, d, rfl⟩ s3 rfl
      have S3 := S2.trans s3
      have st : gst (i + 1) (a.natAbs, b.natAbs) = if 0 < (gst i (a.natAbs, b.natAbs)).2 then ((gst i (a.natAbs, b.natAbs)).2, (gst i (a.natAbs, b.natAbs)).1 % (gst i (a.natAbs, b.natAbs)).2) else gst i (a.natAbs, b.natAbs) := rfl
      generalize gst i (a.natAbs, b.natAbs) = p at *
      refine s_if (by tm_at "et") s3.v (fun G4 H4 s4 hb => ?_) (fun G4 H4 s4 hb => ?_)
      · have hb := of_decide_eq_true hb
        refine s_set (by tm_at "ev") s4.v fun v G5 H5 s5 r5 => ?_
        obtain rfl := r5
        refine s_set (by tm_at "ev") s5.v fun v G6 H6 s6 r6 => ?_
        obtain rfl := r6
        refine s_set1 (by tm_at "ev") s6.v fun v G7 H7 s7 r7 => ?_
        obtain rfl := r7
        have s := s4.trans (s5.trans (s6.trans s7))
        refine ⟨G7, e2.trans (s3.g.trans s.g), s7.v, S3.trans s, ?_⟩
        rw [st, if_pos (by omega)]
        exact ⟨_, _, rfl⟩
      · have hb := of_decide_eq_false hb
        refine ⟨G4, e2.trans (s3.g.trans s4.g), s4.v, S3.trans s4, ?_⟩
        rw [st, if_neg (by omega)]
        exact ⟨_, _, rfl⟩
    · rintro σ G' H' e1 e2 ⟨S2, c, d, rfl⟩
      refine s_ret (by tm_at "ev") S2.v fun v G3 H3 s3 r3 => q v G3 H3 (S2.trans s3) ?_
      obtain rfl := r3
      show V.int _ = V.int _
      rw [gst_end _ b3 (by omega)]

end Cy
namespace Cy
open PySem PySem.Spec PyProof.Rows L2 He
local macro_rules | `(tactic| tm_at "ex") => `(tactic| first
  | exact Ex.refl _ | assumption | exact Stp.g (by assumption) | exact Stp.v (by assumption)
  | (refine Ex.trans (Stp.g (by assumption)) ?_; tm_at "ex")
  | (refine Ex.trans (by assumption) ?_; tm_at "ex"))
local macro_rules | `(tactic| tm_at "rl") => `(tactic| first
  | exact rfl | assumption | (apply Mono.up; rotate_left; assumption; tm_at "ex"))
local macro_rules | `(tactic| tm_at "sc") => `(tactic| first | assumption | omega)
local macro_rules | `(tactic| tm_at "ev") => `(tactic| first
  | exact ev_int | exact ev_bl | assumption
  | (apply ev_varI; exact rfl)
  | (apply ev_var; exact rfl; tm_at "rl")
  | (apply ev_I0; tm_at "ev"; tm_at "ev")
  | (apply ev_B0; tm_at "ev"; tm_at "ev")
  | (apply ev_I; tm_at "ev"; tm_at "ev"; tm_at "sc")
  | (apply ev_un; tm_at "ev")
  | (apply ev_eqI; tm_at "ev"; tm_at "ev")
  | (apply ev_neI; tm_at "ev"; tm_at "ev")
  | (apply ev_fstI; tm_at "ev")
  | (apply ev_sndI; tm_at "ev")
  | (apply ev_max2; tm_at "ev"; tm_at "ev")
  | (apply ev_min2; tm_at "ev"; tm_at "ev")
  | (apply ev_abs; tm_at "ev")
  | (apply ev_int1; tm_at "ev")
  | (apply ev_bits; tm_at "ev")
  | (apply ev_gcd; tm_at "ev"; tm_at "ev")
  | (apply ev_len; tm_at "ev")
  | (apply ev_tup2; tm_at "ev"; tm_at "ev"))
local macro_rules | `(tactic| tm_at "ea") => `(tactic| first
  | exact ea_nil
  | (apply ea_consI; tm_at "ev"; tm_at "ea")
  | (apply ea_cons; tm_at "ev"; tm_at "ea"))
local macro_rules | `(tactic| tm_at "et") => `(tactic| first
  | (apply et_test; tm_at "ev")
  | (apply et_B; tm_at "ev")
  | (apply et_not; tm_at "et"))

open Cr
theorem gcd_dvd_fdiv {t : Int} {g : Nat} (hg : 0 < g) (h : g ∣ t.natAbs) (s : Int) (hs : s = 1 ∨ s = -1) : t.fdiv (s * g) = s * (t / (g : Int)) := by
  obtain ⟨u, hu⟩ := Int.ofNat_dvd_left.mpr h
  have gi : (g : Int) ≠ 0 := by omega
  rw [hu, Int.mul_ediv_cancel_left _ gi]
  rcases hs with rfl | rfl
  · rw [Int.one_mul, Int.one_mul, Int.mul_fdiv_cancel_left _ gi]
  · rw [show (g : Int) * u = (-1 * g) * (-1 * u) by grind, Int.mul_fdiv_cancel_left _ (by omega)]
abbrev N_is_whole : List Str := ["value"]
abbrev P_is_whole : List Str := ["value"]
theorem sc_is_whole : FnScope N_is_whole P_is_whole (defScope s_is_whole) := ⟨rfl, rfl, rfl, by decide +kernel, rfl, by decide +kernel, by decide +kernel⟩
def sp_is_whole (K : PySem.W.Frag) : Sp := Pu (fun (T : String) vs G => (T = "int" ∨ T = "bool" ∨ T = "NoneType" ∨ T = "str" ∨ T = "tuple") ∧ AC TR T A0 vs G) (fun T G u => BR G u (T == "int"))
theorem len_is_whole {K : PySem.W.Frag} {vs : List V} {H : Hp} {Q : VK} {E : XK} (h : sp_is_whole K vs H Q E) : vs.length = P_is_whole.length := by
  obtain ⟨G, x, e, ⟨_, a⟩, _⟩ := h
  obtain ⟨a, rfl, _⟩ := ac1 a
  rfl
theorem ok_is_whole {P : Program} {w : World} {K : PySem.W.Frag} {mg : Str → Option Value} {base : Heap} {k : Nat} (T : Tx K mg)  : Ok P w K mg base (k + 1) "is_whole" P_is_whole (sp_is_whole K) := by
  refine ok_of T.d_is_whole sc_is_whole (fun _ _ _ _ _ _ us hl => match us, hl with | [_], _ => rfl) (fun vs H Q E h => ?_) (fun f cdv A outer s H vs Q E hr h => ?_)
  · exact len_is_whole h
  · refine ⟨_, (pss_one (ps_ret (pe_and (pe_callB call_isi (by rfl) T.f_isinstance (by decide +kernel) (pa_cons (pv 0) (pa_cons (pe_bltn (v := .ty "int") (by rfl) T.f_int (by decide +kernel) rfl) pa_nil))) (pe_one (pe_not (pe_callB call_isi (by rfl) T.f_isinstance (by decide +kernel) (pa_cons (pv 0) (pa_cons (pe_bltn (v := .ty "bool") (by rfl) T.f_bool (by decide +kernel) rfl) pa_nil)))))))), ?_⟩
    obtain ⟨G, T', e, ⟨hT, hv⟩, q⟩ := h
    obtain ⟨a, rfl, ha⟩ := ac1 hv
    refine s_ret (R := BR) (x := (T' == "int")) ?_ e fun v G1 H1 s1 r1 => q v G1 H1 s1 r1
    have w : Ev (tVar 0) (start N_is_whole [a]) G H TR T' := ev_var rfl ha
    rcases hT with rfl | rfl | rfl | rfl | rfl
    · exact ev_andV (b := true) (c := true) (ev_isi w (by decide +kernel)) fun _ => ev_notV (b := false) (ev_isi w (by decide +kernel))
    · exact ev_andV (b := true) (c := false) (ev_isi w (by decide +kernel)) fun _ => ev_notV (b := true) (ev_isi w (by decide +kernel))
    · exact ev_andV (b := false) (c := false) (ev_isi w (by decide +kernel)) fun z => by cases z
    · exact ev_andV (b := false) (c := false) (ev_isi w (by decide +kernel)) fun z => by cases z
    · exact ev_andV (b := false) (c := false) (ev_isi w (by decide +kernel)) fun z => by cases z
abbrev N__law_int : List Str := ["_law_value"]
abbrev P__law_int : List Str := ["_law_value"]
theorem sc__law_int : FnScope N__law_int P__law_int (defScope s__law_int) := ⟨rfl, rfl, rfl, by decide +kernel, rfl, by decide +kernel, by decide +kernel⟩
def sp__law_int (K : PySem.W.Frag) : Sp := Pu (fun (i : Int) vs G => AC IR i A0 vs G) (fun T G u => BR G u true)
theorem len__law_int {K : PySem.W.Frag} {vs : List V} {H : Hp} {Q : VK} {E : XK} (h : sp__law_int K vs H Q E) : vs.length = P__law_int.length := by
  obtain ⟨G, x, e, a, _⟩ := h
  obtain ⟨a, rfl, _⟩ := ac1 a
  rfl
theorem ok__law_int {P : Program} {w : World} {K : PySem.W.Frag} {mg : Str → Option Value} {base : Heap} {k : Nat} (T : Tx K mg)  : Ok P w K mg base (k + 1) "_law_int" P__law_int (sp__law_int K) := by
  refine ok_of T.d__law_int sc__law_int (fun _ _ _ _ _ _ us hl => match us, hl with | [_], _ => rfl) (fun vs H Q E h => ?_) (fun f cdv A outer s H vs Q E hr h => ?_)
  · exact len__law_int h
  · refine ⟨_, (pss_one (ps_ret (pe_and (pe_callB call_isi (by rfl) T.f_isinstance (by decide +kernel) (pa_cons (pv 0) (pa_cons (pe_bltn (v := .ty "int") (by rfl) T.f_int (by decide +kernel) rfl) pa_nil))) (pe_one (pe_not (pe_callB call_isi (by rfl) T.f_isinstance (by decide +kernel) (pa_cons (pv 0) (pa_cons (pe_bltn (v := .ty "bool") (by rfl) T.f_bool (by decide +kernel) rfl) pa_nil)))))))), ?_⟩
    obtain ⟨G, i, e, hv, q⟩ := h
    obtain ⟨a, rfl, ha⟩ := ac1 hv
    refine s_ret (R := BR) (x := true) ?_ e fun v G1 H1 s1 r1 => q v G1 H1 s1 r1
    have w : Ev (tVar 0) (start N__law_int [a]) G H TR "int" := ev_intIR (ev_var rfl ha)
    exact ev_andV (b := true) (c := true) (ev_isi w (by decide +kernel)) fun _ => ev_notV (b := false) (ev_isi w (by decide +kernel))
/-! lowest terms -/
theorem pw_gcd {B : Nat} {a b : Int} (hb : b ≠ 0) (h : pw B b) : pw B ((Nat.gcd a.natAbs b.natAbs : Nat) : Int) := by
  unfold pw
  rw [Int.natAbs_natCast]
  exact Nat.lt_of_le_of_lt (Nat.gcd_le_right _ (by omega)) h
abbrev N__ratios_lowest : List Str := ["top", "bottom", "common"]
abbrev P__ratios_lowest : List Str := ["top", "bottom"]
theorem sc__ratios_lowest : FnScope N__ratios_lowest P__ratios_lowest (defScope s__ratios_lowest) := ⟨rfl, rfl, rfl, by decide +kernel, rfl, by decide +kernel, by decide +kernel⟩
def sp__ratios_lowest (K : PySem.W.Frag) : Sp := Pu (fun (x : Int × Int) vs G => (x.2 ≠ 0 ∧ pw 9000 x.2) ∧ AC IR x.1 (AC IR x.2 A0) vs G) (fun x G u => FR G u (lowf x.1 x.2))
theorem len__ratios_lowest {K : PySem.W.Frag} {vs : List V} {H : Hp} {Q : VK} {E : XK} (h : sp__ratios_lowest K vs H Q E) : vs.length = P__ratios_lowest.length := by
  obtain ⟨G, x, e, ⟨_, a⟩, _⟩ := h
  rw [ar2 a]; rfl
theorem ok__ratios_lowest {P : Program} {w : World} {K : PySem.W.Frag} {mg : Str → Option Value} {base : Heap} {k : Nat} (T : Tx K mg)  : Ok P w K mg base (k + 1) "_ratios_lowest" P__ratios_lowest (sp__ratios_lowest K) := by
  refine ok_of T.d__ratios_lowest sc__ratios_lowest (fun _ _ _ _ _ _ us hl => match us, hl with | [_, _], _ => rfl) (fun vs H Q E h => ?_) (fun f cdv A outer s H vs Q E hr h => ?_)
  · exact len__ratios_lowest h
  · refine ⟨_, (pss_cons (ps_set (i := 2) sc__ratios_lowest.nd rfl (by first | exact Or.inl rfl | exact Or.inr rfl) (pe_callBfun cr_gcd (by rfl) T.gcd (pa_cons (pv 0) (pa_cons (pv 1) pa_nil))))
      (pss_cons (ps_if (pt_cmpR op_lt (pv 1) pe_int (nomark _)) (pss_one (ps_set (i := 2) sc__ratios_lowest.nd rfl (by first | exact Or.inl rfl | exact Or.inr rfl) (pe_un un_neg (pv 2)))) pss_nil)
      (pss_one (ps_ret (pe_tup (pa_cons (pe_op op_fdivY (pv 0) (pv 2)) (pa_cons (pe_op op_fdivY (pv 1) (pv 2)) pa_nil))))))), ?_⟩
    obtain ⟨G, ⟨t, b⟩, e, ⟨⟨b0, pb⟩, hv⟩, q⟩ := h
    dsimp only at b0 pb hv q
    obtain rfl := ar2 hv
    have g0 : 0 < Nat.gcd t.natAbs b.natAbs := Nat.gcd_pos_of_pos_right _ (by omega)
    have gp := pw_gcd (a := t) b0 pb
    have d1 := Nat.gcd_dvd_left t.natAbs b.natAbs
    have d2 := Nat.gcd_dvd_right t.natAbs b.natAbs
    refine s_set (by tm_at "ev") e fun v G1 H1 s1 r1 => ?_
    obtain rfl := r1
    have key : ∀ G2 H2, Stp G H G2 H2 → ∀ (s : Int), (s = 1 ∧ 0 < b ∨ s = -1 ∧ b < 0) → tRet (tTup (tCons (tOp (rI CDivY fun i j => .int (i.fdiv j)) (tVar 0) (tVar 2)) (tCons (tOp (rI CDivY fun i j => .int (i.fdiv j)) (tVar 1) (tVar 2)) tNil))) { nx := fun x H' => Q V.non H', rt := Q } [some (.int t), some (.int b), some (.int (s * (Nat.gcd t.natAbs b.natAbs : Nat)))] H2 := by
      intro G2 H2 S s hs
      have hs1 : s = 1 ∨ s = -1 := by omega
      have pg : pw 9000 (s * (Nat.gcd t.natAbs b.natAbs : Nat)) := by
        unfold pw at gp ⊢
        rw [Int.natAbs_mul, show s.natAbs = 1 by omega, Nat.one_mul]; exact gp
      have ng : s * (Nat.gcd t.natAbs b.natAbs : Nat) ≠ 0 := by rcases hs1 with rfl | rfl <;> omega
      have c1 : CDivY t (s * (Nat.gcd t.natAbs b.natAbs : Nat)) := fdivy ng pg
      have c2 : CDivY b (s * (Nat.gcd t.natAbs b.natAbs : Nat)) := fdivy ng pg
      refine s_ret (R := FR) (x := (_, _)) (by tm_at "ev") S.v fun v G3 H3 s3 r3 => q v G3 H3 (S.trans s3) ?_
      rw [gcd_dvd_fdiv g0 d1 s hs1, gcd_dvd_fdiv g0 d2 s hs1] at r3
      obtain ⟨di, dj⟩ : (∃ u, t = (Nat.gcd t.natAbs b.natAbs : Nat) * u) ∧ ∃ u, b = (Nat.gcd t.natAbs b.natAbs : Nat) * u := ⟨Int.ofNat_dvd_left.mpr d1, Int.ofNat_dvd_left.mpr d2⟩
      have e1 : lowf t b = (s * (t / (Nat.gcd t.natAbs b.natAbs : Nat)), s * (b / (Nat.gcd t.natAbs b.natAbs : Nat))) := by
        unfold lowf
        rcases hs with ⟨rfl, hb⟩ | ⟨rfl, hb⟩
        · rw [if_neg (by omega), show (b.natAbs : Int) = b by omega, Int.one_mul, Int.one_mul]
        · have n1 : ∀ z : Int, (∃ u, z = (Nat.gcd t.natAbs b.natAbs : Nat) * u) → (-z) / (Nat.gcd t.natAbs b.natAbs : Nat) = -1 * (z / (Nat.gcd t.natAbs b.natAbs : Nat)) := fun z ⟨u, hu⟩ => by
            rw [hu, ← Int.mul_neg, Int.mul_ediv_cancel_left _ (by omega), Int.mul_ediv_cancel_left _ (by omega)]; omega
          rw [if_pos hb, show (b.natAbs : Int) = -b by omega, n1 t di, n1 b dj]
      rw [e1]
      exact r3
    refine s_ifc (by tm_at "et") s1.v (fun G2 H2 s2 hb => ?_) (fun G2 H2 s2 hb => ?_)
    · have hb := of_decide_eq_true hb
      refine s_set1 (by tm_at "ev") s2.v fun v G3 H3 s3 r3 => ?_
      obtain rfl := r3
      have := key G3 H3 (s1.trans (s2.trans s3)) (-1) (.inr ⟨rfl, hb⟩)
      rw [show (-1 : Int) * (Nat.gcd t.natAbs b.natAbs : Nat) = -(Nat.gcd t.natAbs b.natAbs : Nat) by omega] at this
      exact this
    · have hb := of_decide_eq_false hb
      have := key G2 H2 (s1.trans s2) 1 (.inl ⟨rfl, by omega⟩)
      rw [Int.one_mul] at this
      exact this

abbrev N_ratio : List Str := ["top", "bottom"]
abbrev P_ratio : List Str := ["top", "bottom"]
theorem sc_ratio : FnScope N_ratio P_ratio (defScope s_ratio) := ⟨rfl, rfl, rfl, by decide +kernel, rfl, by decide +kernel, by decide +kernel⟩
def sp_ratio (K : PySem.W.Frag) : Sp := Pu (fun (x : Int × Int) vs G => (x.2 ≠ 0 ∧ pw 9000 x.2) ∧ AC IR x.1 (AC IR x.2 A0) vs G) (fun x G u => FR G u (lowf x.1 x.2))
theorem len_ratio {K : PySem.W.Frag} {vs : List V} {H : Hp} {Q : VK} {E : XK} (h : sp_ratio K vs H Q E) : vs.length = P_ratio.length := by
  obtain ⟨G, x, e, ⟨_, a⟩, _⟩ := h
  rw [ar2 a]; rfl
theorem ok_ratio {P : Program} {w : World} {K : PySem.W.Frag} {mg : Str → Option Value} {base : Heap} {k : Nat} (T : Tx K mg) (G_is_whole : Ok P w K mg base k "is_whole" P_is_whole (sp_is_whole K)) (G__ratios_lowest : Ok P w K mg base k "_ratios_lowest" P__ratios_lowest (sp__ratios_lowest K)) :
    Ok P w K mg base (k + 1) "ratio" P_ratio (sp_ratio K) := by
  obtain ⟨fd_is_whole, G_is_whole, B_is_whole, K_is_whole⟩ := G_is_whole
  obtain ⟨fd__ratios_lowest, G__ratios_lowest, B__ratios_lowest, K__ratios_lowest⟩ := G__ratios_lowest
  obtain ⟨fd, F⟩ := T.d_ratio
  obtain ⟨ds, e1, e2⟩ := F.binds1 (ps := P_ratio) 2 1 (by intro z; cases z) rfl (fun T kV doc pm an cdv ct us its h1 h2 => match us, its, h1, h2 with | [_, _], [_], _, _ => ⟨_, rfl, rfl⟩)
  have e3 : ds = [] := by cases e1; rfl
  subst e3
  refine ⟨fd, F.ok sc_ratio (fun vs H Q E h => len_ratio h) fun cdv A outer s H vs Q E hr h => ⟨_, PSs.nox (pss_cons (ps_if (pt_not (pt_val (pe_call G_is_whole hr (by rfl) T.g_is_whole K_is_whole B_is_whole .nil pass0 (pa_cons (pv 0) pa_nil)))) (pss_one ps_never) pss_nil)
      (pss_cons (ps_if (PW.pt (pw_or (pt_not (pt_val (pe_call G_is_whole hr (by rfl) T.g_is_whole K_is_whole B_is_whole .nil pass0 (pa_cons (pv 1) pa_nil)))) (pw_or1 (pt_cmpR op_eq (pv 1) pe_int (nomark _))))) (pss_one ps_never) pss_nil)
      (pss_one (ps_ret (pe_call G__ratios_lowest hr (by rfl) T.g__ratios_lowest K__ratios_lowest B__ratios_lowest .nil pass0 (pa_cons (pv 0) (pa_cons (pv 1) pa_nil))))))), ?_⟩, e2, F.kp⟩
  obtain ⟨G, ⟨t, b⟩, e, ⟨⟨b0, pb⟩, hv⟩, q⟩ := h
  dsimp only at b0 pb hv q
  obtain rfl := ar2 hv
  have iw : ∀ {ta : TE} {σ : L2.St} {G H : Hp} {i : Int}, Ev ta σ G H IR i → Ev (tCall (sp_is_whole K) [] E0 (tCons ta tNil)) σ G H BR true := fun ha => ev_call "int" (ea_cons (ev_intIR ha) ea_nil) (fun vs G' _ h => ⟨.inl rfl, h⟩) (fun _ _ h => h)
  refine s_chk (et_not (et_B (iw (ev_varI rfl)))) e (fun G2 H2 s2 => ?_)
  refine s_ifn (et_or (b := false) (et_not (et_B (iw (ev_varI rfl)))) fun _ => et_test (ev_eqI (ev_varI rfl) ev_int)) s2.v (fun G3 H3 s3 hb => ?_) (fun G3 H3 s3 _ => ?_)
  · exact absurd (of_decide_eq_true hb) b0
  · refine s_ret (R := FR) (x := lowf t b) ?_ s3.v fun v G4 H4 s4 r4 => q v G4 H4 (s2.trans (s3.trans s4)) r4
    exact ev_call (t, b) (by tm_at "ea") (fun vs G' _ h => ⟨⟨b0, pb⟩, h⟩) (fun _ _ h => h)
abbrev N__law_low : List Str := ["_law_top", "_law_bottom", "_law_part"]
abbrev P__law_low : List Str := ["_law_top", "_law_bottom"]
theorem sc__law_low : FnScope N__law_low P__law_low (defScope s__law_low) := ⟨rfl, rfl, rfl, by decide +kernel, rfl, by decide +kernel, by decide +kernel⟩
def sp__law_low (K : PySem.W.Frag) : Sp := Pu (fun (x : Int × Int) vs G => (x.2 ≠ 0 ∧ pw 8999 x.1 ∧ pw 8999 x.2) ∧ AC IR x.1 (AC IR x.2 A0) vs G) (fun x G u => FR G u (lowf x.1 x.2))
theorem len__law_low {K : PySem.W.Frag} {vs : List V} {H : Hp} {Q : VK} {E : XK} (h : sp__law_low K vs H Q E) : vs.length = P__law_low.length := by
  obtain ⟨G, x, e, ⟨_, a⟩, _⟩ := h
  rw [ar2 a]; rfl
theorem pw_neg {B : Nat} {x : Int} (h : pw B x) : pw B (-x) := by unfold pw at h ⊢; rw [Int.natAbs_neg]; exact h
theorem pw_mono {A B : Nat} {x : Int} (h : pw A x) (hab : A ≤ B := by decide) : pw B x := Nat.lt_of_lt_of_le h (Nat.pow_le_pow_right (by decide) hab)
theorem ok__law_low {P : Program} {w : World} {K : PySem.W.Frag} {mg : Str → Option Value} {base : Heap} {k : Nat} (T : Tx K mg) (G__law_gcd : Ok P w K mg base k "_law_gcd" P__law_gcd (sp__law_gcd K)) : Ok P w K mg base (k + 1) "_law_low" P__law_low (sp__law_low K) := by
  obtain ⟨fd__law_gcd, G__law_gcd, B__law_gcd, K__law_gcd⟩ := G__law_gcd
  refine ok_of T.d__law_low sc__law_low (fun _ _ _ _ _ _ us hl => match us, hl with | [_, _], _ => rfl) (fun vs H Q E h => ?_) (fun f cdv A outer s H vs Q E hr h => ?_)
  · exact len__law_low h
  · refine ⟨_, (pss_cons (ps_if (pt_cmpR op_lt (pv 1) pe_int (nomark _)) (pss_cons (ps_set (i := 0) sc__law_low.nd rfl (by first | exact Or.inl rfl | exact Or.inr rfl) (pe_un un_neg (pv 0)))
      (pss_one (ps_set (i := 1) sc__law_low.nd rfl (by first | exact Or.inl rfl | exact Or.inr rfl) (pe_un un_neg (pv 1))))) pss_nil)
      (pss_cons (ps_set (i := 2) sc__law_low.nd rfl (by first | exact Or.inl rfl | exact Or.inr rfl) (pe_callB (call_max2 rfl) (by rfl) T.f_max (by decide +kernel) (pa_cons pe_int (pa_cons (pe_call G__law_gcd hr (by rfl) T.g__law_gcd K__law_gcd B__law_gcd .nil pass0 (pa_cons (pv 0) (pa_cons (pv 1) pa_nil))) pa_nil))))
      (pss_one (ps_ret (pe_tup (pa_cons (pe_op op_fdivY (pv 0) (pv 2)) (pa_cons (pe_op op_fdivY (pv 1) (pv 2)) pa_nil))))))), ?_⟩
    obtain ⟨G, ⟨t, b⟩, e, ⟨⟨b0, pt, pb⟩, hv⟩, q⟩ := h
    dsimp only at b0 pt pb hv q
    obtain rfl := ar2 hv
    have key : ∀ G2 H2, Stp G H G2 H2 → ∀ (t' b' : Int), 0 < b' → pw 8999 t' → pw 8999 b' → lowf t b = (t' / (Nat.gcd t'.natAbs b'.natAbs : Nat), b' / (Nat.gcd t'.natAbs b'.natAbs : Nat)) →
        tSeq (tAsg (tCB (fun xs H Q => ∃ i j, xs = [.int i, .int j] ∧ Q (.int (if j > i then j else i)) H) (tCons (tC (.int 1)) (tCons (tCall (sp__law_gcd K) [] E0 (tCons (tVar 0) (tCons (tVar 1) tNil))) tNil))) (gName 2))
          (tRet (tTup (tCons (tOp (rI CDivY fun i j => .int (i.fdiv j)) (tVar 0) (tVar 2)) (tCons (tOp (rI CDivY fun i j => .int (i.fdiv j)) (tVar 1) (tVar 2)) tNil)))) { nx := fun x H' => Q V.non H', rt := Q } [some (.int t'), some (.int b'), none] H2 := by
      intro G2 H2 S t' b' hb' pt' pb' el
      have g0 : 0 < Nat.gcd t'.natAbs b'.natAbs := Nat.gcd_pos_of_pos_right _ (by omega)
      have gp := pw_gcd (a := t') (by omega) pb'
      refine s_set (R := IR) (x := max 1 ((Nat.gcd t'.natAbs b'.natAbs : Nat) : Int)) (ev_max2 ev_int (ev_call (t', b') (by tm_at "ea") (fun vs G' _ h => ⟨⟨pw_mono pt', pw_mono pb'⟩, h⟩) (fun _ _ h => h))) S.v fun v G3 H3 s3 r3 => ?_
      rw [show max 1 ((Nat.gcd t'.natAbs b'.natAbs : Nat) : Int) = (Nat.gcd t'.natAbs b'.natAbs : Nat) by omega] at r3
      obtain rfl := r3
      have c1 : CDivY t' (Nat.gcd t'.natAbs b'.natAbs : Nat) := fdivy (by omega) gp
      have c2 : CDivY b' (Nat.gcd t'.natAbs b'.natAbs : Nat) := fdivy (by omega) gp
      refine s_ret (R := FR) (x := (_, _)) (by tm_at "ev") s3.v fun v G4 H4 s4 r4 => q v G4 H4 (S.trans (s3.trans s4)) ?_
      rw [el]
      rw [Int.fdiv_eq_ediv_of_nonneg _ (by omega), Int.fdiv_eq_ediv_of_nonneg _ (by omega)] at r4
      exact r4
    refine s_ifc (by tm_at "et") e (fun G2 H2 s2 hb => ?_) (fun G2 H2 s2 hb => ?_)
    · have hb := of_decide_eq_true hb
      refine s_set (by tm_at "ev") s2.v fun v G3 H3 s3 r3 => ?_
      obtain rfl := r3
      refine s_set1 (by tm_at "ev") s3.v fun v G4 H4 s4 r4 => ?_
      obtain rfl := r4
      refine key G4 H4 (s2.trans (s3.trans s4)) (-t) (-b) (by omega) (pw_neg pt) (pw_neg pb) ?_
      unfold lowf
      rw [if_pos hb, Int.natAbs_neg, Int.natAbs_neg, show (b.natAbs : Int) = -b by omega]
    · have hb := of_decide_eq_false hb
      refine key G2 H2 s2 t b (by omega) pt pb ?_
      unfold lowf
      rw [if_neg hb, show (b.natAbs : Int) = b by omega]

end Cy
namespace Cy
open PySem PySem.Spec PyProof.Rows L2 He
local macro_rules | `(tactic| tm_at "ex") => `(tactic| first
  | exact Ex.refl _ | assumption | exact Stp.g (by assumption) | exact Stp.v (by assumption)
  | (refine Ex.trans (Stp.g (by assumption)) ?_; tm_at "ex")
  | (refine Ex.trans (by assumption) ?_; tm_at "ex"))
local macro_rules | `(tactic| tm_at "rl") => `(tactic| first
  | exact rfl | assumption | (apply Mono.up; rotate_left; assumption; tm_at "ex"))
local macro_rules | `(tactic| tm_at "sc") => `(tactic| first | assumption | omega)
local macro_rules | `(tactic| tm_at "ev") => `(tactic| first
  | exact ev_int | exact ev_bl | assumption
  | (apply ev_varI; exact rfl)
  | (apply ev_var; exact rfl; tm_at "rl")
  | (apply ev_I0; tm_at "ev"; tm_at "ev")
  | (apply ev_B0; tm_at "ev"; tm_at "ev")
  | (apply ev_I; tm_at "ev"; tm_at "ev"; tm_at "sc")
  | (apply ev_un; tm_at "ev")
  | (apply ev_eqI; tm_at "ev"; tm_at "ev")
  | (apply ev_neI; tm_at "ev"; tm_at "ev")
  | (apply ev_fstI; tm_at "ev")
  | (apply ev_sndI; tm_at "ev")
  | (apply ev_max2; tm_at "ev"; tm_at "ev")
  | (apply ev_min2; tm_at "ev"; tm_at "ev")
  | (apply ev_abs; tm_at "ev")
  | (apply ev_int1; tm_at "ev")
  | (apply ev_bits; tm_at "ev")
  | (apply ev_gcd; tm_at "ev"; tm_at "ev")
  | (apply ev_len; tm_at "ev")
  | (apply ev_tup2; tm_at "ev"; tm_at "ev"))
local macro_rules | `(tactic| tm_at "ea") => `(tactic| first
  | exact ea_nil
  | (apply ea_consI; tm_at "ev"; tm_at "ea")
  | (apply ea_cons; tm_at "ev"; tm_at "ea"))
local macro_rules | `(tactic| tm_at "et") => `(tactic| first
  | (apply et_test; tm_at "ev")
  | (apply et_B; tm_at "ev")
  | (apply et_not; tm_at "et"))

open Cr
theorem pw_mul {A B : Nat} {x y : Int} (h : pw A x) (h' : pw B y) : pw (A + B) (x * y) := wide_lt h h'
theorem pw_add {A : Nat} {x y : Int} (h : pw A x) (h' : pw A y) : pw (A + 1) (x + y) := by
  unfold pw at *
  rw [Nat.pow_succ]
  omega
/-! sums of fractions, the law's looks at them -/
def pwF (b : Nat) (p : Int × Int) : Prop := pw b p.1 ∧ pw b p.2
abbrev N__law_sum : List Str := ["_law_one", "_law_other"]
abbrev P__law_sum : List Str := ["_law_one", "_law_other"]
theorem sc__law_sum : FnScope N__law_sum P__law_sum (defScope s__law_sum) := ⟨rfl, rfl, rfl, by decide +kernel, rfl, by decide +kernel, by decide +kernel⟩
def sp__law_sum (K : PySem.W.Frag) : Sp := Pu (fun (x : (Int × Int) × (Int × Int)) vs G => (0 < x.1.2 ∧ 0 < x.2.2 ∧ pwF 4000 x.1 ∧ pwF 4000 x.2) ∧ AC FR x.1 (AC FR x.2 A0) vs G) (fun x G u => FR G u (addf x.1 x.2))
theorem len__law_sum {K : PySem.W.Frag} {vs : List V} {H : Hp} {Q : VK} {E : XK} (h : sp__law_sum K vs H Q E) : vs.length = P__law_sum.length := by
  obtain ⟨G, x, e, ⟨_, a⟩, _⟩ := h
  obtain ⟨_, _, rfl, _⟩ := ac2 a; rfl
theorem ok__law_sum {P : Program} {w : World} {K : PySem.W.Frag} {mg : Str → Option Value} {base : Heap} {k : Nat} (T : Tx K mg) (G__law_low : Ok P w K mg base k "_law_low" P__law_low (sp__law_low K)) : Ok P w K mg base (k + 1) "_law_sum" P__law_sum (sp__law_sum K) := by
  obtain ⟨fd__law_low, G__law_low, B__law_low, K__law_low⟩ := G__law_low
  refine ok_of T.d__law_sum sc__law_sum (fun _ _ _ _ _ _ us hl => match us, hl with | [_, _], _ => rfl) (fun vs H Q E h => ?_) (fun f cdv A outer s H vs Q E hr h => ?_)
  · exact len__law_sum h
  · refine ⟨_, (pss_one (ps_ret (pe_call G__law_low hr (by rfl) T.g__law_low K__law_low B__law_low .nil pass0 (pa_cons (pe_op op_add (pe_op op_mulX (pe_ix ix_tup (pv 0) pe_int (fun _ _ => rfl)) (pe_ix ix_tup (pv 1) pe_int (fun _ _ => rfl))) (pe_op op_mulX (pe_ix ix_tup (pv 1) pe_int (fun _ _ => rfl)) (pe_ix ix_tup (pv 0) pe_int (fun _ _ => rfl)))) (pa_cons (pe_op op_mulX (pe_ix ix_tup (pv 0) pe_int (fun _ _ => rfl)) (pe_ix ix_tup (pv 1) pe_int (fun _ _ => rfl))) pa_nil))))), ?_⟩
    obtain ⟨G, ⟨a, b⟩, e, ⟨⟨a0, b0, ⟨pa1, pa2⟩, ⟨pb1, pb2⟩⟩, hv⟩, q⟩ := h
    dsimp only at a0 b0 pa1 pa2 pb1 pb2 hv q
    obtain ⟨u, v, rfl, hu, hv⟩ := ac2 hv
    have m1 := mulx pa1 pb2
    have m2 := mulx pb1 pa2
    have m3 := mulx pa2 pb2
    have eu : Ev (tVar 0) (start N__law_sum [u, v]) G H FR a := ev_var rfl hu
    have ew : Ev (tVar 1) (start N__law_sum [u, v]) G H FR b := ev_var rfl hv
    refine s_ret (R := FR) (x := addf a b) ?_ e fun v G1 H1 s1 r1 => q v G1 H1 s1 r1
    exact ev_call (a.1 * b.2 + b.1 * a.2, a.2 * b.2) (by tm_at "ea")
      (fun vs G' _ h => ⟨⟨fun z => by rcases Int.mul_eq_zero.mp z with z | z <;> omega, pw_mono (pw_add (pw_mul pa1 pb2) (pw_mul pb1 pa2)), pw_mono (pw_mul pa2 pb2)⟩, by exact h⟩) (fun _ _ h => h)
abbrev N__law_right : List Str := ["_law_value"]
abbrev P__law_right : List Str := ["_law_value"]
theorem sc__law_right : FnScope N__law_right P__law_right (defScope s__law_right) := ⟨rfl, rfl, rfl, by decide +kernel, rfl, by decide +kernel, by decide +kernel⟩
def sp__law_right (K : PySem.W.Frag) : Sp := Pu (fun (x : Int × Int) vs G => (0 < x.2 ∧ Nat.gcd x.1.natAbs x.2.natAbs = 1 ∧ pwF 9000 x) ∧ AC FR x A0 vs G) (fun x G u => BR G u true)
theorem len__law_right {K : PySem.W.Frag} {vs : List V} {H : Hp} {Q : VK} {E : XK} (h : sp__law_right K vs H Q E) : vs.length = P__law_right.length := by
  obtain ⟨G, x, e, ⟨_, a⟩, _⟩ := h
  obtain ⟨_, rfl, _⟩ := ac1 a; rfl
theorem ok__law_right {P : Program} {w : World} {K : PySem.W.Frag} {mg : Str → Option Value} {base : Heap} {k : Nat} (T : Tx K mg) (G__law_gcd : Ok P w K mg base k "_law_gcd" P__law_gcd (sp__law_gcd K)) (G__law_int : Ok P w K mg base k "_law_int" P__law_int (sp__law_int K)) : Ok P w K mg base (k + 1) "_law_right" P__law_right (sp__law_right K) := by
  obtain ⟨fd__law_gcd, G__law_gcd, B__law_gcd, K__law_gcd⟩ := G__law_gcd
  obtain ⟨fd__law_int, G__law_int, B__law_int, K__law_int⟩ := G__law_int
  refine ok_of T.d__law_right sc__law_right (fun _ _ _ _ _ _ us hl => match us, hl with | [_], _ => rfl) (fun vs H Q E h => ?_) (fun f cdv A outer s H vs Q E hr h => ?_)
  · exact len__law_right h
  · refine ⟨_, (pss_cons (ps_if (PW.pt (pw_or (pt_not (pt_val (pe_callB call_isi (by rfl) T.f_isinstance (by decide +kernel) (pa_cons (pv 0) (pa_cons (pe_bltn (v := .ty "tuple") (by rfl) T.f_tuple (by decide +kernel) rfl) pa_nil))))) (pw_or1 (pt_cmpR op_ne (pe_callB call_len_seq (by rfl) T.f_len PySem.boot_len (pa_cons (pv 0) pa_nil)) pe_int (nomark _))))) (pss_one (ps_ret pe_bl)) pss_nil)
      (pss_cons (ps_if (PW.pt (pw_or (pt_not (pt_val (pe_call G__law_int hr (by rfl) T.g__law_int K__law_int B__law_int .nil pass0 (pa_cons (pe_ix ix_tup (pv 0) pe_int (fun _ _ => rfl)) pa_nil)))) (pw_or (pt_not (pt_val (pe_call G__law_int hr (by rfl) T.g__law_int K__law_int B__law_int .nil pass0 (pa_cons (pe_ix ix_tup (pv 0) pe_int (fun _ _ => rfl)) pa_nil)))) (pw_or1 (pt_cmpR op_lt (pe_ix ix_tup (pv 0) pe_int (fun _ _ => rfl)) pe_int (nomark _)))))) (pss_one (ps_ret pe_bl)) pss_nil)
      (pss_one (ps_ret (pe_cmpR op_eq (pe_call G__law_gcd hr (by rfl) T.g__law_gcd K__law_gcd B__law_gcd .nil pass0 (pa_cons (pe_ix ix_tup (pv 0) pe_int (fun _ _ => rfl)) (pa_cons (pe_ix ix_tup (pv 0) pe_int (fun _ _ => rfl)) pa_nil))) pe_int (nomark _)))))), ?_⟩
    obtain ⟨G, a, e, ⟨⟨a0, ag, pa⟩, hv⟩, q⟩ := h
    obtain ⟨u, rfl, hu⟩ := ac1 hv
    have eu : ∀ {G' H'}, Stp G H G' H' → Ev (tVar 0) (start N__law_right [u]) G' H' FR a := fun s => ev_var rfl (Mono.up s.g hu)
    refine s_chk (et_or (b := false) (c := false) (et_not (et_B (ev_isi (n := "tuple") (b := true) (ev_tysP (eu (Stp.refl e))) (by decide +kernel)))) fun _ => ?_) e fun G1 H1 s1 => ?_
    · have z := et_test (ev_neI (ev_lenP (K := K) (eu (Stp.refl e))) (ev_int (i := 2)))
      exact z
    have iw : ∀ {ta : TE} {σ : L2.St} {G H : Hp} {i : Int}, Ev ta σ G H IR i → Ev (tCall (sp__law_int K) [] E0 (tCons ta tNil)) σ G H BR true := fun ha => ev_call _ (ea_cons ha ea_nil) (fun vs G' _ h => h) (fun _ _ h => h)
    have e1 := eu s1
    refine s_chk (et_or (b := false) (c := false) (et_not (et_B (iw (ev_fst e1)))) fun _ => et_or (b := false) (c := false) (et_not (et_B (iw (ev_snd e1)))) fun _ => ?_) s1.v fun G2 H2 s2 => ?_
    · apply EvT.eq; tm_at "et"; exact decide_eq_false (by omega)
    · have s := s1.trans s2
      have e2 := eu s
      refine s_ret (R := BR) (x := true) ?_ s2.v fun v G3 H3 s3 r3 => q v G3 H3 (s.trans s3) r3
      refine Ev.eq (ev_eqI (i := ((Nat.gcd a.1.natAbs a.2.natAbs : Nat) : Int)) (j := 1) ?_ ev_int) (by rw [ag]; rfl)
      exact ev_call (a.1, a.2) (by tm_at "ea") (fun vs G' _ h => ⟨⟨pa.1, pa.2⟩, by exact h⟩) (fun _ _ h => h)

end Cy
namespace Cy
open PySem PySem.Spec PyProof.Rows L2 He
local macro_rules | `(tactic| tm_at "ex") => `(tactic| first
  | exact Ex.refl _ | assumption | exact Stp.g (by assumption) | exact Stp.v (by assumption)
  | (refine Ex.trans (Stp.g (by assumption)) ?_; tm_at "ex")
  | (refine Ex.trans (by assumption) ?_; tm_at "ex"))
local macro_rules | `(tactic| tm_at "rl") => `(tactic| first
  | exact rfl | assumption | (apply Mono.up; rotate_left; assumption; tm_at "ex"))
local macro_rules | `(tactic| tm_at "sc") => `(tactic| first | assumption | omega)
local macro_rules | `(tactic| tm_at "ev") => `(tactic| first
  | exact ev_int | exact ev_bl | assumption
  | (apply ev_varI; exact rfl)
  | (apply ev_var; exact rfl; tm_at "rl")
  | (apply ev_I0; tm_at "ev"; tm_at "ev")
  | (apply ev_B0; tm_at "ev"; tm_at "ev")
  | (apply ev_I; tm_at "ev"; tm_at "ev"; tm_at "sc")
  | (apply ev_un; tm_at "ev")
  | (apply ev_eqI; tm_at "ev"; tm_at "ev")
  | (apply ev_neI; tm_at "ev"; tm_at "ev")
  | (apply ev_fstI; tm_at "ev")
  | (apply ev_sndI; tm_at "ev")
  | (apply ev_max2; tm_at "ev"; tm_at "ev")
  | (apply ev_min2; tm_at "ev"; tm_at "ev")
  | (apply ev_abs; tm_at "ev")
  | (apply ev_int1; tm_at "ev")
  | (apply ev_bits; tm_at "ev")
  | (apply ev_gcd; tm_at "ev"; tm_at "ev")
  | (apply ev_len; tm_at "ev")
  | (apply ev_tup2; tm_at "ev"; tm_at "ev"))
local macro_rules | `(tactic| tm_at "ea") => `(tactic| first
  | exact ea_nil
  | (apply ea_consI; tm_at "ev"; tm_at "ea")
  | (apply ea_cons; tm_at "ev"; tm_at "ea"))
local macro_rules | `(tactic| tm_at "et") => `(tactic| first
  | (apply et_test; tm_at "ev")
  | (apply et_B; tm_at "ev")
  | (apply et_not; tm_at "et"))

open Cr
abbrev N__law_row_right : List Str := ["_law_row", "_law_many", "_law_value"]
abbrev P__law_row_right : List Str := ["_law_row", "_law_many"]
theorem sc__law_row_right : FnScope N__law_row_right P__law_row_right (defScope s__law_row_right) := ⟨rfl, rfl, rfl, by decide +kernel, rfl, by decide +kernel, by decide +kernel⟩
def sp__law_row_right (K : PySem.W.Frag) : Sp := Pu (fun (x : List (Int × Int)) vs G => (x.length ≤ 100 ∧ ∀ p ∈ x, 0 < p.2 ∧ Nat.gcd p.1.natAbs p.2.natAbs = 1 ∧ pwF 9000 p) ∧ AC (Tp FR) x (AC IR (x.length : Int) A0) vs G) (fun x G u => BR G u true)
theorem len__law_row_right {K : PySem.W.Frag} {vs : List V} {H : Hp} {Q : VK} {E : XK} (h : sp__law_row_right K vs H Q E) : vs.length = P__law_row_right.length := by
  obtain ⟨G, x, e, ⟨_, a⟩, _⟩ := h
  obtain ⟨_, _, rfl, _⟩ := ac2 a; rfl
theorem ok__law_row_right {P : Program} {w : World} {K : PySem.W.Frag} {mg : Str → Option Value} {base : Heap} {k : Nat} (T : Tx K mg) (G__law_right : Ok P w K mg base k "_law_right" P__law_right (sp__law_right K)) : Ok P w K mg base (k + 1) "_law_row_right" P__law_row_right (sp__law_row_right K) := by
  obtain ⟨fd__law_right, G__law_right, B__law_right, K__law_right⟩ := G__law_right
  refine ok_of T.d__law_row_right sc__law_row_right (fun _ _ _ _ _ _ us hl => match us, hl with | [_, _], _ => rfl) (fun vs H Q E h => ?_) (fun f cdv A outer s H vs Q E hr h => ?_)
  · exact len__law_row_right h
  · refine ⟨_, (pss_cons (ps_if (PW.pt (pw_or (pt_not (pt_val (pe_callB call_isi (by rfl) T.f_isinstance (by decide +kernel) (pa_cons (pv 0) (pa_cons (pe_bltn (v := .ty "tuple") (by rfl) T.f_tuple (by decide +kernel) rfl) pa_nil))))) (pw_or1 (pt_cmpR op_ne (pe_callB call_len_seq (by rfl) T.f_len PySem.boot_len (pa_cons (pv 0) pa_nil)) (pv 1) (nomark _))))) (pss_one (ps_ret pe_bl)) pss_nil)
      (pss_cons (ps_for PassesOwn.never rfl (pi_tup (pv 0)) (pg_name (i := 2) sc__law_row_right.nd rfl (by first | exact Or.inl rfl | exact Or.inr rfl)) (pss_one (ps_if (pt_not (pt_val (pe_call G__law_right hr (by rfl) T.g__law_right K__law_right B__law_right .nil pass0 (pa_cons (pv 2) pa_nil)))) (pss_one (ps_ret pe_bl)) pss_nil)))
      (pss_one (ps_ret (pe_bl))))), ?_⟩
    obtain ⟨G, xs, e, ⟨⟨hl, hx⟩, hv⟩, q⟩ := h
    obtain ⟨u, v, rfl, hu, rfl⟩ := ac2 hv
    refine s_chk (et_or (b := false) (c := false) (et_not (et_B (ev_isi (n := "tuple") (b := true) (ev_tysT (R := FR) (xs := xs) (ev_var rfl hu)) (by decide +kernel)))) fun _ => ?_) e fun G1 H1 s1 => ?_
    · exact et_test ((ev_neI (ev_lenT (R := FR) (xs := xs) (ev_var rfl hu)) (ev_varI rfl)).eq (by rw [decide_eq_true rfl]; rfl))
    · refine s_for (I := fun i σ G' H' => Stp G H G' H' ∧ ∃ c, σ = [some u, some (.int (xs.length : Int)), c]) (ei_tup (R := FR) (xs := xs) (ev_var rfl (Mono.up s1.g hu))) s1.v ?_ ?_ ?_
      · exact fun G2 H2 s2 => ⟨s1.trans s2, none, rfl⟩
      · rintro i v σ Gp Hq G' H' G1 hi e1 e2 ⟨S2, c, rfl⟩ s3 ⟨p, hp, rp⟩
        obtain ⟨p1, p2, p3⟩ := hx p (List.mem_of_getElem? hp)
        refine s_if (b := false) ?_ s3.v (fun G4 H4 s4 hb => by cases hb) (fun G4 H4 s4 hb => ?_)
        · refine et_not (b := true) (et_B ?_)
          exact ev_call p (ea_cons (R := FR) (x := p) (ev_var rfl rp) ea_nil) (fun vs G' _ h => ⟨⟨p1, p2, p3⟩, h⟩) (fun _ _ h => h)
        · exact ⟨G4, e2.trans (s3.g.trans s4.g), s4.v, S2.trans (s3.trans s4), some v, rfl⟩
      · rintro σ G' H' e1 e2 ⟨S2, c, rfl⟩
        refine s_ret (R := BR) (x := true) ev_bl S2.v fun v G3 H3 s3 r3 => q v G3 H3 (S2.trans s3) r3
abbrev N_need_small : List Str := ["world", "most"]
abbrev P_need_small : List Str := ["world", "most"]
theorem sc_need_small : FnScope N_need_small P_need_small (defScope s_need_small) := ⟨rfl, rfl, rfl, by decide +kernel, rfl, by decide +kernel, by decide +kernel⟩
def sp_need_small (K : PySem.W.Frag) : Sp := Pu (fun (x : Wd × Int) vs G => ((x.1.n : Int) ≤ x.2) ∧ AC (WR K) x.1 (AC IR x.2 A0) vs G) (fun x G u => u = .non)
theorem len_need_small {K : PySem.W.Frag} {vs : List V} {H : Hp} {Q : VK} {E : XK} (h : sp_need_small K vs H Q E) : vs.length = P_need_small.length := by
  obtain ⟨G, x, e, ⟨_, a⟩, _⟩ := h
  obtain ⟨_, _, rfl, _⟩ := ac2 a; rfl
theorem ok_need_small {P : Program} {w : World} {K : PySem.W.Frag} {mg : Str → Option Value} {base : Heap} {k : Nat} (T : Tx K mg)  : Ok P w K mg base (k + 1) "need_small" P_need_small (sp_need_small K) := by
  refine ok_of T.d_need_small sc_need_small (fun _ _ _ _ _ _ us hl => match us, hl with | [_, _], _ => rfl) (fun vs H Q E h => ?_) (fun f cdv A outer s H vs Q E hr h => ?_)
  · exact len_need_small h
  · refine ⟨_, (pss_one (ps_if (pt_cmpR op_gt (pe_slotX (sclsX T.scls) (slotX T.sl_size) (pv 0)) (pv 1) (nomark _)) (pss_one ps_never) pss_nil)), ?_⟩
    obtain ⟨G, ⟨wd, m⟩, e, ⟨hl, hv⟩, q⟩ := h
    dsimp only at hl hv q
    obtain ⟨u, v, rfl, hu, rfl⟩ := ac2 hv
    refine s_if (b := false) (et_test ((ev_B0 (f := fun i j => decide (j < i)) (ev_size (K := K) (w := wd) (ev_var rfl hu)) (ev_varI (n := m) rfl)).eq (decide_eq_false (by omega)))) e (fun _ _ _ z => by cases z) fun G1 H1 s1 _ => q _ G1 H1 s1 rfl
abbrev N_bits_of : List Str := ["lot", "number", "place"]
abbrev P_bits_of : List Str := ["lot"]
theorem sc_bits_of : FnScope N_bits_of P_bits_of (defScope s_bits_of) := ⟨rfl, rfl, rfl, by decide +kernel, rfl, by decide +kernel, by decide +kernel⟩
def sp_bits_of (K : PySem.W.Frag) : Sp := Pu (fun (x : List Nat) vs G => (x.length ≤ 100 ∧ ∀ p ∈ x, p ≤ 100) ∧ AC (Sq NR) x A0 vs G) (fun x G u => IR G u (msk x : Nat))
theorem len_bits_of {K : PySem.W.Frag} {vs : List V} {H : Hp} {Q : VK} {E : XK} (h : sp_bits_of K vs H Q E) : vs.length = P_bits_of.length := by
  obtain ⟨G, x, e, ⟨_, a⟩, _⟩ := h
  obtain ⟨_, rfl, _⟩ := ac1 a; rfl
theorem ok_bits_of {P : Program} {w : World} {K : PySem.W.Frag} {mg : Str → Option Value} {base : Heap} {k : Nat} (T : Tx K mg)  : Ok P w K mg base (k + 1) "bits_of" P_bits_of (sp_bits_of K) := by
  refine ok_of T.d_bits_of sc_bits_of (fun _ _ _ _ _ _ us hl => match us, hl with | [_], _ => rfl) (fun vs H Q E h => ?_) (fun f cdv A outer s H vs Q E hr h => ?_)
  · exact len_bits_of h
  · refine ⟨_, (pss_cons (ps_set (i := 1) sc_bits_of.nd rfl (by first | exact Or.inl rfl | exact Or.inr rfl) pe_int)
      (pss_cons (ps_for PassesOwn.never rfl (pi_any (pv 0)) (pg_name (i := 2) sc_bits_of.nd rfl (by first | exact Or.inl rfl | exact Or.inr rfl)) (pss_one (ps_set (i := 1) sc_bits_of.nd rfl (by first | exact Or.inl rfl | exact Or.inr rfl) (pe_op op_or (pv 1) (pe_op op_oneShl pe_int (pv 2))))))
      (pss_one (ps_ret (pv 1))))), ?_⟩
    obtain ⟨G, xs, e, ⟨⟨hl, hx⟩, hv⟩, q⟩ := h
    obtain ⟨u, rfl, hu⟩ := ac1 hv
    refine s_set (by tm_at "ev") e fun v G1 H1 s1 r1 => ?_
    obtain rfl := r1
    refine s_for (I := fun i σ G' H' => Stp G H G' H' ∧ ∃ c, σ = [some u, some (.int (msk (xs.take i) : Nat)), c]) (ei_any (R := NR) (xs := xs) rfl (Mono.up s1.g hu)) s1.v ?_ ?_ ?_
    · exact fun G2 H2 s2 => ⟨s1.trans s2, none, rfl⟩
    · rintro i v σ Gp Hq G' H' G1 hi e1 e2 ⟨S2, c, rfl⟩ s3 ⟨p, hp, rfl⟩
      have hp2 := hx p (List.mem_of_getElem? hp)
      refine s_set1 (R := IR) (x := ((msk (xs.take i) ||| 2 ^ p : Nat) : Int)) (ev_orN (ev_varI rfl) (ev_shl (ev_varI rfl) (by omega))) s3.v fun v G4 H4 s4 r4 => ?_
      obtain rfl := r4
      refine ⟨G4, e2.trans (s3.g.trans s4.g), s4.v, S2.trans (s3.trans s4), ?_⟩
      rw [take_more hp, msk_app]
      exact ⟨_, rfl⟩
    · rintro σ G' H' e1 e2 ⟨S2, c, rfl⟩
      rw [List.take_length]
      exact s_ret (R := IR) (ev_varI rfl) S2.v fun v G3 H3 s3 r3 => q v G3 H3 (S2.trans s3) r3
abbrev N_lot_from : List Str := ["number", "place"]
abbrev P_lot_from : List Str := ["number"]
theorem sc_lot_from : FnScope N_lot_from P_lot_from (defScope s_lot_from) := ⟨rfl, rfl, rfl, by decide +kernel, rfl, by decide +kernel, by decide +kernel⟩
def sp_lot_from (K : PySem.W.Frag) : Sp := Pu (fun (x : Nat) vs G => x < 2 ^ 100 ∧ AC NR x A0 vs G) (fun x G u => Tp NR G u (plc x))
theorem len_lot_from {K : PySem.W.Frag} {vs : List V} {H : Hp} {Q : VK} {E : XK} (h : sp_lot_from K vs H Q E) : vs.length = P_lot_from.length := by
  obtain ⟨G, x, e, ⟨_, a⟩, _⟩ := h
  obtain ⟨_, rfl, _⟩ := ac1 a; rfl
theorem filt_fm {α : Type} (p : α → Bool) (l : List α) : l.filterMap (fun x => if p x then some x else none) = l.filter p := by
  induction l with
  | nil => rfl
  | cons a r ih => by_cases h : p a = true <;> simp [h, ih]
theorem ok_lot_from {P : Program} {w : World} {K : PySem.W.Frag} {mg : Str → Option Value} {base : Heap} {k : Nat} (T : Tx K mg)  : Ok P w K mg base (k + 1) "lot_from" P_lot_from (sp_lot_from K) := by
  refine ok_of T.d_lot_from sc_lot_from (fun _ _ _ _ _ _ us hl => match us, hl with | [_], _ => rfl) (fun vs H Q E h => ?_) (fun f cdv A outer s H vs Q E hr h => ?_)
  · exact len_lot_from h
  · refine ⟨_, (pss_one (ps_ret (pe_callTy call_tuple_of (by rfl) T.f_tuple (by decide +kernel) (pa_cons (pe_lc (own := [("place", 1)]) (g := (gName 1)) (tt := (tTru K (tOp qAnd (tOp qShr (tVar 0) (tVar 1)) (tC (.int 1))))) (te := (tVar 1)) (by rfl) sc_lot_from.nd (pi_range1 (by rfl) T.f_range (pa_cons (pe_bits (pv 0)) pa_nil)) (blkOk_by (by kernel_rfl)) (fun _ _ _ _ _ => (pg_name (i := 1) sc_lot_from.nd rfl (by first | exact Or.inl rfl | exact Or.inr rfl))) (fun _ _ _ _ _ => (pts_one (pt_truth (pe_op op_and (pe_op op_shr (pv 0) (pv 1)) pe_int) (by intro _; rfl)))) (fun _ _ _ _ _ => (pv 1))) pa_nil)))), ?_⟩
    obtain ⟨G, n, e, ⟨hl, hv⟩, q⟩ := h
    obtain ⟨u, rfl, rfl⟩ := ac1 hv
    have hb : Builtin.Int.intBits (n : Int) ≤ 100 := pw_bits (b := 100) (by unfold pw; rw [Int.natAbs_natCast]; exact hl)
    refine s_ret (R := Tp NR) (x := plc n) (ev_tupleOf ?_) e fun v G3 H3 s3 r3 => q v G3 H3 s3 r3
    unfold plc
    rw [← filt_fm]
    refine ev_lc1 (W := fun i _ v => v = .int (i : Int)) (f := fun i => if n.testBit i = true then some i else none) (ei_range1 (m := (Builtin.Int.intBits (n : Int) : Nat)) (by tm_at "ea") (by omega) (by omega)) (by omega) (fun i v G' H' hi s w => ?_) (fun i v y G' H' hi s w hy => ?_)
    · obtain rfl := w
      refine (et_bit (n := n) (p := i) (ev_varI rfl) (ev_varI rfl)).eq ?_
      by_cases h : n.testBit i = true
      · rw [if_pos h, h]; rfl
      · rw [if_neg h, Bool.eq_false_iff.mpr h]; rfl
    · obtain rfl := w
      by_cases h : n.testBit i = true
      · rw [if_pos h] at hy; cases hy; exact ev_var rfl rfl
      · rw [if_neg h] at hy; cases hy
abbrev N__lots_size : List Str := ["size"]
abbrev P__lots_size : List Str := ["size"]
theorem sc__lots_size : FnScope N__lots_size P__lots_size (defScope s__lots_size) := ⟨rfl, rfl, rfl, by decide +kernel, rfl, by decide +kernel, by decide +kernel⟩
def sp__lots_size (K : PySem.W.Frag) : Sp := Pu (fun (x : Int) vs G => (1 ≤ x ∧ x ≤ 12) ∧ AC IR x A0 vs G) (fun x G u => u = .non)
theorem len__lots_size {K : PySem.W.Frag} {vs : List V} {H : Hp} {Q : VK} {E : XK} (h : sp__lots_size K vs H Q E) : vs.length = P__lots_size.length := by
  obtain ⟨G, x, e, ⟨_, a⟩, _⟩ := h
  obtain ⟨_, rfl, _⟩ := ac1 a; rfl
theorem et_whole {K : PySem.W.Frag} {ta : TE} {σ : L2.St} {G H : Hp} {i : Int} (ha : Ev ta σ G H IR i) : EvT (tB (tCall (sp_is_whole K) [] E0 (tCons ta tNil))) σ G H true :=
  et_B (ev_call "int" (ea_cons (ev_intIR ha) ea_nil) (fun vs G' _ h => ⟨.inl rfl, h⟩) (fun _ _ h => h))
theorem et_chain {r r' : R2} {ta tb tc : TE} {σ : L2.St} {G H : Hp} {i j k : Int} (ha : Ev ta σ G H IR i) (hb : Ev tb σ G H IR j) (hc : Ev tc σ G H IR k) (a : Bool) (b : Bool) (h1 : ∀ H' Q, Q (V.bl a) H' → r (.int i) (.int j) H' Q) (h2 : ∀ H' Q, Q (V.bl b) H' → r' (.int j) (.int k) H' Q) (hab : a = true) : EvT (tTest (tChain r r' ta tb tc)) σ G H b :=
  fun G1 H1 s Q q => ha G1 H1 s _ fun v G2 H2 s2 e1 => hb G2 H2 (s.trans s2) _ fun w G3 H3 s3 e2 => by
    obtain rfl : v = .int i := e1
    obtain rfl : w = .int j := e2
    refine h1 _ _ ⟨a, rfl, ?_⟩
    rw [hab]
    refine iteT (hc G3 H3 (s.trans (s2.trans s3)) _ fun x G4 H4 s4 e3 => ?_)
    obtain rfl : x = .int k := e3
    exact h2 _ _ ⟨b, rfl, q G4 H4 (s2.trans (s3.trans s4))⟩
theorem ok__lots_size {P : Program} {w : World} {K : PySem.W.Frag} {mg : Str → Option Value} {base : Heap} {k : Nat} (T : Tx K mg) (G_is_whole : Ok P w K mg base k "is_whole" P_is_whole (sp_is_whole K)) : Ok P w K mg base (k + 1) "_lots_size" P__lots_size (sp__lots_size K) := by
  obtain ⟨fd_is_whole, G_is_whole, B_is_whole, K_is_whole⟩ := G_is_whole
  refine ok_of T.d__lots_size sc__lots_size (fun _ _ _ _ _ _ us hl => match us, hl with | [_], _ => rfl) (fun vs H Q E h => ?_) (fun f cdv A outer s H vs Q E hr h => ?_)
  · exact len__lots_size h
  · refine ⟨_, (pss_one (ps_if (PW.pt (pw_or (pt_not (pt_val (pe_call G_is_whole hr (by rfl) T.g_is_whole K_is_whole B_is_whole .nil pass0 (pa_cons (pv 0) pa_nil)))) (pw_or1 (pt_not (pt_chain op_le op_le pe_int (pv 0) pe_int))))) (pss_one ps_never) pss_nil)), ?_⟩
    obtain ⟨G, x, e, ⟨hl, hv⟩, q⟩ := h
    obtain ⟨u, rfl, rfl⟩ := ac1 hv
    refine s_if (b := false) (et_or (b := false) (c := false) (et_not (et_whole (ev_varI rfl))) fun _ => ?_) e (fun _ _ _ z => by cases z) fun G1 H1 s1 _ => q _ G1 H1 s1 rfl
    refine et_not (b := true) (et_chain ev_int (ev_varI rfl) ev_int true true (fun H' Q q => ⟨1, x, rfl, rfl, ?_⟩) (fun H' Q q => ⟨x, 12, rfl, rfl, ?_⟩) rfl)
    · dsimp only; rw [decide_eq_true hl.1]; exact q
    · dsimp only; rw [decide_eq_true hl.2]; exact q
abbrev N_lot_of : List Str := ["value", "size", "number", "entry"]
abbrev P_lot_of : List Str := ["value", "size"]
theorem sc_lot_of : FnScope N_lot_of P_lot_of (defScope s_lot_of) := ⟨rfl, rfl, rfl, by decide +kernel, rfl, by decide +kernel, by decide +kernel⟩
def sp_lot_of (K : PySem.W.Frag) : Sp := Pu (fun (x : List Nat × Nat) vs G => (x.1.Nodup ∧ 1 ≤ x.2 ∧ x.2 ≤ 12 ∧ (∀ p ∈ x.1, p < x.2)) ∧ AC (Sq NR) x.1 (AC NR x.2 A0) vs G) (fun x G u => Tp NR G u (plc (msk x.1)))
theorem len_lot_of {K : PySem.W.Frag} {vs : List V} {H : Hp} {Q : VK} {E : XK} (h : sp_lot_of K vs H Q E) : vs.length = P_lot_of.length := by
  obtain ⟨G, x, e, ⟨_, a⟩, _⟩ := h
  obtain ⟨_, _, rfl, _⟩ := ac2 a; rfl
theorem ok_lot_of {P : Program} {w : World} {K : PySem.W.Frag} {mg : Str → Option Value} {base : Heap} {k : Nat} (T : Tx K mg) (G__lots_size : Ok P w K mg base k "_lots_size" P__lots_size (sp__lots_size K)) (G_lot_from : Ok P w K mg base k "lot_from" P_lot_from (sp_lot_from K)) (G_is_whole : Ok P w K mg base k "is_whole" P_is_whole (sp_is_whole K)) : Ok P w K mg base (k + 1) "lot_of" P_lot_of (sp_lot_of K) := by
  obtain ⟨fd__lots_size, G__lots_size, B__lots_size, K__lots_size⟩ := G__lots_size
  obtain ⟨fd_lot_from, G_lot_from, B_lot_from, K_lot_from⟩ := G_lot_from
  obtain ⟨fd_is_whole, G_is_whole, B_is_whole, K_is_whole⟩ := G_is_whole
  refine ok_of T.d_lot_of sc_lot_of (fun _ _ _ _ _ _ us hl => match us, hl with | [_, _], _ => rfl) (fun vs H Q E h => ?_) (fun f cdv A outer s H vs Q E hr h => ?_)
  · exact len_lot_of h
  · refine ⟨_, (pss_cons (ps_expr (pe_call G__lots_size hr (by rfl) T.g__lots_size K__lots_size B__lots_size .nil pass0 (pa_cons (pv 1) pa_nil)))
      (pss_cons (ps_if (pt_not (pt_val (pe_callB call_isiT (by rfl) T.f_isinstance (by decide +kernel) (pa_cons (pv 0) (pa_cons (pe_tup (pa_cons (pe_bltn (v := .ty "tuple") (by rfl) T.f_tuple (by decide +kernel) rfl) (pa_cons (pe_bltn (v := .ty "list") (by rfl) T.f_list (by decide +kernel) rfl) pa_nil))) pa_nil))))) (pss_one ps_never) pss_nil)
      (pss_cons (ps_set (i := 2) sc_lot_of.nd rfl (by first | exact Or.inl rfl | exact Or.inr rfl) pe_int)
      (pss_cons (ps_for PassesOwn.never rfl (pi_any (pv 0)) (pg_name (i := 3) sc_lot_of.nd rfl (by first | exact Or.inl rfl | exact Or.inr rfl)) (pss_cons (ps_if (PW.pt (pw_or (pt_not (pt_val (pe_call G_is_whole hr (by rfl) T.g_is_whole K_is_whole B_is_whole .nil pass0 (pa_cons (pv 3) pa_nil)))) (pw_or (pt_not (pt_chain op_le op_lt pe_int (pv 3) (pv 1))) (pw_or1 (pt_truth (pe_op op_and (pe_op op_shr (pv 2) (pv 3)) pe_int) (by intro _; rfl)))))) (pss_one ps_never) pss_nil)
      (pss_one (ps_set (i := 2) sc_lot_of.nd rfl (by first | exact Or.inl rfl | exact Or.inr rfl) (pe_op op_or (pv 2) (pe_op op_oneShl pe_int (pv 3)))))))
      (pss_one (ps_ret (pe_call G_lot_from hr (by rfl) T.g_lot_from K_lot_from B_lot_from .nil pass0 (pa_cons (pv 2) pa_nil)))))))), ?_⟩
    obtain ⟨G, ⟨xs, n⟩, e, ⟨⟨hd, hn1, hn2, hx⟩, hv⟩, q⟩ := h
    dsimp only at hd hn1 hn2 hx hv q
    obtain ⟨u, v, rfl, hu, rfl⟩ := ac2 hv
    refine Ev.run (te := tCall (sp__lots_size K) [] E0 (tCons (tVar 1) tNil)) (R := VR) (x := .non) (ev_call (n : Int) (by tm_at "ea") (fun vs G' _ h => ⟨⟨by omega, by omega⟩, by exact h⟩) (fun _ _ h => h)) e fun _ G1 H1 s1 _ => ?_
    obtain ⟨T0, hT0, hty⟩ : ∃ T0, (T0 = "list" ∨ T0 = "tuple") ∧ Ev (tVar 0) (start N_lot_of [u, .int (n : Int)]) G H TR T0 := by
      rcases hu with h | h
      · exact ⟨_, .inl rfl, ev_var rfl (tys_ls h)⟩
      · exact ⟨_, .inr rfl, ev_var rfl (tys_tp h)⟩
    refine s_chk (et_not (b := true) (et_B (ev_isiTL (hty.mono s1) hT0))) s1.v fun G2 H2 s2 => ?_
    refine s_set (by tm_at "ev") s2.v fun v G3 H3 s3 r3 => ?_
    obtain rfl := r3
    have S := s1.trans (s2.trans s3)
    refine s_for (I := fun i σ G' H' => Stp G H G' H' ∧ ∃ c, σ = [some u, some (.int (n : Int)), some (.int (msk (xs.take i) : Nat)), c]) (ei_any (R := NR) (xs := xs) rfl (Mono.up S.g hu)) S.v ?_ ?_ ?_
    · exact fun G2 H2 s2 => ⟨S.trans s2, none, rfl⟩
    · rintro i v σ Gp Hq G' H' G1 hi e1 e2 ⟨S2, c, rfl⟩ s3 ⟨p, hp, rfl⟩
      have hp2 := hx p (List.mem_of_getElem? hp)
      refine s_chk (et_or (b := false) (c := false) (et_not (b := true) (et_whole (ev_varI rfl))) fun _ => et_or (b := false) (c := false) (et_not (b := true) (et_chain ev_int (ev_varI (n := (p : Int)) rfl) (ev_varI (n := (n : Int)) rfl) true true (fun H' Q q => ⟨0, p, rfl, rfl, ?_⟩) (fun H' Q q => ⟨p, n, rfl, rfl, ?_⟩) rfl)) fun _ => ?_) s3.v fun G4 H4 s4 => ?_
      · dsimp only; rw [decide_eq_true (by omega)]; exact q
      · dsimp only; rw [decide_eq_true (by omega)]; exact q
      · refine (et_bit (n := msk (xs.take i)) (p := p) (ev_varI rfl) (ev_varI rfl)).eq ?_
        rw [msk_test]
        refine decide_eq_false fun z => ?_
        obtain ⟨j, ej⟩ := List.mem_iff_getElem?.mp z
        have hj : j < i := by
          obtain ⟨h1, _⟩ := List.getElem?_eq_some_iff.mp ej
          have := List.length_take_le i xs
          omega
        rw [List.getElem?_take, if_pos hj] at ej
        have := nd_ix hd ej hp
        omega
      · refine s_set1 (R := IR) (x := ((msk (xs.take i) ||| 2 ^ p : Nat) : Int)) (ev_orN (ev_varI rfl) (ev_shl (ev_varI rfl) (by omega))) s4.v fun v G5 H5 s5 r5 => ?_
        obtain rfl := r5
        have s := s3.trans (s4.trans s5)
        refine ⟨G5, e2.trans s.g, s5.v, S2.trans s, ?_⟩
        rw [take_more hp, msk_app]
        exact ⟨_, rfl⟩
    · rintro σ G' H' e1 e2 ⟨S2, c, rfl⟩
      rw [List.take_length]
      refine s_ret (R := Tp NR) (x := plc (msk xs)) ?_ S2.v fun v G3 H3 s3 r3 => q v G3 H3 (S2.trans s3) r3
      refine ev_call (msk xs) (ea_cons (R := NR) (x := msk xs) (ev_var rfl rfl) ea_nil) (fun vs G' _ h => ⟨?_, h⟩) (fun _ _ h => h)
      refine Nat.lt_of_lt_of_le (Nat.lt_pow_two_of_testBit _ fun i hi => ?_) (Nat.pow_le_pow_right (by decide) (show 12 ≤ 100 by decide))
      rw [msk_test]
      exact decide_eq_false fun z => by have := hx i z; omega
abbrev N_number_of : List Str := ["lot", "size"]
abbrev P_number_of : List Str := ["lot", "size"]
theorem sc_number_of : FnScope N_number_of P_number_of (defScope s_number_of) := ⟨rfl, rfl, rfl, by decide +kernel, rfl, by decide +kernel, by decide +kernel⟩
def sp_number_of (K : PySem.W.Frag) : Sp := Pu (fun (x : List Nat × Nat) vs G => (x.1.Nodup ∧ 1 ≤ x.2 ∧ x.2 ≤ 12 ∧ (∀ p ∈ x.1, p < x.2)) ∧ AC (Sq NR) x.1 (AC NR x.2 A0) vs G) (fun x G u => IR G u (msk x.1 : Nat))
theorem len_number_of {K : PySem.W.Frag} {vs : List V} {H : Hp} {Q : VK} {E : XK} (h : sp_number_of K vs H Q E) : vs.length = P_number_of.length := by
  obtain ⟨G, x, e, ⟨_, a⟩, _⟩ := h
  obtain ⟨_, _, rfl, _⟩ := ac2 a; rfl
theorem msk_lt {xs : List Nat} {n : Nat} (h : ∀ p ∈ xs, p < n) : msk xs < 2 ^ n := Nat.lt_pow_two_of_testBit _ fun i hi => by
  rw [msk_test]
  exact decide_eq_false fun z => by have := h i z; omega
theorem nodup_le {n : Nat} {xs : List Nat} (hd : xs.Nodup) (h : ∀ p ∈ xs, p < n) : xs.length ≤ n := by
  have := List.Nodup.length_le_of_subset (l₁ := xs) (l₂ := List.range n) hd (fun p hp => List.mem_range.mpr (h p hp))
  rw [List.length_range] at this
  exact this
theorem ok_number_of {P : Program} {w : World} {K : PySem.W.Frag} {mg : Str → Option Value} {base : Heap} {k : Nat} (T : Tx K mg) (G_bits_of : Ok P w K mg base k "bits_of" P_bits_of (sp_bits_of K)) (G_lot_of : Ok P w K mg base k "lot_of" P_lot_of (sp_lot_of K)) : Ok P w K mg base (k + 1) "number_of" P_number_of (sp_number_of K) := by
  obtain ⟨fd_bits_of, G_bits_of, B_bits_of, K_bits_of⟩ := G_bits_of
  obtain ⟨fd_lot_of, G_lot_of, B_lot_of, K_lot_of⟩ := G_lot_of
  refine ok_of T.d_number_of sc_number_of (fun _ _ _ _ _ _ us hl => match us, hl with | [_, _], _ => rfl) (fun vs H Q E h => ?_) (fun f cdv A outer s H vs Q E hr h => ?_)
  · exact len_number_of h
  · refine ⟨_, (pss_one (ps_ret (pe_call G_bits_of hr (by rfl) T.g_bits_of K_bits_of B_bits_of .nil pass0 (pa_cons (pe_call G_lot_of hr (by rfl) T.g_lot_of K_lot_of B_lot_of .nil pass0 (pa_cons (pv 0) (pa_cons (pv 1) pa_nil))) pa_nil)))), ?_⟩
    obtain ⟨G, ⟨xs, n⟩, e, ⟨⟨hd, hn1, hn2, hx⟩, hv⟩, q⟩ := h
    dsimp only at hd hn1 hn2 hx hv q
    obtain ⟨u, v, rfl, hu, rfl⟩ := ac2 hv
    have lt := msk_lt hx
    have pl : ∀ p ∈ plc (msk xs), p < n := fun p hp => by
      have := (plc_mem _ _).mp hp
      rw [msk_test] at this
      exact hx p (of_decide_eq_true this)
    have z1 : Ev (tCall (sp_lot_of K) [] E0 (tCons (tVar 0) (tCons (tVar 1) tNil))) (start N_number_of [u, .int (n : Int)]) G H (Tp NR) (plc (msk xs)) :=
      ev_call (xs, n) (ea_cons (R := Sq NR) (x := xs) (ev_var rfl hu) (ea_cons (R := NR) (x := n) (ev_var rfl rfl) ea_nil)) (fun vs G' _ h => ⟨⟨hd, hn1, hn2, hx⟩, h⟩) (fun _ _ h => h)
    refine s_ret (R := IR) (x := ((msk xs : Nat) : Int)) ?_ e fun v G3 H3 s3 r3 => q v G3 H3 s3 r3
    refine ev_call (plc (msk xs)) (ea_cons (z1.imp fun _ _ h => h.sq) ea_nil) (fun vs G' _ h => ⟨⟨?_, fun p hp => by have := pl p hp; omega⟩, h⟩) (fun G' u h => by rw [msk_plc] at h; exact h)
    have := nodup_le (plc_nodup _) pl
    omega

end Cy
namespace Cy
open PySem PySem.Spec PyProof.Rows L2 He
local macro_rules | `(tactic| tm_at "ex") => `(tactic| first
  | exact Ex.refl _ | assumption | exact Stp.g (by assumption) | exact Stp.v (by assumption)
  | (refine Ex.trans (Stp.g (by assumption)) ?_; tm_at "ex")
  | (refine Ex.trans (by assumption) ?_; tm_at "ex"))
local macro_rules | `(tactic| tm_at "rl") => `(tactic| first
  | exact rfl | assumption | (apply Mono.up; rotate_left; assumption; tm_at "ex"))
local macro_rules | `(tactic| tm_at "sc") => `(tactic| first | assumption | omega)
local macro_rules | `(tactic| tm_at "ev") => `(tactic| first
  | exact ev_int | exact ev_bl | assumption
  | (apply ev_varI; exact rfl)
  | (apply ev_var; exact rfl; tm_at "rl")
  | (apply ev_I0; tm_at "ev"; tm_at "ev")
  | (apply ev_B0; tm_at "ev"; tm_at "ev")
  | (apply ev_I; tm_at "ev"; tm_at "ev"; tm_at "sc")
  | (apply ev_un; tm_at "ev")
  | (apply ev_eqI; tm_at "ev"; tm_at "ev")
  | (apply ev_neI; tm_at "ev"; tm_at "ev")
  | (apply ev_fstI; tm_at "ev")
  | (apply ev_sndI; tm_at "ev")
  | (apply ev_max2; tm_at "ev"; tm_at "ev")
  | (apply ev_min2; tm_at "ev"; tm_at "ev")
  | (apply ev_abs; tm_at "ev")
  | (apply ev_int1; tm_at "ev")
  | (apply ev_bits; tm_at "ev")
  | (apply ev_gcd; tm_at "ev"; tm_at "ev")
  | (apply ev_len; tm_at "ev")
  | (apply ev_tup2; tm_at "ev"; tm_at "ev"))
local macro_rules | `(tactic| tm_at "ea") => `(tactic| first
  | exact ea_nil
  | (apply ea_consI; tm_at "ev"; tm_at "ea")
  | (apply ea_cons; tm_at "ev"; tm_at "ea"))
local macro_rules | `(tactic| tm_at "et") => `(tactic| first
  | (apply et_test; tm_at "ev")
  | (apply et_B; tm_at "ev")
  | (apply et_not; tm_at "et"))

open Cr
/-! ### linked worlds -/
structure WOk (w : Wd) : Prop where
  n2 : 2 ≤ w.n
  n4 : w.n ≤ 4
  st : Sqm w.n w.t
  sc : Sqm w.n w.c
  t0 : ∀ i j, i < w.n → j < w.n → 0 ≤ at2 w.t i j ∧ at2 w.t i j < 2 ^ 16
  c0 : ∀ i j, i < w.n → j < w.n → 0 ≤ at2 w.c i j ∧ at2 w.c i j < 2 ^ 16
  td : ∀ i, i < w.n → at2 w.t i i = 0
  tc : ∀ i j, i < w.n → j < w.n → 0 < at2 w.c i j → 0 < at2 w.t i j
  lk : Lkd w.n (at2 w.t)
/-- the lot of the entries above 0 of a row -/
def lkm (n : Nat) (r : List Int) : Nat := msk ((List.range n).filter fun j => decide (0 < r.getD j 0))
theorem lkm_test {n : Nat} {r : List Int} {j : Nat} : (lkm n r).testBit j = true ↔ j < n ∧ 0 < r.getD j 0 := by
  unfold lkm
  rw [msk_test]
  simp [List.mem_filter]
theorem lkm_lt (n : Nat) (r : List Int) : lkm n r < 2 ^ n := msk_lt fun p hp => by
  have := List.mem_filter.mp hp
  exact List.mem_range.mp this.1
abbrev N__linking_looks : List Str := ["world", "size", "row", "j"]
abbrev P__linking_looks : List Str := ["world"]
theorem sc__linking_looks : FnScope N__linking_looks P__linking_looks (defScope s__linking_looks) := ⟨rfl, rfl, rfl, by decide +kernel, rfl, by decide +kernel, by decide +kernel⟩
def sp__linking_looks (K : PySem.W.Frag) : Sp := Pu (fun (x : Wd) vs G => (x.n ≤ 12 ∧ Sqm x.n x.t) ∧ AC (WR K) x A0 vs G) (fun x G u => Ls NR G u (x.t.map (lkm x.n)))
theorem len__linking_looks {K : PySem.W.Frag} {vs : List V} {H : Hp} {Q : VK} {E : XK} (h : sp__linking_looks K vs H Q E) : vs.length = P__linking_looks.length := by
  obtain ⟨G, x, e, ⟨_, a⟩, _⟩ := h
  obtain ⟨_, rfl, _⟩ := ac1 a; rfl
theorem ok__linking_looks {P : Program} {w : World} {K : PySem.W.Frag} {mg : Str → Option Value} {base : Heap} {k : Nat} (T : Tx K mg) (G_bits_of : Ok P w K mg base k "bits_of" P_bits_of (sp_bits_of K)) : Ok P w K mg base (k + 1) "_linking_looks" P__linking_looks (sp__linking_looks K) := by
  obtain ⟨fd_bits_of, G_bits_of, B_bits_of, K_bits_of⟩ := G_bits_of
  refine ok_of T.d__linking_looks sc__linking_looks (fun _ _ _ _ _ _ us hl => match us, hl with | [_], _ => rfl) (fun vs H Q E h => ?_) (fun f cdv A outer s H vs Q E hr h => ?_)
  · exact len__linking_looks h
  · refine ⟨_, (pss_cons (ps_set (i := 1) sc__linking_looks.nd rfl (by first | exact Or.inl rfl | exact Or.inr rfl) (pe_slotX (sclsX T.scls) (slotX T.sl_size) (pv 0)))
      (pss_one (ps_ret (pe_lc (own := [("row", 2)]) (g := (gName 2)) (tt := tYes) (te := (tCall (sp_bits_of K) [] E0 (tCons (tLc (iRng1 (tCons (tVar 1) tNil)) (gName 3) (tTest (tOp qGt (tOp (rIxT K) (tVar 2) (tVar 3)) (tC (.int 0)))) (tVar 3) [3]) tNil))) (by rfl) sc__linking_looks.nd (pi_tup (pe_slotX (sclsX T.scls) (slotX T.sl_takes) (pv 0))) (blkOk_by (by kernel_rfl)) (fun _ _ _ _ _ => (pg_name (i := 2) sc__linking_looks.nd rfl (by first | exact Or.inl rfl | exact Or.inr rfl))) (fun _ _ _ _ _ => pts_nil) (fun _ _ _ _ _ => (pe_call G_bits_of hr (by rfl) T.g_bits_of K_bits_of B_bits_of .nil pass0 (pa_cons (pe_lc (own := [("j", 3)]) (g := (gName 3)) (tt := (tTest (tOp qGt (tOp (rIxT K) (tVar 2) (tVar 3)) (tC (.int 0))))) (te := (tVar 3)) (by rfl) sc__linking_looks.nd (pi_range1 (by rfl) T.f_range (pa_cons (pv 1) pa_nil)) (blkOk_by (by kernel_rfl)) (fun _ _ _ _ _ => (pg_name (i := 3) sc__linking_looks.nd rfl (by first | exact Or.inl rfl | exact Or.inr rfl))) (fun _ _ _ _ _ => (pts_one (pt_cmpR op_gt (pe_ix ix_tup (pv 2) (pv 3) (fun _ _ => rfl)) pe_int (nomark _)))) (fun _ _ _ _ _ => (pv 3))) pa_nil))))))), ?_⟩
    obtain ⟨G, wd, e, ⟨⟨hn, hS⟩, hv⟩, q⟩ := h
    obtain ⟨u, rfl, hu⟩ := ac1 hv
    refine s_set (R := IR) (x := (wd.n : Int)) (ev_size (ev_var rfl hu)) e fun v G1 H1 s1 r1 => ?_
    obtain rfl := r1
    refine s_ret (R := Ls NR) (x := wd.t.map (lkm wd.n)) ?_ s1.v fun v G3 H3 s3 r3 => q v G3 H3 (s1.trans s3) r3
    refine ev_lcL (R := Tp IR) (ei_tup (ev_takes (w := wd) (ev_var rfl (Mono.up s1.g hu)))) (by rw [hS.l]; omega) fun i r v G4 H4 hr s4 rv => ?_
    have hrl := hS.r r (List.mem_of_getElem? hr)
    refine ev_call ((List.range wd.n).filter fun j => decide (0 < r.getD j 0)) (ea_cons (R := Ls NR) (x := (List.range wd.n).filter fun j => decide (0 < r.getD j 0)) ?_ ea_nil) (fun vs G' _ h => ⟨⟨?_, fun p hp => ?_⟩, by
        obtain ⟨a, b, h1, h2, h3⟩ := h
        exact ⟨a, b, h1, h2.sq, h3⟩⟩) (fun _ _ h => h)
    · rw [← filt_fm]
      refine ev_lc1 (W := fun i _ v => v = .int (i : Int)) (ei_range1 (m := (wd.n : Int)) (by tm_at "ea") (by omega) (by omega)) (by omega) (fun j v G' H' hi s w => ?_) (fun j v y G' H' hi s w hy => ?_)
      · obtain rfl := w
        refine EvT.eq (et_test (ev_B0 (f := fun i j => decide (j < i)) (i := r.getD j 0) (j := 0) (ev_ixT (n := j) (xs := r) (ev_var rfl (Mono.up s.g rv)) (ev_varI rfl) rfl ?_) ev_int)) ?_
        · rw [List.getD_eq_getElem?_getD, List.getElem?_eq_getElem (by omega)]; rfl
        · by_cases h : 0 < r.getD j 0
          · rw [decide_eq_true h]; rfl
          · rw [decide_eq_false h]; rfl
      · obtain rfl := w
        by_cases h : 0 < r.getD j 0
        · rw [decide_eq_true h, if_pos rfl] at hy; cases hy; exact ev_var rfl rfl
        · rw [decide_eq_false h, if_neg Bool.false_ne_true] at hy; cases hy
    · exact Nat.le_trans (List.length_filter_le _ _) (by rw [List.length_range]; omega)
    · have := List.mem_range.mp (List.mem_filter.mp hp).1
      omega
def nv (ps : List Nat) : List V := ps.map fun (p : Nat) => V.int (p : Int)
abbrev N__linking_reached : List Str := ["looks", "place", "found", "todo", "fresh"]
abbrev P__linking_reached : List Str := ["looks", "place"]
theorem sc__linking_reached : FnScope N__linking_reached P__linking_reached (defScope s__linking_reached) := ⟨rfl, rfl, rfl, by decide +kernel, rfl, by decide +kernel, by decide +kernel⟩
/-- a lot that holds the place and all that its places look at -/
def Rch (n : Nat) (ms : List Nat) (p F : Nat) : Prop := F < 2 ^ n ∧ F.testBit p = true ∧ ∀ a, F.testBit a = true → ∀ b, (ms.getD a 0).testBit b = true → F.testBit b = true
def sp__linking_reached (K : PySem.W.Frag) : Sp := Pu (fun (x : List Nat × Nat) vs G => (x.1.length ≤ 4 ∧ (∀ m ∈ x.1, m < 2 ^ x.1.length) ∧ x.2 < x.1.length) ∧ AC (Ls NR) x.1 (AC NR x.2 A0) vs G) (fun x G u => ∃ F, Rch x.1.length x.1 x.2 F ∧ u = .int (F : Nat))
theorem len__linking_reached {K : PySem.W.Frag} {vs : List V} {H : Hp} {Q : VK} {E : XK} (h : sp__linking_reached K vs H Q E) : vs.length = P__linking_reached.length := by
  obtain ⟨G, x, e, ⟨_, a⟩, _⟩ := h
  obtain ⟨_, _, rfl, _⟩ := ac2 a; rfl
theorem cnt_dec : ∀ F, F < 16 → ∀ m, m < 16 → (plc (F ||| (m - (m &&& F)))).length = (plc F).length + (plc (m - (m &&& F))).length ∧ (plc (F ||| (m - (m &&& F)))).length ≤ 4 := by decide +kernel
theorem one_dec : ∀ p, p < 4 → (plc (2 ^ p)).length = 1 := by decide +kernel
theorem fresh_dec : ∀ F, F < 16 → ∀ m, m < 16 → ∀ i, i < 4 → (m - (m &&& F)).testBit i = (m.testBit i && !F.testBit i) := by decide +kernel
def LrI (G H : Hp) (a : Addr) (ms : List Nat) (p : Nat) (u : V) (m : Nat) (σ : L2.St) (H' : Hp) : Prop := ∃ (F : Nat) (ps : List Nat) (G' : Hp), Stp G H G' H' ∧ G' a = none ∧ H' a = some (.lst (nv ps)) ∧ F < 2 ^ ms.length ∧ F.testBit p = true ∧ ps.length ≤ (plc F).length ∧ (∀ x ∈ ps, F.testBit x = true) ∧
  (∀ b, F.testBit b = true → b ∈ ps ∨ ∀ c, (ms.getD b 0).testBit c = true → F.testBit c = true) ∧ m = 2 * (4 - (plc F).length) + ps.length ∧ ∃ c, σ = [some u, some (.int (p : Int)), some (.int (F : Int)), some (.ref a), c]
theorem ok__linking_reached {P : Program} {w : World} {K : PySem.W.Frag} {mg : Str → Option Value} {base : Heap} {k : Nat} (T : Tx K mg) (G_lot_from : Ok P w K mg base k "lot_from" P_lot_from (sp_lot_from K)) : Ok P w K mg base (k + 1) "_linking_reached" P__linking_reached (sp__linking_reached K) := by
  obtain ⟨fd_lot_from, G_lot_from, B_lot_from, K_lot_from⟩ := G_lot_from
  refine ok_of T.d__linking_reached sc__linking_reached (fun _ _ _ _ _ _ us hl => match us, hl with | [_, _], _ => rfl) (fun vs H Q E h => ?_) (fun f cdv A outer s H vs Q E hr h => ?_)
  · exact len__linking_reached h
  · refine ⟨_, (pss_cons (ps_set (i := 2) sc__linking_reached.nd rfl (by first | exact Or.inl rfl | exact Or.inr rfl) (pe_op op_oneShl pe_int (pv 1)))
      (pss_cons (ps_set (i := 3) sc__linking_reached.nd rfl (by first | exact Or.inl rfl | exact Or.inr rfl) (pe_lst (pa_cons (pv 1) pa_nil)))
      (pss_cons (ps_while PassesOwn.never (pt_truth (pv 3) (by intro _; rfl)) (pss_cons (ps_set (i := 4) sc__linking_reached.nd rfl (by first | exact Or.inl rfl | exact Or.inr rfl) (pe_op op_and (pe_ix ix_list (pv 0) (pe_bm0 PySem.F.plainAttrs_list PySem.F.slot_list_pop PySem.F.type_list_pop mt_pop (pv 3)) (fun _ _ => rfl)) (pe_un un_inv (pv 2))))
      (pss_cons (ps_set (i := 2) sc__linking_reached.nd rfl (by first | exact Or.inl rfl | exact Or.inr rfl) (pe_op op_or (pv 2) (pv 4)))
      (pss_one (ps_expr (pe_bm PySem.F.plainAttrs_list PySem.F.slot_list_extend PySem.F.type_list_extend mt_extT (pv 3) (pa_cons (pe_call G_lot_from hr (by rfl) T.g_lot_from K_lot_from B_lot_from .nil pass0 (pa_cons (pv 4) pa_nil)) pa_nil)))))))
      (pss_one (ps_ret (pv 2)))))), ?_⟩
    obtain ⟨G, ⟨ms, p⟩, e, ⟨⟨hl, hm, hp⟩, hv⟩, q⟩ := h
    dsimp only at hl hm hp hv q
    obtain ⟨u, v, rfl, hu, rfl⟩ := ac2 hv
    refine s_set (R := IR) (x := ((2 ^ p : Nat) : Int)) (ev_shl (ev_varI rfl) (by omega)) e fun v G1 H1 s1 r1 => ?_
    obtain rfl := r1
    -- todo = [place]: an own list
    refine ⟨_, rfl, by show 1 ≤ sizeLine; decide, fun a ha => ?_⟩
    have ha0 : H a = none := s1.h.none ha
    have g1 := s1.v.none ha
    have n16 : 2 ^ ms.length ≤ 16 := Nat.pow_le_pow_right (n := 2) (by decide) (show ms.length ≤ 4 from hl)
    have tb4 : ∀ {F c : Nat}, F < 16 → F.testBit c = true → c < 4 := fun {F c} h t => by
      refine Classical.byContradiction fun z => ?_
      rw [Nat.testBit_lt_two_pow (Nat.lt_of_lt_of_le h (show 2 ^ 4 ≤ 2 ^ c from Nat.pow_le_pow_right (by decide) (by omega)))] at t
      cases t
    have tbn : ∀ {F c : Nat}, F < 2 ^ ms.length → F.testBit c = true → c < ms.length := fun {F c} h t => by
      refine Classical.byContradiction fun z => ?_
      rw [Nat.testBit_lt_two_pow (Nat.lt_of_lt_of_le h (Nat.pow_le_pow_right (by decide) (by omega)))] at t
      cases t
    refine ⟨LrI G H a ms p u,
      ⟨_, 2 ^ p, [p], G1, s1.own ha, g1, upd_same, Nat.pow_lt_pow_right (by decide) hp, by rw [Nat.testBit_two_pow_self], by rw [one_dec p (by omega)]; exact Nat.le_refl _, fun x hx => by rw [List.mem_singleton.mp hx, Nat.testBit_two_pow_self], fun b hb => .inl (by
        rw [Nat.testBit_two_pow] at hb
        rw [← of_decide_eq_true hb]; exact List.mem_singleton_self _), rfl, none, rfl⟩, ?_⟩
    rintro m σ H' ⟨F, ps, G', S, ga, ea, hF, hFp, hpl, h1, h2, rfl, c, rfl⟩
    refine ⟨_, rfl, !(nv ps).isEmpty, .inl ⟨_, SqL.of ea, rfl⟩, ?_⟩
    have hF16 : F < 16 := Nat.lt_of_lt_of_le hF n16
    rcases List.eq_nil_or_concat ps with rfl | ⟨ps', y, rfl⟩
    · -- the end
      refine iteF ?_
      refine s_ret (R := IR) (ev_varI rfl) S.v fun v G3 H3 s3 r3 => q v G3 H3 (S.trans s3) ⟨F, ⟨hF, hFp, fun b hb c hc => ?_⟩, r3⟩
      rcases h2 b hb with z | z
      · cases z
      · exact z c hc
    · rw [List.concat_eq_append] at *
      rw [show (!(nv (ps' ++ [y])).isEmpty) = true by simp [nv]]
      refine iteT ?_
      have hy : F.testBit y = true := h1 y (by simp)
      have hyn := tbn hF hy
      obtain ⟨my, emy⟩ : ∃ my, ms[y]? = some my := ⟨_, List.getElem?_eq_getElem hyn⟩
      have hmy : my < 2 ^ ms.length := hm my (List.mem_of_getElem? emy)
      have egd : ms.getD y 0 = my := getD_of emy
      have hm16 : my < 16 := Nat.lt_of_lt_of_le hmy n16
      obtain ⟨cd1, cd2⟩ := cnt_dec F hF16 my hm16
      have fr : ∀ c, (my - (my &&& F)).testBit c = true ↔ my.testBit c = true ∧ F.testBit c = false := fun c => by
        have lt : my - (my &&& F) < 16 := by omega
        constructor
        · intro h
          have := fresh_dec F hF16 my hm16 c (tb4 lt h)
          rw [h] at this
          have := this.symm
          simp only [Bool.and_eq_true, Bool.not_eq_true'] at this
          exact this
        · rintro ⟨h, h'⟩
          rw [fresh_dec F hF16 my hm16 c (tb4 hm16 h), h, h']; rfl
      refine ⟨fun σ' H' => ∃ m', m' < 2 * (4 - (plc F).length) + (ps' ++ [y]).length ∧ LrI G H a ms p u m' σ' H', fun σ' H' h => h, ?_⟩
      -- fresh = looks[todo.pop()] & ~found
      refine ⟨u, rfl, .ref a, rfl, .inl ⟨rfl, _, SqL.of ea⟩, a, _, .int (y : Int), rfl, rfl, ea, by simp [nv], ?_⟩
      obtain ⟨au, us, rfl, hau, pu⟩ := hu
      obtain ⟨vy, evy, rvy⟩ := paired_get1 pu emy
      obtain rfl : vy = .int (my : Int) := rvy
      have nau : au ≠ a := ne_of_none (S.v _ _ (S.g _ _ hau) |> fun h => (show H au = some (.lst us) from e _ _ hau)) ha0
      refine ⟨au, us, (y : Int), _, rfl, rfl, SqL.of (by rw [upd_ne nau]; exact S.v _ _ (S.g _ _ hau)), atI_nat evy, _, rfl, (F : Int), rfl, (my : Int), _, rfl, rfl, ?_⟩
      show gName 4 (V.int (Builtin.bitAnd (my : Int) (Builtin.bitNot (F : Int)))) _ _ _
      rw [bitAnd_not]
      unfold gName
      dsimp only
      have S1 : Stp G H G' (upd H' a (.lst (nv (ps' ++ [y])).dropLast)) := S.mut ha0 ga
      refine s_set (R := IR) (x := ((F ||| (my - (my &&& F)) : Nat) : Int)) (ev_orN (ev_varI rfl) (ev_varI rfl)) S1.v fun v G2 H2 s2 r2 => ?_
      obtain rfl := r2
      have ea2 : H2 a = some (.lst (nv ps')) := s2.h _ _ (by rw [upd_same]; simp [nv])
      have ga2 : G2 a = none := s2.n a _ upd_same ga
      have S2 := S1.trans s2
      -- todo.extend(lot_from(fresh))
      refine ⟨_, rfl, .inl ⟨rfl, _, SqL.of ea2⟩, ?_⟩
      refine Ev.run (te := tCall (sp_lot_from K) [] E0 (tCons (tVar 4) tNil)) (R := Tp NR) (x := plc (my - (my &&& F))) (ev_call (my - (my &&& F)) (ea_cons (R := NR) (x := my - (my &&& F)) (ev_var rfl rfl) ea_nil) (fun vs G' _ h => ⟨Nat.lt_of_lt_of_le (show my - (my &&& F) < 16 by omega) (by decide), h⟩) (fun _ _ h => h)) S2.v fun v G3 H3 s3 r3 => ?_
      obtain ⟨t, ts, rfl, ht, pt⟩ := r3
      have ets : ts = nv (plc (my - (my &&& F))) := by
        have : ∀ {G : Hp} {us : List V} {ns : List Nat}, Paired (NR G) us ns → us = nv ns := fun h => by
          induction h with
          | nil => rfl
          | cons h r ih => rw [show _ = V.int _ from h, ih]; rfl
        exact this pt
      subst ets
      have len1 : (plc F).length + (plc (my - (my &&& F))).length ≤ 4 := by omega
      have ll : (ps' ++ [y]).length ≤ 100 := by omega
      refine ⟨a, t, _, _, rfl, rfl, s3.h _ _ ea2, SqT.of (s3.v _ _ ht), small_le (by unfold nv; rw [List.length_map, List.length_map]; rw [List.length_append] at ll; omega), ?_⟩
      have ea3 := s3.h _ _ ea2
      have ga3 := s3.n a _ ea2 ga2
      have S3 := S2.trans s3
      refine ⟨_, ?_, F ||| (my - (my &&& F)), ps' ++ plc (my - (my &&& F)), G3, S3.mut ha0 ga3, ga3, by rw [upd_same]; simp [nv], ?_, ?_, ?_, ?_, ?_, rfl, _, rfl⟩
      · rw [cd1]
        simp only [List.length_singleton, List.length_append]
        omega
      · exact Nat.or_lt_two_pow hF (by omega)
      · rw [Nat.testBit_or, hFp, Bool.true_or]
      · rw [cd1]; rw [List.length_append] at hpl ⊢; have : [y].length = 1 := rfl; omega
      · intro x hx
        rw [Nat.testBit_or]
        rcases List.mem_append.mp hx with z | z
        · rw [h1 x (by simp [z]), Bool.true_or]
        · rw [(plc_mem _ _).mp z, Bool.or_true]
      · intro b hb
        rw [Nat.testBit_or, Bool.or_eq_true] at hb
        rcases hb with hb | hb
        · rcases h2 b hb with z | z
          · rcases List.mem_append.mp z with z | z
            · exact .inl (by simp [z])
            · rw [List.mem_singleton.mp z, egd]
              refine .inr fun c hc => ?_
              rw [Nat.testBit_or, Bool.or_eq_true]
              cases hf : F.testBit c with
              | true => exact .inl rfl
              | false => exact .inr ((fr c).mpr ⟨hc, hf⟩)
          · exact .inr fun c hc => by rw [Nat.testBit_or, z c hc, Bool.true_or]
        · exact .inl (by simp [(plc_mem _ _).mpr hb])

end Cy
namespace Cy
open PySem PySem.Spec PyProof.Rows L2 He
local macro_rules | `(tactic| tm_at "ex") => `(tactic| first
  | exact Ex.refl _ | assumption | exact Stp.g (by assumption) | exact Stp.v (by assumption)
  | (refine Ex.trans (Stp.g (by assumption)) ?_; tm_at "ex")
  | (refine Ex.trans (by assumption) ?_; tm_at "ex"))
local macro_rules | `(tactic| tm_at "rl") => `(tactic| first
  | exact rfl | assumption | (apply Mono.up; rotate_left; assumption; tm_at "ex"))
local macro_rules | `(tactic| tm_at "sc") => `(tactic| first | assumption | omega)
local macro_rules | `(tactic| tm_at "ev") => `(tactic| first
  | exact ev_int | exact ev_bl | assumption
  | (apply ev_varI; exact rfl)
  | (apply ev_var; exact rfl; tm_at "rl")
  | (apply ev_I0; tm_at "ev"; tm_at "ev")
  | (apply ev_B0; tm_at "ev"; tm_at "ev")
  | (apply ev_I; tm_at "ev"; tm_at "ev"; tm_at "sc")
  | (apply ev_un; tm_at "ev")
  | (apply ev_eqI; tm_at "ev"; tm_at "ev")
  | (apply ev_neI; tm_at "ev"; tm_at "ev")
  | (apply ev_fstI; tm_at "ev")
  | (apply ev_sndI; tm_at "ev")
  | (apply ev_max2; tm_at "ev"; tm_at "ev")
  | (apply ev_min2; tm_at "ev"; tm_at "ev")
  | (apply ev_abs; tm_at "ev")
  | (apply ev_int1; tm_at "ev")
  | (apply ev_bits; tm_at "ev")
  | (apply ev_gcd; tm_at "ev"; tm_at "ev")
  | (apply ev_len; tm_at "ev")
  | (apply ev_tup2; tm_at "ev"; tm_at "ev"))
local macro_rules | `(tactic| tm_at "ea") => `(tactic| first
  | exact ea_nil
  | (apply ea_consI; tm_at "ev"; tm_at "ea")
  | (apply ea_cons; tm_at "ev"; tm_at "ea"))
local macro_rules | `(tactic| tm_at "et") => `(tactic| first
  | (apply et_test; tm_at "ev")
  | (apply et_B; tm_at "ev")
  | (apply et_not; tm_at "et"))

open Cr
theorem WOk.look {w : Wd} (h : WOk w) {i : Nat} (hi : i < w.n) : ∃ r, w.t[i]? = some r ∧ (w.t.map (lkm w.n))[i]? = some (lkm w.n r) ∧ ∀ j, (lkm w.n r).testBit j = true ↔ j < w.n ∧ 0 < at2 w.t i j := by
  obtain ⟨r, e, hl, hr⟩ := h.st.row hi
  refine ⟨r, e, by rw [List.getElem?_map, e]; rfl, fun j => ?_⟩
  rw [lkm_test]
  constructor
  · rintro ⟨a, b⟩
    rw [getD_of (hr j a)] at b
    exact ⟨a, b⟩
  · rintro ⟨a, b⟩
    rw [getD_of (hr j a)]
    exact ⟨a, b⟩
theorem looks_ok {K : PySem.W.Frag} {w : Wd} (h : WOk w) {σ : L2.St} {G H : Hp} {i : Nat} {u : V} (hi : σ[i]? = some (some u)) (hu : WR K G u w) : Ev (tCall (sp__linking_looks K) [] E0 (tCons (tVar i) tNil)) σ G H (Ls NR) (w.t.map (lkm w.n)) :=
  ev_call w (ea_cons (ev_var hi hu) ea_nil) (fun vs G' _ a => ⟨⟨by have := h.n4; omega, h.st⟩, a⟩) (fun _ _ a => a)
abbrev N_shut_lot : List Str := ["world", "size", "looks", "number", "i"]
abbrev P_shut_lot : List Str := ["world"]
theorem sc_shut_lot : FnScope N_shut_lot P_shut_lot (defScope s_shut_lot) := ⟨rfl, rfl, rfl, by decide +kernel, rfl, by decide +kernel, by decide +kernel⟩
def sp_shut_lot (K : PySem.W.Frag) : Sp := Pu (fun (x : Wd) vs G => WOk x ∧ AC (WR K) x A0 vs G) (fun x G u => u = .non)
theorem len_shut_lot {K : PySem.W.Frag} {vs : List V} {H : Hp} {Q : VK} {E : XK} (h : sp_shut_lot K vs H Q E) : vs.length = P_shut_lot.length := by
  obtain ⟨G, x, e, ⟨_, a⟩, _⟩ := h
  obtain ⟨_, rfl, _⟩ := ac1 a; rfl
theorem ok_shut_lot {P : Program} {w : World} {K : PySem.W.Frag} {mg : Str → Option Value} {base : Heap} {k : Nat} (T : Tx K mg) (G__linking_looks : Ok P w K mg base k "_linking_looks" P__linking_looks (sp__linking_looks K)) (G_lot_from : Ok P w K mg base k "lot_from" P_lot_from (sp_lot_from K)) : Ok P w K mg base (k + 1) "shut_lot" P_shut_lot (sp_shut_lot K) := by
  obtain ⟨fd__linking_looks, G__linking_looks, B__linking_looks, K__linking_looks⟩ := G__linking_looks
  obtain ⟨fd_lot_from, G_lot_from, B_lot_from, K_lot_from⟩ := G_lot_from
  refine ok_of T.d_shut_lot sc_shut_lot (fun _ _ _ _ _ _ us hl => match us, hl with | [_], _ => rfl) (fun vs H Q E h => ?_) (fun f cdv A outer s H vs Q E hr h => ?_)
  · exact len_shut_lot h
  · refine ⟨_, (pss_cons (ps_set (i := 1) sc_shut_lot.nd rfl (by first | exact Or.inl rfl | exact Or.inr rfl) (pe_slotX (sclsX T.scls) (slotX T.sl_size) (pv 0)))
      (pss_cons (ps_set (i := 2) sc_shut_lot.nd rfl (by first | exact Or.inl rfl | exact Or.inr rfl) (pe_call G__linking_looks hr (by rfl) T.g__linking_looks K__linking_looks B__linking_looks .nil pass0 (pa_cons (pv 0) pa_nil)))
      (pss_cons (ps_for PassesOwn.never rfl (pi_range2 (by rfl) T.f_range (pa_cons pe_int (pa_cons (pe_op op_sub (pe_op op_oneShl pe_int (pv 1)) pe_int) pa_nil))) (pg_name (i := 3) sc_shut_lot.nd rfl (by first | exact Or.inl rfl | exact Or.inr rfl)) (pss_one (ps_if (pt_val (pe_callB (cr_all rfl) (by rfl) T.f_all (by decide +kernel) (pa_cons (pe_lc (own := [("i", 4)]) (g := (gName 4)) (tt := tYes) (te := (tOp rEq (tOp qAnd (tOp (rIxL K) (tVar 2) (tVar 4)) (tUn qInv (tVar 3))) (tC (.int 0)))) (by rfl) sc_shut_lot.nd (pi_tup (pe_call G_lot_from hr (by rfl) T.g_lot_from K_lot_from B_lot_from .nil pass0 (pa_cons (pv 3) pa_nil))) (blkOk_by (by kernel_rfl)) (fun _ _ _ _ _ => (pg_name (i := 4) sc_shut_lot.nd rfl (by first | exact Or.inl rfl | exact Or.inr rfl))) (fun _ _ _ _ _ => pts_nil) (fun _ _ _ _ _ => (pe_cmpR op_eq (pe_op op_and (pe_ix ix_list (pv 2) (pv 4) (fun _ _ => rfl)) (pe_un un_inv (pv 3))) pe_int (nomark _)))) pa_nil))) (pss_one (ps_ret (pe_call G_lot_from hr (by rfl) T.g_lot_from K_lot_from B_lot_from .nil pass0 (pa_cons (pv 3) pa_nil)))) pss_nil)))
      (pss_one (ps_ret pe_non))))), ?_⟩
    obtain ⟨G, w, e, ⟨hw, hv⟩, q⟩ := h
    obtain ⟨u, rfl, hu⟩ := ac1 hv
    have n4 := hw.n4
    have n2 := hw.n2
    have p2 : (2 : Nat) ^ w.n ≤ 16 := Nat.pow_le_pow_right (n := 2) (by decide) n4
    have p3 : 1 ≤ (2 : Nat) ^ w.n := Nat.one_le_two_pow
    refine s_set (R := IR) (x := (w.n : Int)) (ev_size (ev_var rfl hu)) e fun v G1 H1 s1 r1 => ?_
    obtain rfl := r1
    refine s_set (looks_ok hw rfl (Mono.up s1.g hu)) s1.v fun lk G2 H2 s2 r2 => ?_
    have S := s1.trans s2
    refine s_for (I := fun i σ G' H' => Stp G H G' H' ∧ Ls NR G' lk (w.t.map (lkm w.n)) ∧ ∃ c d, σ = [some u, some (.int (w.n : Int)), some lk, c, d])
      (ei_range2 (a := 1) (b := ((2 ^ w.n : Nat) : Int) - 1) (ea_consI ev_int (ea_consI (ev_I0 (f := fun i j => i - j) (ev_shl (ev_varI rfl) (by omega)) ev_int) ea_nil)) ⟨by omega, by omega, by omega, by omega⟩) S.v ?_ ?_ ?_
    · exact fun G3 H3 s3 => ⟨S.trans s3, Mono.up s3.g r2, none, none, rfl⟩
    · rintro i v σ Gp Hq G' H' G1 hi e1 e2 ⟨S2, r3, c, d, rfl⟩ s3 rfl
      have S3 := S2.trans s3
      have r4 := Mono.up s3.g r3
      have hnum : (1 : Int) + (i : Int) = ((1 + i : Nat) : Int) := by omega
      rw [hnum]
      have hlt : 1 + i < 2 ^ w.n - 1 := by omega
      generalize 1 + i = m at *
      -- some place of the lot looks outside
      obtain ⟨a, b, ha, hb, pa, pb, tp⟩ := hw.lk (fun j => m.testBit j) (by
        refine Classical.byContradiction fun z => ?_
        have : m = 0 := Nat.eq_of_testBit_eq fun j => by
          rw [Nat.zero_testBit]
          refine Bool.eq_false_iff.mpr fun t => z ⟨j, ?_, t⟩
          refine Classical.byContradiction fun y => ?_
          rw [Nat.testBit_lt_two_pow (Nat.lt_of_lt_of_le (show m < 2 ^ w.n by omega) (Nat.pow_le_pow_right (by decide) (by omega)))] at t
          cases t
        omega) (by
        refine Classical.byContradiction fun z => ?_
        have : m = 2 ^ w.n - 1 := closed_full hw.lk (by omega) (by
          refine Classical.byContradiction fun y => ?_
          exact z ⟨0, by omega, Bool.eq_false_iff.mpr fun t => y ⟨0, by omega, t⟩⟩) (fun p q hp hq _ _ => Classical.byContradiction fun y => z ⟨q, hq, Bool.eq_false_iff.mpr y⟩)
        omega)
      refine s_if (b := false) (EvT.eq (b := ((plc m).map fun i => decide ((((w.t.map (lkm w.n)).getD i 0 - ((w.t.map (lkm w.n)).getD i 0 &&& m) : Nat) : Int) = 0)).all id) (et_B (ev_all ?_)) ?_) s3.v (fun _ _ _ z => by cases z) fun G4 H4 s4 _ => ?_
      · have hm100 : m < 2 ^ 100 := Nat.lt_of_lt_of_le (show m < 16 by omega) (by decide)
        refine ev_lcL (R := NR) (ei_tup (R := NR) (xs := plc m) (ev_call m (ea_cons (R := NR) (x := m) (ev_var rfl rfl) ea_nil) (fun vs G' _ h => ⟨hm100, h⟩) (fun _ _ h => h))) ?_ fun j x v G5 H5 hx s5 rv => ?_
        · have := nodup_le (n := 4) (plc_nodup m) fun p hp => by
            refine Classical.byContradiction fun y => ?_
            have t := (plc_mem m p).mp hp
            rw [Nat.testBit_lt_two_pow (Nat.lt_of_lt_of_le (show m < 2 ^ 4 by omega) (Nat.pow_le_pow_right (by decide) (by omega)))] at t
            cases t
          omega
        · obtain rfl := rv
          have hxm := (plc_mem m x).mp (List.mem_of_getElem? hx)
          have hxn : x < w.n := by
            refine Classical.byContradiction fun y => ?_
            rw [Nat.testBit_lt_two_pow (Nat.lt_of_lt_of_le (show m < 2 ^ w.n by omega) (Nat.pow_le_pow_right (by decide) (by omega)))] at hxm
            cases hxm
          obtain ⟨r, er, el, _⟩ := hw.look hxn
          rw [getD_of el]
          refine ev_eqI (ev_andNot (a := lkm w.n r) (b := m) ?_ (ev_varI rfl)) ev_int
          exact (ev_ixL (R := NR) (xs := w.t.map (lkm w.n)) (n := x) (ev_var rfl (Mono.up s5.g r4)) (ev_varI rfl) rfl el).imp fun _ _ h => h
      · refine Bool.eq_false_iff.mpr fun z => ?_
        rw [List.all_map, List.all_eq_true] at z
        have := of_decide_eq_true (z a ((plc_mem m a).mpr pa))
        obtain ⟨r, er, el, ht⟩ := hw.look ha
        rw [getD_of el] at this
        have hlb := (ht b).mpr ⟨hb, tp⟩
        have l16 : lkm w.n r < 16 := Nat.lt_of_lt_of_le (lkm_lt _ _) p2
        have fd := fresh_dec m (by omega) (lkm w.n r) l16 b (by omega)
        rw [show lkm w.n r - (lkm w.n r &&& m) = 0 by omega, hlb, pb, Nat.zero_testBit] at fd
        cases fd
      · exact ⟨G4, e2.trans (s3.g.trans s4.g), s4.v, S3.trans s4, Mono.up s4.g r4, some _, d, rfl⟩
    · rintro σ G' H' e1 e2 ⟨S2, r3, c, d, rfl⟩
      exact q _ G' H' S2 rfl
abbrev N_need_linked : List Str := ["world", "shut"]
abbrev P_need_linked : List Str := ["world"]
theorem sc_need_linked : FnScope N_need_linked P_need_linked (defScope s_need_linked) := ⟨rfl, rfl, rfl, by decide +kernel, rfl, by decide +kernel, by decide +kernel⟩
def sp_need_linked (K : PySem.W.Frag) : Sp := Pu (fun (x : Wd) vs G => WOk x ∧ AC (WR K) x A0 vs G) (fun x G u => u = .non)
theorem len_need_linked {K : PySem.W.Frag} {vs : List V} {H : Hp} {Q : VK} {E : XK} (h : sp_need_linked K vs H Q E) : vs.length = P_need_linked.length := by
  obtain ⟨G, x, e, ⟨_, a⟩, _⟩ := h
  obtain ⟨_, rfl, _⟩ := ac1 a; rfl
theorem ok_need_linked {P : Program} {w : World} {K : PySem.W.Frag} {mg : Str → Option Value} {base : Heap} {k : Nat} (T : Tx K mg) (G_shut_lot : Ok P w K mg base k "shut_lot" P_shut_lot (sp_shut_lot K)) : Ok P w K mg base (k + 1) "need_linked" P_need_linked (sp_need_linked K) := by
  obtain ⟨fd_shut_lot, G_shut_lot, B_shut_lot, K_shut_lot⟩ := G_shut_lot
  refine ok_of T.d_need_linked sc_need_linked (fun _ _ _ _ _ _ us hl => match us, hl with | [_], _ => rfl) (fun vs H Q E h => ?_) (fun f cdv A outer s H vs Q E hr h => ?_)
  · exact len_need_linked h
  · refine ⟨_, (pss_cons (ps_set (i := 1) sc_need_linked.nd rfl (by first | exact Or.inl rfl | exact Or.inr rfl) (pe_call G_shut_lot hr (by rfl) T.g_shut_lot K_shut_lot B_shut_lot .nil pass0 (pa_cons (pv 0) pa_nil)))
      (pss_one (ps_if (pt_cmpR op_notN (pv 1) pe_non (nomark _)) (pss_one ps_never) pss_nil))), ?_⟩
    obtain ⟨G, w, e, ⟨hw, hv⟩, q⟩ := h
    obtain ⟨u, rfl, hu⟩ := ac1 hv
    refine s_set (R := VR) (x := .non) (ev_call w (ea_cons (R := WR K) (ev_var rfl hu) ea_nil) (fun vs G' _ h => ⟨hw, h⟩) (fun _ _ h => h)) e fun v G1 H1 s1 r1 => ?_
    obtain rfl := r1
    refine ⟨_, rfl, rfl, _, rfl, iteF ?_⟩
    exact q _ G1 H1 s1 rfl

end Cy
namespace Cy
open PySem PySem.Spec PyProof.Rows L2 He
local macro_rules | `(tactic| tm_at "ex") => `(tactic| first
  | exact Ex.refl _ | assumption | exact Stp.g (by assumption) | exact Stp.v (by assumption)
  | (refine Ex.trans (Stp.g (by assumption)) ?_; tm_at "ex")
  | (refine Ex.trans (by assumption) ?_; tm_at "ex"))
local macro_rules | `(tactic| tm_at "rl") => `(tactic| first
  | exact rfl | assumption | (apply Mono.up; rotate_left; assumption; tm_at "ex"))
local macro_rules | `(tactic| tm_at "sc") => `(tactic| first | assumption | omega)
local macro_rules | `(tactic| tm_at "ev") => `(tactic| first
  | exact ev_int | exact ev_bl | assumption
  | (apply ev_varI; exact rfl)
  | (apply ev_var; exact rfl; tm_at "rl")
  | (apply ev_I0; tm_at "ev"; tm_at "ev")
  | (apply ev_B0; tm_at "ev"; tm_at "ev")
  | (apply ev_I; tm_at "ev"; tm_at "ev"; tm_at "sc")
  | (apply ev_un; tm_at "ev")
  | (apply ev_eqI; tm_at "ev"; tm_at "ev")
  | (apply ev_neI; tm_at "ev"; tm_at "ev")
  | (apply ev_fstI; tm_at "ev")
  | (apply ev_sndI; tm_at "ev")
  | (apply ev_max2; tm_at "ev"; tm_at "ev")
  | (apply ev_min2; tm_at "ev"; tm_at "ev")
  | (apply ev_abs; tm_at "ev")
  | (apply ev_int1; tm_at "ev")
  | (apply ev_bits; tm_at "ev")
  | (apply ev_gcd; tm_at "ev"; tm_at "ev")
  | (apply ev_len; tm_at "ev")
  | (apply ev_tup2; tm_at "ev"; tm_at "ev"))
local macro_rules | `(tactic| tm_at "ea") => `(tactic| first
  | exact ea_nil
  | (apply ea_consI; tm_at "ev"; tm_at "ea")
  | (apply ea_cons; tm_at "ev"; tm_at "ea"))
local macro_rules | `(tactic| tm_at "et") => `(tactic| first
  | (apply et_test; tm_at "ev")
  | (apply et_B; tm_at "ev")
  | (apply et_not; tm_at "et"))

open Cr
theorem plc_full : ∀ n, n < 5 → plc (2 ^ n - 1) = List.range n := by decide +kernel
theorem Rch.full {w : Wd} (h : WOk w) {p F : Nat} (hp : p < w.n) (R : Rch w.n (w.t.map (lkm w.n)) p F) : F = 2 ^ w.n - 1 :=
  closed_full h.lk R.1 ⟨p, hp, R.2.1⟩ fun a b ha hb pa t => by
    obtain ⟨r, er, el, ht⟩ := h.look ha
    refine R.2.2 a pa b ?_
    rw [getD_of el]
    exact (ht b).mpr ⟨hb, t⟩
abbrev N_heads : List Str := ["world", "looks", "found", "told", "i", "lot", "j"]
abbrev P_heads : List Str := ["world"]
theorem sc_heads : FnScope N_heads P_heads (defScope s_heads) := ⟨rfl, rfl, rfl, by decide +kernel, rfl, by decide +kernel, by decide +kernel⟩
def sp_heads (K : PySem.W.Frag) : Sp := Pu (fun (x : Wd) vs G => WOk x ∧ AC (WR K) x A0 vs G) (fun x G u => Tp (Tp NR) G u [List.range x.n])
theorem len_heads {K : PySem.W.Frag} {vs : List V} {H : Hp} {Q : VK} {E : XK} (h : sp_heads K vs H Q E) : vs.length = P_heads.length := by
  obtain ⟨G, x, e, ⟨_, a⟩, _⟩ := h
  obtain ⟨_, rfl, _⟩ := ac1 a; rfl
def HdI (G H : Hp) (u lk fd : V) (a : Addr) (n : Nat) (i : Nat) (σ : L2.St) (G' H' : Hp) : Prop := Stp G H G' H' ∧ G' a = none ∧ Ls NR G' fd ((List.range n).map fun _ => 2 ^ n - 1) ∧ (∃ ts, H' a = some (.lst ts) ∧ Paired (Tp NR G') ts (if i = 0 then [] else [List.range n])) ∧ ∃ c d e, σ = [some u, some lk, some fd, some (.ref a), c, d, e]
theorem ok_heads {P : Program} {w : World} {K : PySem.W.Frag} {mg : Str → Option Value} {base : Heap} {k : Nat} (T : Tx K mg) (G__linking_looks : Ok P w K mg base k "_linking_looks" P__linking_looks (sp__linking_looks K)) (G__linking_reached : Ok P w K mg base k "_linking_reached" P__linking_reached (sp__linking_reached K)) (G_lot_from : Ok P w K mg base k "lot_from" P_lot_from (sp_lot_from K)) : Ok P w K mg base (k + 1) "heads" P_heads (sp_heads K) := by
  obtain ⟨fd__linking_looks, G__linking_looks, B__linking_looks, K__linking_looks⟩ := G__linking_looks
  obtain ⟨fd__linking_reached, G__linking_reached, B__linking_reached, K__linking_reached⟩ := G__linking_reached
  obtain ⟨fd_lot_from, G_lot_from, B_lot_from, K_lot_from⟩ := G_lot_from
  refine ok_of T.d_heads sc_heads (fun _ _ _ _ _ _ us hl => match us, hl with | [_], _ => rfl) (fun vs H Q E h => ?_) (fun f cdv A outer s H vs Q E hr h => ?_)
  · exact len_heads h
  · refine ⟨_, (pss_cons (ps_set (i := 1) sc_heads.nd rfl (by first | exact Or.inl rfl | exact Or.inr rfl) (pe_call G__linking_looks hr (by rfl) T.g__linking_looks K__linking_looks B__linking_looks .nil pass0 (pa_cons (pv 0) pa_nil)))
      (pss_cons (ps_set (i := 2) sc_heads.nd rfl (by first | exact Or.inl rfl | exact Or.inr rfl) (pe_lc (own := [("i", 4)]) (g := (gName 4)) (tt := tYes) (te := (tCall (sp__linking_reached K) [] E0 (tCons (tVar 1) (tCons (tVar 4) tNil)))) (by rfl) sc_heads.nd (pi_range1 (by rfl) T.f_range (pa_cons (pe_slotX (sclsX T.scls) (slotX T.sl_size) (pv 0)) pa_nil)) (blkOk_by (by kernel_rfl)) (fun _ _ _ _ _ => (pg_name (i := 4) sc_heads.nd rfl (by first | exact Or.inl rfl | exact Or.inr rfl))) (fun _ _ _ _ _ => pts_nil) (fun _ _ _ _ _ => (pe_call G__linking_reached hr (by rfl) T.g__linking_reached K__linking_reached B__linking_reached .nil pass0 (pa_cons (pv 1) (pa_cons (pv 4) pa_nil))))))
      (pss_cons (ps_set (i := 3) sc_heads.nd rfl (by first | exact Or.inl rfl | exact Or.inr rfl) (pe_lst pa_nil))
      (pss_cons (ps_for PassesOwn.never rfl (pi_range1 (by rfl) T.f_range (pa_cons (pe_slotX (sclsX T.scls) (slotX T.sl_size) (pv 0)) pa_nil)) (pg_name (i := 4) sc_heads.nd rfl (by first | exact Or.inl rfl | exact Or.inr rfl)) (pss_cons (ps_set (i := 5) sc_heads.nd rfl (by first | exact Or.inl rfl | exact Or.inr rfl) (pe_call G_lot_from hr (by rfl) T.g_lot_from K_lot_from B_lot_from .nil pass0 (pa_cons (pe_ix ix_list (pv 2) (pv 4) (fun _ _ => rfl)) pa_nil)))
      (pss_one (ps_if (PW.pt (pw_and (pt_cmpR op_eq (pe_ix ix_tup (pv 5) pe_int (fun _ _ => rfl)) (pv 4) (nomark _)) (pw_and1 (pt_val (pe_callB (cr_all rfl) (by rfl) T.f_all (by decide +kernel) (pa_cons (pe_lc (own := [("j", 6)]) (g := (gName 6)) (tt := tYes) (te := (tOp rEq (tOp (rIxL K) (tVar 2) (tVar 6)) (tOp (rIxL K) (tVar 2) (tVar 4)))) (by rfl) sc_heads.nd (pi_tup (pv 5)) (blkOk_by (by kernel_rfl)) (fun _ _ _ _ _ => (pg_name (i := 6) sc_heads.nd rfl (by first | exact Or.inl rfl | exact Or.inr rfl))) (fun _ _ _ _ _ => pts_nil) (fun _ _ _ _ _ => (pe_cmpR op_eq (pe_ix ix_list (pv 2) (pv 6) (fun _ _ => rfl)) (pe_ix ix_list (pv 2) (pv 4) (fun _ _ => rfl)) (nomark _)))) pa_nil)))))) (pss_one (ps_expr (pe_bm PySem.F.plainAttrs_list PySem.F.slot_list_append PySem.F.type_list_append mt_append (pv 3) (pa_cons (pv 5) pa_nil)))) pss_nil))))
      (pss_one (ps_ret (pe_callTy call_tuple_of (by rfl) T.f_tuple (by decide +kernel) (pa_cons (pv 3) pa_nil)))))))), ?_⟩
    obtain ⟨G, w, e, ⟨hw, hv⟩, q⟩ := h
    obtain ⟨u, rfl, hu⟩ := ac1 hv
    have n4 := hw.n4
    have n2 := hw.n2
    have p2 : (2 : Nat) ^ w.n ≤ 16 := Nat.pow_le_pow_right (n := 2) (by decide) n4
    have p3 : 1 ≤ (2 : Nat) ^ w.n := Nat.one_le_two_pow
    refine s_set (looks_ok hw rfl hu) e fun lk G1 H1 s1 r1 => ?_
    have hu1 := Mono.up s1.g hu
    have ml : (w.t.map (lkm w.n)).length = w.n := by rw [List.length_map, hw.st.l]
    refine s_set (R := Ls NR) (x := (List.range w.n).map fun _ => 2 ^ w.n - 1) ?_ s1.v fun fd G2 H2 s2 r2 => ?_
    · refine ev_lc0 (n := w.n) (W := fun i _ v => v = .int (i : Int)) (ei_range1 (m := (w.n : Int)) (ea_consI (ev_size (w := w) (ev_var rfl hu1)) ea_nil) (by omega) (by omega)) (by omega) fun i v G3 H3 hi s3 ev => ?_
      obtain rfl := ev
      refine ev_call (w.t.map (lkm w.n), i) (ea_cons (R := Ls NR) (x := w.t.map (lkm w.n)) (ev_var rfl (Mono.up s3.g r1)) (ea_cons (R := NR) (x := i) (ev_var rfl rfl) ea_nil)) (fun vs G' _ h => ⟨⟨?_, ?_, ?_⟩, h⟩) fun _ v hF => ?_
      · show (w.t.map (lkm w.n)).length ≤ 4; omega
      · intro m hm
        obtain ⟨r, _, rfl⟩ := List.mem_map.mp hm
        rw [ml]; exact lkm_lt _ _
      · show i < (w.t.map (lkm w.n)).length; omega
      · obtain ⟨F, hF, rfl⟩ := hF
        dsimp only at hF
        rw [ml] at hF
        rw [hF.full hw hi]
        exact rfl
    · have S := s1.trans s2
      refine s_new s2.v fun a ha ga => ?_
      have ha0 : H a = none := S.h.none ha
      refine s_for (I := HdI G H u lk fd a w.n) (ei_range1 (m := (w.n : Int)) (ea_consI (ev_size (w := w) (ev_var rfl (Mono.up S.g hu))) ea_nil) (by omega) (by omega)) (s2.v.trans (Ex.new ha)) ?_ ?_ ?_
      · exact fun G3 H3 s3 => ⟨(S.own ha).trans s3, s3.n a _ upd_same ga, Mono.up s3.g r2, ⟨[], s3.h _ _ upd_same, by rw [if_pos rfl]; exact .nil⟩, none, none, none, rfl⟩
      · rintro i v σ Gp Hq G' H' G1 hi e1 e2 ⟨S2, gn, r3, ⟨ts, et, pt⟩, c, d, e, rfl⟩ s3 rfl
        have S3 := S2.trans s3
        have gn3 := s3.n a _ et gn
        have et3 := s3.h _ _ et
        have pt3 := paired_imp (fun _ _ => Mono.up (R := Tp NR) s3.g) pt
        have r4 := Mono.up s3.g r3
        have hi' : i < w.n := by omega
        refine s_set (R := Tp NR) (x := List.range w.n) ?_ s3.v fun lt G4 H4 s4 r5 => ?_
        · refine ev_call (2 ^ w.n - 1) (ea_cons (R := NR) (x := 2 ^ w.n - 1) (ev_ixL (R := NR) (n := i) (xs := (List.range w.n).map fun _ => 2 ^ w.n - 1) (ev_var rfl r4) (ev_varI rfl) rfl ?_) ea_nil) (fun vs G' _ h => ⟨Nat.lt_of_lt_of_le (show 2 ^ w.n - 1 < 16 by omega) (by decide), h⟩) fun _ v h => by rw [plc_full _ (by omega)] at h; exact h
          rw [List.getElem?_map, List.getElem?_range hi']; rfl
        · have S4 := S3.trans s4
          have r6 := Mono.up s4.g r4
          have gn4 := s4.n a _ et3 gn3
          have et4 := s4.h _ _ et3
          have pt4 := paired_imp (fun _ _ => Mono.up (R := Tp NR) s4.g) pt3
          refine s_if (b := decide ((0 : Int) = i)) ?_ s4.v (fun G5 H5 s5 hb => ?_) (fun G5 H5 s5 hb => ?_)
          · refine EvT.eq (et_and (c := true) (et_test (ev_eqI ((ev_ixT (R := NR) (n := 0) (xs := List.range w.n) (x := 0) (ev_var rfl r5) ev_int rfl (by rw [List.getElem?_range (by omega)])).imp fun _ _ h => h) (ev_varI rfl))) fun _ => ?_) (Bool.and_true _)
            refine EvT.eq (b := ((List.range w.n).map fun _ => true).all id) (et_B (ev_all (ev_lcL (R := NR) (ei_tup (R := NR) (xs := List.range w.n) (ev_var rfl r5)) (by rw [List.length_range]; omega) fun j x v G6 H6 hx s6 rv => ?_))) (by rw [List.all_map]; exact List.all_eq_true.mpr fun _ _ => rfl)
            obtain rfl := rv
            have hx' : x < w.n := List.mem_range.mp (List.mem_of_getElem? hx)
            have ix : ∀ y, y < w.n → ((List.range w.n).map fun _ => 2 ^ w.n - 1)[y]? = some (2 ^ w.n - 1) := fun y hy => by rw [List.getElem?_map, List.getElem?_range hy]; rfl
            have r7 := Mono.up s6.g r6
            refine Ev.eq (ev_eqI (i := ((2 ^ w.n - 1 : Nat) : Int)) (j := ((2 ^ w.n - 1 : Nat) : Int)) ((ev_ixL (R := NR) (n := x) (ev_var rfl r7) (ev_varI rfl) rfl (ix x hx')).imp fun _ _ h => h) ((ev_ixL (R := NR) (n := i) (ev_var rfl r7) (ev_varI rfl) rfl (ix i hi')).imp fun _ _ h => h)) (decide_eq_true rfl)
          · have i0 : i = 0 := by have := of_decide_eq_true hb; omega
            subst i0
            rw [if_pos rfl] at pt4
            have := paired_len pt4
            obtain rfl : ts = [] := List.eq_nil_of_length_eq_zero this
            have gn5 := s5.n a _ et4 gn4
            refine s_append1 (R := Tp NR) (y := List.range w.n) rfl (s5.h _ _ et4) (by decide) (ev_var rfl (Mono.up s5.g r5)) s5.v fun v G6 H6 s6 r8 => ?_
            have S6 := (S4.trans s5).trans s6
            have gn6 := s6.n a _ (s5.h _ _ et4) gn5
            exact ⟨G6, e2.trans ((s3.g.trans s4.g).trans (s5.g.trans s6.g)), s6.v.mut gn6, S6.mut ha0 gn6, gn6, Mono.up (s5.g.trans s6.g) r6, ⟨_, upd_same, by rw [if_neg (by omega)]; exact .cons r8 .nil⟩, _, _, _, rfl⟩
          · have i0 : i ≠ 0 := by have := of_decide_eq_false hb; omega
            rw [if_neg i0] at pt4
            exact ⟨G5, e2.trans ((s3.g.trans s4.g).trans s5.g), s5.v, S4.trans s5, s5.n a _ et4 gn4, Mono.up s5.g r6, ⟨_, s5.h _ _ et4, by rw [if_neg (by omega)]; exact paired_imp (fun _ _ => Mono.up (R := Tp NR) s5.g) pt4⟩, _, _, _, rfl⟩
      · rintro σ G' H' e1 e2 ⟨S2, gn, r3, ⟨ts, et, pt⟩, c, d, e, rfl⟩
        rw [if_neg (by omega)] at pt
        have S3 := S2.add ha0 gn et
        have rr : Ls (Tp NR) (upd G' a (.lst ts)) (.ref a) [List.range w.n] := ⟨a, ts, rfl, upd_same, paired_imp (fun _ _ => Mono.up (R := Tp NR) (Ex.new gn)) pt⟩
        exact s_ret (R := Tp (Tp NR)) (x := [List.range w.n]) (ev_tupleOf (ev_var rfl rr)) S3.v fun v G3 H3 s3 r => q v G3 H3 (S3.trans s3) r
abbrev N_need_one_head : List Str := ["world", "told"]
abbrev P_need_one_head : List Str := ["world"]
theorem sc_need_one_head : FnScope N_need_one_head P_need_one_head (defScope s_need_one_head) := ⟨rfl, rfl, rfl, by decide +kernel, rfl, by decide +kernel, by decide +kernel⟩
def sp_need_one_head (K : PySem.W.Frag) : Sp := Pu (fun (x : Wd) vs G => WOk x ∧ AC (WR K) x A0 vs G) (fun x G u => Tp NR G u (List.range x.n))
theorem len_need_one_head {K : PySem.W.Frag} {vs : List V} {H : Hp} {Q : VK} {E : XK} (h : sp_need_one_head K vs H Q E) : vs.length = P_need_one_head.length := by
  obtain ⟨G, x, e, ⟨_, a⟩, _⟩ := h
  obtain ⟨_, rfl, _⟩ := ac1 a; rfl
theorem ok_need_one_head {P : Program} {w : World} {K : PySem.W.Frag} {mg : Str → Option Value} {base : Heap} {k : Nat} (T : Tx K mg) (G_heads : Ok P w K mg base k "heads" P_heads (sp_heads K)) : Ok P w K mg base (k + 1) "need_one_head" P_need_one_head (sp_need_one_head K) := by
  obtain ⟨fd_heads, G_heads, B_heads, K_heads⟩ := G_heads
  refine ok_of T.d_need_one_head sc_need_one_head (fun _ _ _ _ _ _ us hl => match us, hl with | [_], _ => rfl) (fun vs H Q E h => ?_) (fun f cdv A outer s H vs Q E hr h => ?_)
  · exact len_need_one_head h
  · refine ⟨_, (pss_cons (ps_set (i := 1) sc_need_one_head.nd rfl (by first | exact Or.inl rfl | exact Or.inr rfl) (pe_call G_heads hr (by rfl) T.g_heads K_heads B_heads .nil pass0 (pa_cons (pv 0) pa_nil)))
      (pss_cons (ps_if (pt_cmpR op_gt (pe_callB call_len_seq (by rfl) T.f_len PySem.boot_len (pa_cons (pv 1) pa_nil)) pe_int (nomark _)) (pss_one ps_never) pss_nil)
      (pss_one (ps_ret (pe_ix ix_tup (pv 1) pe_int (fun _ _ => rfl)))))), ?_⟩
    obtain ⟨G, w, e, ⟨hw, hv⟩, q⟩ := h
    obtain ⟨u, rfl, hu⟩ := ac1 hv
    refine s_set (R := Tp (Tp NR)) (x := [List.range w.n]) (ev_call w (ea_cons (R := WR K) (ev_var rfl hu) ea_nil) (fun vs G' _ h => ⟨hw, h⟩) (fun _ _ h => h)) e fun v G1 H1 s1 r1 => ?_
    refine s_chk (EvT.eq (b := decide ((1 : Int) < (([List.range w.n].length : Nat) : Int))) (et_test (ev_B0 (f := fun i j => decide (j < i)) (ev_lenT (R := Tp NR) (xs := [List.range w.n]) (ev_var rfl r1)) ev_int)) rfl) s1.v fun G2 H2 s2 => ?_
    exact s_ret (R := Tp NR) (x := List.range w.n) (ev_ixT (R := Tp NR) (n := 0) (xs := [List.range w.n]) (ev_var rfl (Mono.up s2.g r1)) ev_int rfl rfl) s2.v fun v G3 H3 s3 r => q v G3 H3 ((s1.trans s2).trans s3) r

end Cy
/-! own lists read; slices; list sums; lists of new lists -/
namespace Cy
open PySem PySem.Spec PyProof.Rows L2 He
section
variable {α β : Type} {K : PySem.W.Frag} {σ : L2.St} {G H : Hp} {te ta tb ti : TE} {tr : TA} {u : TS} {R : Rel α} {S : Rel β} {x y : α} {D : Ends} {i : Nat} {a : Addr} {us : List V} {o : HO} {k : Int} {xs ys : List α}
/-- xs[n], xs an own list -/
theorem ev_ixOwn [Mono R] {n : Nat} {v : V} (hi : σ[i]? = some (some (.ref a))) (ha : H a = some (.lst us)) (hb : Ev tb σ G H IR k) (hk : k = (n : Int)) (hx : us[n]? = some v) (r : R G v x) : Ev (tOp (rIxL K) (tVar i) tb) σ G H R x := fun G1 H1 s Q q =>
  ⟨_, hi, hb G1 H1 s _ fun w G2 H2 s2 r2 => by
    obtain rfl : w = .int k := r2
    exact ⟨a, us, k, v, rfl, rfl, SqL.of (s2.h _ _ (s.h _ _ ha)), by rw [hk]; exact atI_nat hx, q v G2 H2 s2 (Mono.up (s.g.trans s2.g) r)⟩⟩
theorem ev_lenOwn (hi : σ[i]? = some (some (.ref a))) (ha : H a = some (.lst us)) : Ev (tCB (qLen K) (tCons (tVar i) tNil)) σ G H IR (us.length : Int) := fun G1 H1 s Q q =>
  ⟨_, hi, a, us, rfl, .inl (SqL.of (s.h _ _ ha)), q _ G1 H1 (Stp.refl s.v) rfl⟩
/-! a view with one object less -/
def hd (G : Hp) (a : Addr) : Hp := fun b => if b = a then Option.none else G b
theorem hd_same {G : Hp} {a : Addr} : hd G a a = Option.none := if_pos rfl
theorem hd_ne {G : Hp} {a b : Addr} (h : b ≠ a) : hd G a b = G b := if_neg h
theorem ex_hd {G G' : Hp} {a : Addr} (e : Ex (upd G a o) G') (g : G a = none) : Ex G (hd G' a) := fun b v h => by
  have ne : b ≠ a := ne_of_none h g
  rw [hd_ne ne]
  exact e b v (by rw [upd_ne ne]; exact h)
theorem ex_hdl {G H : Hp} {a : Addr} (e : Ex G H) : Ex (hd G a) H := fun b v h => by
  by_cases q : b = a
  · rw [q, hd_same] at h; cases h
  · rw [hd_ne q] at h; exact e b v h
theorem Stp.hide {G' H' : Hp} (s : Stp (upd G a o) H G' H') (g : G a = none) : Stp G H (hd G' a) H' :=
  ⟨s.h, ex_hd s.g g, ex_hdl s.v, fun b v hb gb => by
    by_cases q : b = a
    · rw [q, hd_same]
    · rw [hd_ne q]; exact s.n b v hb (by rw [upd_ne q]; exact gb)⟩
/-- the view with an own object more, all along -/
theorem Stp.with_ {G' H' : Hp} (s : Stp G H G' H') (ha : H a = some o) : Stp (upd G a o) H (upd G' a o) H' :=
  ⟨s.h, s.g.both, s.v.add (s.h _ _ ha), fun b v hb gb => by
    by_cases q : b = a
    · rw [q, upd_same] at gb; cases gb
    · rw [upd_ne q] at gb ⊢; exact s.n b v hb gb⟩
/-- a call that looks at an own object -/
theorem ev_callO {δ : Type} {A : δ → List V → Hp → Prop} {post : δ → Hp → V → Prop} {B : List V → Hp → Prop} {E : XK} (d : δ) (ga : G a = none) (ha : H a = some o) (h : EvA tr σ G H B) (hA : ∀ vs G', Ex G G' → G' a = none → B vs G' → A d vs (upd G' a o)) (hp : ∀ G' u, post d G' u → R (hd G' a) u x) : Ev (tCall (Pu A post) [] E tr) σ G H R x :=
  fun G1 H1 s Q q => h G1 H1 s _ fun vs G2 H2 s2 b => by
    have S := s.trans s2
    have ha2 := S.h _ _ ha
    have ga2 := S.n a _ ha ga
    exact ⟨upd G2 a o, d, S.v.add ha2, by rw [List.append_nil]; exact hA vs G2 S.g ga2 b, fun u G3 H3 s3 p => q u _ H3 (s2.trans (s3.hide ga2)) (hp G3 u p)⟩
/-! lists put together -/
theorem ev_cat [Mono R] (ha : Ev ta σ G H (Ls R) xs) (hb : Ev tb σ G H (Ls R) ys) (hz : xs.length + ys.length ≤ 100000) : Ev (tOp rCat ta tb) σ G H (Ls R) (xs ++ ys) :=
  ev_op ha hb fun G' v w _ ⟨a, us, e1, h1, p1⟩ ⟨b, ws, e2, h2, p2⟩ G1 H1 eg v1 Q q => by
    refine ⟨a, b, us, ws, e1, e2, v1 _ _ (eg _ _ h1), v1 _ _ (eg _ _ h2), small_le (by rw [paired_len p1, paired_len p2]; exact hz), fun p hp => ?_⟩
    have ee := eg.trans (Ex.new (o := HO.lst (us ++ ws)) (v1.none hp))
    exact q (.ref p) _ _ (Stp.new v1 hp) ⟨p, us ++ ws, rfl, upd_same, paired_app (paired_imp (fun _ _ => Mono.up ee) p1) (paired_imp (fun _ _ => Mono.up ee) p2)⟩
theorem paired_rep {α β : Type} {F : α → β → Prop} {l : List α} {x : β} (h : Paired F l [x]) : ∀ n : Nat, Paired F (List.replicate n l).flatten (List.replicate n x)
  | 0 => .nil
  | n + 1 => by
    rw [List.replicate_succ, List.flatten_cons, List.replicate_succ]
    exact paired_app h (paired_rep h n)
theorem ev_rep [Mono R] (ha : Ev ta σ G H R x) (hb : Ev tb σ G H IR k) (h0 : 0 ≤ k) (h1 : k ≤ 100000) : Ev (tOp rRep (tLst (tCons ta tNil)) tb) σ G H (Ls R) (List.replicate k.toNat x) :=
  ev_op (ev_lst (xs := [x]) (.cons ha .nil) (by show 1 ≤ 100000; decide)) hb fun G' v w _ ⟨a, us, e1, h1, p1⟩ e2 G1 H1 eg v1 Q q => by
    refine ⟨a, k, us, e1, e2, v1 _ _ (eg _ _ h1), by omega, by omega, small_le (by rw [paired_len p1]; show 1 * k.toNat ≤ 100000; omega), fun p hp => ?_⟩
    have ee := eg.trans (Ex.new (o := HO.lst (List.replicate k.toNat us).flatten) (v1.none hp))
    refine q (.ref p) _ _ (Stp.new v1 hp) ⟨p, _, rfl, upd_same, ?_⟩
    exact paired_rep (paired_imp (fun _ _ => Mono.up (R := R) ee) p1) _
/-! slices -/
def cutL {α : Type} (xs : List α) (lo hi : Option Int) : List α := (xs.drop (HT.sIx xs.length 0 lo)).take (HT.sIx xs.length xs.length hi - HT.sIx xs.length 0 lo)
theorem paired_drop {α β : Type} {F : α → β → Prop} : ∀ {l : List α} {l' : List β} (n : Nat), Paired F l l' → Paired F (l.drop n) (l'.drop n)
  | _, _, 0, h => h
  | _, _, n + 1, .nil => .nil
  | _, _, n + 1, .cons a r => paired_drop n r
theorem paired_take {α β : Type} {F : α → β → Prop} : ∀ {l : List α} {l' : List β} (n : Nat), Paired F l l' → Paired F (l.take n) (l'.take n)
  | _, _, 0, h => by rw [List.take_zero, List.take_zero]; exact .nil
  | _, _, n + 1, .nil => .nil
  | _, _, n + 1, .cons a r => .cons a (paired_take n r)
variable {tl th : TO} {lo hi : Option Int}
theorem eo_none : EvO tNoPart σ G H none := fun G1 H1 s Q q => q G1 H1 (Stp.refl s.v)
theorem eo_some (h : Ev te σ G H IR k) : EvO (tPart te) σ G H (some k) := fun G1 H1 s Q q => h G1 H1 s _ fun v G2 H2 s2 r => ⟨k, r, q G2 H2 s2⟩
theorem ev_sl [Mono R] (ha : Ev ta σ G H (Ls R) xs) (hl : EvO tl σ G H lo) (hh : EvO th σ G H hi) : Ev (tSl (rSlL K) ta tl th) σ G H (Ls R) (cutL xs lo hi) := fun G1 H1 s Q q =>
  ha G1 H1 s _ fun v G2 H2 s2 ⟨a, us, e1, h1, p1⟩ => hl G2 H2 (s.trans s2) _ fun G3 H3 s3 => hh G3 H3 (s.trans (s2.trans s3)) _ fun G4 H4 s4 => by
    have e34 := s3.g.trans s4.g
    refine ⟨a, us, e1, SqL.of (s4.v _ _ (e34 _ _ h1)), fun p hp => ?_⟩
    have ee := e34.trans (Ex.new (o := HO.lst (cutV us lo hi)) (s4.v.none hp))
    refine q (.ref p) _ _ ((s2.trans (s3.trans s4)).trans (Stp.new s4.v hp)) ⟨p, _, rfl, upd_same, ?_⟩
    have p2 := paired_imp (fun _ _ => Mono.up (R := R) ee) p1
    unfold cutV cutL
    rw [← paired_len p1]
    exact paired_take _ (paired_drop _ p2)
theorem ev_rev [Mono R] (ha : Ev ta σ G H (Ls R) xs) : Ev (tRevL K ta) σ G H (Ls R) xs.reverse := fun G1 H1 s Q q =>
  ha G1 H1 s _ fun v G2 H2 s2 ⟨a, us, e1, h1, p1⟩ => ⟨a, us, e1, SqL.of (s2.v _ _ h1), fun p hp => by
    refine q (.ref p) _ _ (s2.trans (Stp.new s2.v hp)) ⟨p, _, rfl, upd_same, ?_⟩
    have p2 := paired_imp (fun _ _ => Mono.up (R := R) (Ex.new (o := HO.lst us.reverse) (s2.v.none hp))) p1
    have : ∀ {F : V → α → Prop} {l : List V} {l' : List α}, Paired F l l' → Paired F l.reverse l'.reverse := fun {F l l'} h => by
      induction h with
      | nil => exact .nil
      | cons a r ih => rw [List.reverse_cons, List.reverse_cons]; exact paired_app ih (.cons a .nil)
    exact this p2⟩
theorem cut_get {α : Type} {xs : List α} {b c : Nat} (hb : b ≤ xs.length) (hc : c ≤ xs.length) {lo hi : Option Int} (e1 : HT.sIx xs.length 0 lo = b) (e2 : HT.sIx xs.length xs.length hi = c) (i : Nat) (h : b + i < c) : (cutL xs lo hi)[i]? = xs[b + i]? := by
  unfold cutL
  rw [e1, e2, List.getElem?_take, if_pos (by omega), List.getElem?_drop]
theorem cut_len {α : Type} {xs : List α} {b c : Nat} (hb : b ≤ xs.length) (hc : c ≤ xs.length) {lo hi : Option Int} (e1 : HT.sIx xs.length 0 lo = b) (e2 : HT.sIx xs.length xs.length hi = c) : (cutL xs lo hi).length = c - b := by
  unfold cutL
  rw [e1, e2, List.length_take, List.length_drop]
  omega
theorem cut_to {α : Type} (xs : List α) (k : Nat) (h : k ≤ xs.length) : cutL xs none (some (k : Int)) = xs.take k := by
  unfold cutL
  rw [HT.sIx_nat, HT.sIx_none, Nat.min_eq_left h]; rfl
theorem cut_from {α : Type} (xs : List α) (k : Nat) (h : k ≤ xs.length) : cutL xs (some (k : Int)) none = xs.drop k := by
  unfold cutL
  rw [HT.sIx_nat, HT.sIx_none, Nat.min_eq_left h, List.take_of_length_le (by rw [List.length_drop]; exact Nat.le_refl _)]
/-- [1:-1] -/
theorem cut_mid {α : Type} (xs : List α) (h : 2 ≤ xs.length) : cutL xs (some 1) (some (-1)) = (xs.drop 1).take (xs.length - 2) := by
  unfold cutL
  have e1 : HT.sIx xs.length 0 (some 1) = 1 := by
    show min (1 : Nat) xs.length = 1
    omega
  have e2 : HT.sIx xs.length xs.length (some (-1)) = xs.length - 1 := by
    show (if (-1 : Int) < 0 then ((-1 : Int) + (xs.length : Int)).toNat else min (-1 : Int).toNat xs.length) = _
    rw [if_pos (by decide)]; omega
  rw [e1, e2, show xs.length - 1 - 1 = xs.length - 2 from by omega]
end
/-! [[] for _ in range(n)]: n own lists -/
structure LsI (G0 H0 : Hp) (Dl : Addr) (i : Nat) (G H : Hp) (bs : List Addr) : Prop where
  s : Stp G0 H0 G H
  d : H Dl = some (.lst (bs.map V.ref))
  l : bs.length = i
  nd : (Dl :: bs).Nodup
  b : ∀ b, b ∈ bs → H b = some (.lst []) ∧ H0 b = none ∧ G b = none
  g : G Dl = none
section
variable {K : PySem.W.Frag} {σ : L2.St} {G H : Hp} {wi : TI} {j n : Nat} {W : Nat → Hp → V → Prop}
theorem s_lists {Q : VK} (h : EvI wi σ G H n W) (e : Ex G H) (hz : n ≤ 1000)
    (q : ∀ G1 H1 Dl bs, Stp G H G1 H1 → H Dl = none → LsI G H Dl n G1 H1 bs → Q (.ref Dl) H1) : tLc wi (gName j) tYes (tLst tNil) [j] σ H Q :=
  h G H (Stp.refl e) _ fun J G1 H1 GH Y s1 w hG hY D hD => lc_it w (fun i H' => ∃ G' bs, LsI G1 H1 D i G' H' bs)
    ⟨G1, [], (Stp.refl s1.v).own hD, upd_same, rfl, by simp, (fun b hb => by cases hb), s1.v.none hD⟩
    (fun i H' _ ⟨G', us, I⟩ => hG H' (I.s.g.trans I.s.v))
    (fun i v H' H'' hi ⟨G', bs, I⟩ y => by
      obtain ⟨G2, s2, w2⟩ := hY i G' H' v H'' hi I.s.g I.s.v y
      refine ⟨wipe1 _ _ _, iteT (B := ∃ G' bs, LsI G1 H1 D (i + 1) G' H'' bs) ?_⟩
      refine ⟨Nat.zero_le _, fun b hb => ?_⟩
      have d2 := s2.h _ _ I.d
      have nb : D ≠ b := fun z => by rw [z, hb] at d2; cases d2
      have nbs : ∀ x, x ∈ bs → x ≠ b := fun x hx z => by have := s2.h _ _ (I.b x hx).1; rw [z, hb] at this; cases this
      refine ⟨_, by rw [upd_ne nb]; exact d2, small_lt (by rw [List.length_map, I.l]; omega), G2, bs ++ [b], ?_⟩
      have S := I.s.trans s2
      have h1b : H1 b = none := S.h.none hb
      have g2D := s2.n D _ I.d I.g
      refine ⟨(S.own hb).mut hD g2D, ?_, by rw [List.length_append, I.l]; rfl, ?_, ?_, g2D⟩
      · rw [upd_same, List.map_append]; rfl
      · have nd := I.nd
        rw [List.nodup_cons] at nd ⊢
        refine ⟨fun z => ?_, ?_⟩
        · rcases List.mem_append.mp z with z | z
          · exact nd.1 z
          · exact nb (List.mem_singleton.mp z)
        · rw [List.nodup_append]
          exact ⟨nd.2, by simp, fun x hx y hy => by rw [List.mem_singleton.mp hy]; exact nbs x hx⟩
      · intro x hx
        rcases List.mem_append.mp hx with z | z
        · obtain ⟨x1, x2, x3⟩ := I.b x z
          have xD : x ≠ D := fun e => (List.nodup_cons.mp I.nd).1 (e ▸ z)
          exact ⟨by rw [upd_ne xD, upd_ne (nbs x z)]; exact s2.h _ _ x1, x2, s2.n x _ x1 x3⟩
        · rw [(List.mem_singleton.mp z)]
          exact ⟨by rw [upd_ne nb.symm, upd_same], h1b, s2.v.none hb⟩)
    (fun H' ⟨G', bs, I⟩ => q G' H' D bs (s1.trans I.s) (s1.h.none hD) ⟨s1.trans I.s, I.d, I.l, I.nd, fun b hb => ⟨(I.b b hb).1, s1.h.none (I.b b hb).2.1, (I.b b hb).2.2⟩, I.g⟩)
end
end Cy
namespace Cy
open PySem PySem.Spec PyProof.Rows L2 He
local macro_rules | `(tactic| tm_at "ex") => `(tactic| first
  | exact Ex.refl _ | assumption | exact Stp.g (by assumption) | exact Stp.v (by assumption)
  | (refine Ex.trans (Stp.g (by assumption)) ?_; tm_at "ex")
  | (refine Ex.trans (by assumption) ?_; tm_at "ex"))
local macro_rules | `(tactic| tm_at "rl") => `(tactic| first
  | exact rfl | assumption | (apply Mono.up; rotate_left; assumption; tm_at "ex"))
local macro_rules | `(tactic| tm_at "sc") => `(tactic| first | assumption | omega)
local macro_rules | `(tactic| tm_at "ev") => `(tactic| first
  | exact ev_int | exact ev_bl | assumption
  | (apply ev_varI; exact rfl)
  | (apply ev_var; exact rfl; tm_at "rl")
  | (apply ev_I0; tm_at "ev"; tm_at "ev")
  | (apply ev_B0; tm_at "ev"; tm_at "ev")
  | (apply ev_I; tm_at "ev"; tm_at "ev"; tm_at "sc")
  | (apply ev_un; tm_at "ev")
  | (apply ev_eqI; tm_at "ev"; tm_at "ev")
  | (apply ev_neI; tm_at "ev"; tm_at "ev")
  | (apply ev_fstI; tm_at "ev")
  | (apply ev_sndI; tm_at "ev")
  | (apply ev_max2; tm_at "ev"; tm_at "ev")
  | (apply ev_min2; tm_at "ev"; tm_at "ev")
  | (apply ev_abs; tm_at "ev")
  | (apply ev_int1; tm_at "ev")
  | (apply ev_bits; tm_at "ev")
  | (apply ev_gcd; tm_at "ev"; tm_at "ev")
  | (apply ev_len; tm_at "ev")
  | (apply ev_tup2; tm_at "ev"; tm_at "ev"))
local macro_rules | `(tactic| tm_at "ea") => `(tactic| first
  | exact ea_nil
  | (apply ea_consI; tm_at "ev"; tm_at "ea")
  | (apply ea_cons; tm_at "ev"; tm_at "ea"))
local macro_rules | `(tactic| tm_at "et") => `(tactic| first
  | (apply et_test; tm_at "ev")
  | (apply et_B; tm_at "ev")
  | (apply et_not; tm_at "et"))

open Cr
theorem upd_self {H : Hp} {a : Addr} {o : HO} (hao : H a = some o) : upd H a o = H := by
  funext b
  by_cases e : b = a
  · rw [e, upd_same, hao]
  · rw [upd_ne e]
theorem s_asg {α : Type} {R : Rel α} {x : α} {σ : L2.St} {G H : Hp} {te : TE} {u : TS} {D : Ends} {g : TG} (h : Ev te σ G H R x) (e : Ex G H) (k : ∀ v G' H', Stp G H G' H' → R G' v x → g v σ H' (fun σ H => u D σ H)) : tSeq (tAsg te g) u D σ H := h.run e k
theorem set_self {α : Type} {us : List α} {i : Nat} {v : α} (h : us[i]? = some v) : us.set i v = us := by
  obtain ⟨hi, e⟩ := (List.getElem?_eq_some_iff.mp h)
  rw [← e]; exact List.set_getElem_self hi
abbrev N__solving_pivot : List Str := ["work", "at", "k"]
abbrev P__solving_pivot : List Str := ["work", "at"]
theorem sc__solving_pivot : FnScope N__solving_pivot P__solving_pivot (defScope s__solving_pivot) := ⟨rfl, rfl, rfl, by decide +kernel, rfl, by decide +kernel, by decide +kernel⟩
def sp__solving_pivot (K : PySem.W.Frag) : Sp := Pu (fun (x : Mx × Nat) vs G => (x.1.length ≤ 1000 ∧ ∃ r y, x.1[x.2]? = some r ∧ r[x.2]? = some y ∧ y ≠ 0) ∧ AC (Ls (Ls IR)) x.1 (AC NR x.2 A0) vs G) (fun x G u => u = .int (at2 x.1 x.2 x.2))
theorem len__solving_pivot {K : PySem.W.Frag} {vs : List V} {H : Hp} {Q : VK} {E : XK} (h : sp__solving_pivot K vs H Q E) : vs.length = P__solving_pivot.length := by
  obtain ⟨G, x, e, ⟨_, a⟩, _⟩ := h
  obtain ⟨_, _, rfl, _⟩ := ac2 a; rfl
theorem ok__solving_pivot {P : Program} {w : World} {K : PySem.W.Frag} {mg : Str → Option Value} {base : Heap} {k : Nat} (T : Tx K mg)  : Ok P w K mg base (k + 1) "_solving_pivot" P__solving_pivot (sp__solving_pivot K) := by
  refine ok_of T.d__solving_pivot sc__solving_pivot (fun _ _ _ _ _ _ us hl => match us, hl with | [_, _], _ => rfl) (fun vs H Q E h => ?_) (fun f cdv A outer s H vs Q E hr h => ?_)
  · exact len__solving_pivot h
  · refine ⟨_, (pss_cons (ps_for PassesOwn.never rfl (pi_range2 (by rfl) T.f_range (pa_cons (pv 1) (pa_cons (pe_callB call_len_seq (by rfl) T.f_len PySem.boot_len (pa_cons (pv 0) pa_nil)) pa_nil))) (pg_name (i := 2) sc__solving_pivot.nd rfl (by first | exact Or.inl rfl | exact Or.inr rfl)) (pss_one (ps_if (pt_cmpR op_ne (pe_ix ix_list (pe_ix ix_list (pv 0) (pv 2) (fun _ _ => rfl)) (pv 1) (fun _ _ => rfl)) pe_int (nomark _)) (pss_cons (ps_asg (pe_tup (pa_cons (pe_ix ix_list (pv 0) (pv 2) (fun _ _ => rfl)) (pa_cons (pe_ix ix_list (pv 0) (pv 1) (fun _ _ => rfl)) pa_nil))) (pg_tup (by rfl) (pgs_cons (pg_sub (pv 0) (pv 1) set_list) (pgs_cons (pg_sub (pv 0) (pv 2) set_list) pgs_nil))))
      (pss_one (ps_ret (pe_ix ix_list (pe_ix ix_list (pv 0) (pv 1) (fun _ _ => rfl)) (pv 1) (fun _ _ => rfl))))) pss_nil)))
      (pss_one (ps_ret pe_int))), ?_⟩
    obtain ⟨G, ⟨M, at_⟩, e, ⟨⟨hl, r, y, hr, hy, y0⟩, hv⟩, q⟩ := h
    dsimp only at hl hr hy hv q
    obtain ⟨u, v, rfl, hu, rfl⟩ := ac2 hv
    have lt : at_ < M.length := (List.getElem?_eq_some_iff.mp hr).1
    have ey : at2 M at_ at_ = y := by
      show (M.getD at_ []).getD at_ 0 = y
      rw [getD_of hr, getD_of hy]
    rw [ey] at q
    obtain ⟨a, us, rfl, ha, pu⟩ := hu
    obtain ⟨w, hw, rw_⟩ := paired_get1 pu hr
    have atl : at_ < us.length := by rw [paired_len pu]; exact lt
    have hm : Ls (Ls IR) G (.ref a) M := ⟨a, us, rfl, ha, pu⟩
    have hvr : Ls VR G (.ref a) us := ⟨a, us, rfl, ha, by
      clear hw rw_ pu hm ha atl
      induction us with
      | nil => exact .nil
      | cons a r ih => exact .cons rfl ih⟩
    refine s_for (I := fun i σ G' H' => i = 0 ∧ Stp G H G' H' ∧ ∃ c, σ = [some (.ref a), some (.int (at_ : Int)), c])
      (ei_range2 (a := (at_ : Int)) (b := (M.length : Int)) (ea_consI (ev_varI rfl) (ea_consI (ev_lenL (R := Ls IR) (ev_var rfl hm)) ea_nil)) ⟨by omega, by omega, by omega, by omega⟩) e ?_ ?_ ?_
    · exact fun G1 H1 s1 => ⟨rfl, s1, none, rfl⟩
    · rintro i v σ Gp Hq G' H' G1 hi e1 e2 ⟨rfl, S2, c, rfl⟩ s3 rfl
      have S3 := S2.trans s3
      rw [show (at_ : Int) + ((0 : Nat) : Int) = (at_ : Int) by omega]
      refine s_if (b := true) (EvT.eq (et_test (ev_neI (ev_ixL (R := IR) (n := at_) (xs := r) (ev_ixL (R := Ls IR) (n := at_) (ev_var rfl (Mono.up S3.g hm)) (ev_varI rfl) rfl hr) (ev_varI rfl) rfl hy) ev_int)) (by rw [decide_eq_false y0]; rfl)) S3.v (fun G4 H4 s4 _ => ?_) (fun _ _ _ z => by cases z)
      have S4 := S3.trans s4
      refine s_asg (R := P2 VR VR) (x := (w, w)) ?_ S4.v fun v G5 H5 s5 r5 => ?_
      · exact (ev_tup2 (ev_ixL (R := VR) (n := at_) (xs := us) (ev_var rfl (Mono.up S4.g hvr)) (ev_varI rfl) rfl hw) (ev_ixL (R := VR) (n := at_) (xs := us) (ev_var rfl (Mono.up S4.g hvr)) (ev_varI rfl) rfl hw))
      obtain ⟨p, w1, w2, rfl, hp, e1', e2'⟩ := r5
      obtain rfl : w1 = w := e1'
      obtain rfl : w2 = w1 := e2'
      have S5 := S4.trans s5
      have ha5 : H5 a = some (.lst us) := S5.v _ _ (S5.g _ _ ha)
      refine ⟨p, [w2, w2], rfl, SqT.of (s5.v _ _ hp), rfl, w2, [w2], rfl, ?_⟩
      refine ⟨_, rfl, _, rfl, a, us, (at_ : Int), at_, rfl, rfl, ha5, ixN_nat atl, ?_⟩
      rw [set_self hw, upd_self ha5]
      refine ⟨w2, [], rfl, ?_⟩
      refine ⟨_, rfl, _, rfl, a, us, (at_ : Int), at_, rfl, rfl, ha5, ixN_nat atl, ?_⟩
      rw [set_self hw, upd_self ha5]
      refine ⟨rfl, ?_⟩
      refine s_ret (R := IR) (x := y) ?_ S5.v fun v G6 H6 s6 r6 => q v G6 H6 (S5.trans s6) r6
      exact ev_ixL (R := IR) (n := at_) (xs := r) (ev_ixL (R := Ls IR) (n := at_) (ev_var rfl (Mono.up S5.g hm)) (ev_varI rfl) rfl hr) (ev_varI rfl) rfl hy
    · rintro σ G' H' e1 e2 ⟨z, _⟩
      omega
/-! ### the elimination -/
def erow (A : Nat → Nat → Int) (m k i : Nat) : List Int := (List.range (m + 1)).map fun j => mn A k i j
theorem erow_get {A : Nat → Nat → Int} {m k i j : Nat} (h : j ≤ m) : (erow A m k i)[j]? = some (mn A k i j) := by
  unfold erow
  rw [List.getElem?_map, List.getElem?_range (by omega)]; rfl
theorem erow_len {A : Nat → Nat → Int} {m k i : Nat} : (erow A m k i).length = m + 1 := by
  unfold erow; rw [List.length_map, List.length_range]
theorem ext_some {α : Type} {l l' : List α} (hl : l.length = l'.length) (h : ∀ i, i < l.length → ∃ x, l[i]? = some x ∧ l'[i]? = some x) : l = l' := by
  refine List.ext_getElem? fun i => ?_
  by_cases hi : i < l.length
  · obtain ⟨x, a, b⟩ := h i hi
    rw [a, b]
  · rw [List.getElem?_eq_none (by omega), List.getElem?_eq_none (by omega)]
theorem paired_of {α β : Type} {F : α → β → Prop} : ∀ {l : List α} {l' : List β}, l.length = l'.length → (∀ i, i < l.length → ∃ x y, l[i]? = some x ∧ l'[i]? = some y ∧ F x y) → Paired F l l'
  | [], [], _, _ => .nil
  | a :: r, b :: t, hl, h => by
    refine .cons ?_ (paired_of (Nat.succ.inj hl) fun i hi => ?_)
    · obtain ⟨x, y, e1, e2, f⟩ := h 0 (Nat.succ_pos _)
      have e1 := Option.some.inj e1
      have e2 := Option.some.inj e2
      subst e1 e2; exact f
    · exact h (i + 1) (Nat.succ_lt_succ hi)
/-- the rows stand: row i behind lev i steps -/
def WkI (G H : Hp) (a : Addr) (A : Nat → Nat → Int) (m : Nat) (lev : Nat → Nat) : Prop := G a = none ∧ ∃ us, H a = some (.lst us) ∧ us.length = m ∧ ∀ i, i < m → ∃ v, us[i]? = some v ∧ Ls IR G v (erow A m (lev i) i)
theorem WkI.step {G H G' H' : Hp} {a : Addr} {A : Nat → Nat → Int} {m : Nat} {lev : Nat → Nat} (h : WkI G H a A m lev) (s : Stp G H G' H') : WkI G' H' a A m lev := by
  obtain ⟨g, us, e, l, r⟩ := h
  exact ⟨s.n _ _ e g, us, s.h _ _ e, l, fun i hi => by obtain ⟨v, e1, e2⟩ := r i hi; exact ⟨v, e1, Mono.up s.g e2⟩⟩
theorem WkI.lev {G H : Hp} {a : Addr} {A : Nat → Nat → Int} {m : Nat} {lev lev' : Nat → Nat} (h : WkI G H a A m lev) (e : ∀ i, i < m → lev i = lev' i) : WkI G H a A m lev' := by
  obtain ⟨g, us, e1, l, r⟩ := h
  exact ⟨g, us, e1, l, fun i hi => by rw [← e i hi]; exact r i hi⟩
/-- row i read -/
theorem WkI.ev {K : PySem.W.Frag} {σ : L2.St} {G H : Hp} {a : Addr} {A : Nat → Nat → Int} {m : Nat} {lev : Nat → Nat} {x i : Nat} {tb : TE} (h : WkI G H a A m lev) (hx : σ[x]? = some (some (.ref a))) (hb : Ev tb σ G H NR i) (hi : i < m) : Ev (tOp (rIxL K) (tVar x) tb) σ G H (Ls IR) (erow A m (lev i) i) := by
  obtain ⟨g, us, e1, l, r⟩ := h
  obtain ⟨v, ev, rv⟩ := r i hi
  exact ev_ixOwn hx e1 (hb.imp (S := IR) fun _ _ h => h) rfl ev rv
/-- row i stored -/
theorem WkI.put {G H : Hp} {a : Addr} {A : Nat → Nat → Int} {m k : Nat} {lev : Nat → Nat} {v : V} {i : Nat} (h : WkI G H a A m lev) (hi : i < m) (r : Ls IR G v (erow A m k i)) : ∃ us, H a = some (.lst us) ∧ i < us.length ∧ WkI G (upd H a (.lst (us.set i v))) a A m (fun j => if j = i then k else lev j) := by
  obtain ⟨g, us, e1, l, rr⟩ := h
  refine ⟨us, e1, by omega, g, _, upd_same, by rw [List.length_set, l], fun j hj => ?_⟩
  by_cases e : j = i
  · subst e
    exact ⟨v, by rw [List.getElem?_set_self (by omega)], by dsimp only; rw [if_pos rfl]; exact r⟩
  · obtain ⟨w, ew, rw_⟩ := rr j hj
    exact ⟨w, by rw [List.getElem?_set_ne (fun z => e z.symm)]; exact ew, by dsimp only; rw [if_neg e]; exact rw_⟩

end Cy
/-! lists that are new -/
namespace Cy
open PySem PySem.Spec PyProof.Rows L2 He
section
variable {α β γ : Type} {K : PySem.W.Frag} {σ : L2.St} {G H : Hp} {te tl ti ta tb : TE} {tt : TT} {tr : TA} {g : TG} {wi : TI} {u : TS} {D : Ends} {R : Rel α} {S : Rel β} {U : Rel γ} {n : Nat} {W W' : Nat → Hp → V → Prop} {i : Nat} {k : Int} {y : β} {x : α} {a : Addr} {us : List V}
def EvN (te : TE) (σ : L2.St) (G H : Hp) (S : Rel β) (ys : List β) : Prop := ∀ G1 H1, Stp G H G1 H1 → ∀ Q : VK, (∀ p us G2 H2, LcI G1 H1 p S ys G2 H2 us → H1 p = none → Q (.ref p) H2) → te σ H1 Q
theorem EvN.ev [Mono S] {ys : List β} (h : EvN te σ G H S ys) : Ev te σ G H (Ls S) ys := fun G1 H1 s Q q => h G1 H1 s Q fun p us G2 H2 I h0 => by
  obtain ⟨s2, r⟩ := I.done h0
  exact q (.ref p) _ H2 s2 r
theorem EvI.imp (h : EvI wi σ G H n W) (f : ∀ i G v, i < n → W i G v → W' i G v) : EvI wi σ G H n W' := fun G1 H1 s R k => h G1 H1 s R fun J G2 H2 GH Y s2 w hG hY => k J G2 H2 GH Y s2 w hG fun i G' H' v H'' hi e1 e2 y => by
  obtain ⟨G'', a, b⟩ := hY i G' H' v H'' hi e1 e2 y
  exact ⟨G'', a, f i _ _ hi b⟩
theorem Ev.ofV [Mono R] {v : V} (h : Ev te σ G H VR v) (r : R G v x) : Ev te σ G H R x := fun G1 H1 s Q q => h G1 H1 s Q fun w G2 H2 s2 e => by
  obtain rfl : w = v := e
  exact q w G2 H2 s2 (Mono.up (s.g.trans s2.g) r)
theorem en_lc [Mono S] {vs : List Nat} (ys : Nat → List β) (h : EvI wi σ G H n W) (hz : ∀ i, i < n → (ys i).length < 100000) (h0 : ys 0 = [])
    (hg : ∀ (i : Nat) v G' H' (Q : L2.St → Hp → Prop), i < n → Stp G H G' H' → W i G' v → (∀ σ2 o, wipe σ2 vs = wipe σ vs → EvT tt σ2 G' H' o.isSome → (∀ y, o = some y → Ev te σ2 G' H' S y) → ys (i + 1) = ys i ++ o.toList → Q σ2 H') → g v (wipe σ vs) H' Q) :
    EvN (tLc wi g tt te vs) σ G H S (ys n) := fun G0 H0 s0 Q q =>
  h G0 H0 s0 _ fun J G1 H1 GH Y s1 w hG hY D hD => lc_it w (fun i H' => ∃ G' us, LcI G1 H1 D S (ys i) G' H' us) ⟨G1, [], by rw [h0]; exact LcI.start s1.v hD⟩
    (fun i H' _ ⟨G', us, I⟩ => hG H' (I.s.g.trans I.s.v))
    (fun i v H' H'' hi ⟨G', us, I⟩ y => by
      obtain ⟨G2, s2, w2⟩ := hY i G' H' v H'' hi I.s.g I.s.v y
      have I2 := I.same s2
      refine hg i v G2 H'' _ hi ((s0.trans s1).trans (I.s.trans s2)) w2 fun σ2 o hw ht he hy => lc_turn hD I2 hw ht he (hz i hi) fun G3 H3 us' I3 => ?_
      refine ⟨G3, us', ?_⟩
      rw [hy]
      exact I3)
    (fun H' ⟨G', us, I⟩ => q D us G' H' ⟨s1.trans I.s, I.d, I.g, I.p⟩ (s1.h.none hD))
theorem en_lc0 [Mono S] {j : Nat} {f : Nat → β} (h : EvI wi σ G H n W) (hz : n ≤ 100000)
    (he : ∀ (i : Nat) v G' H', i < n → Stp G H G' H' → W i G' v → Ev te ((wipe σ [j]).set j (some v)) G' H' S (f i)) : EvN (tLc wi (gName j) tYes te [j]) σ G H S ((List.range n).map f) :=
  en_lc (fun i => (List.range i).map f) h (fun i hi => by rw [List.length_map, List.length_range]; omega) rfl fun i v G' H' Q hi s w k => k _ (some (f i)) (wipe1 _ _ _) et_yes (fun y hy => by cases hy; exact he i v G' H' hi s w) (by
    rw [List.range_succ, List.map_append]; rfl)
theorem en_lcL [Mono S] {j : Nat} {xs : List α} {f : α → β} (h : EvI wi σ G H xs.length (fun i G v => ∃ y, xs[i]? = some y ∧ R G v y)) (hz : xs.length ≤ 100000)
    (he : ∀ (i : Nat) x v G' H', xs[i]? = some x → Stp G H G' H' → R G' v x → Ev te ((wipe σ [j]).set j (some v)) G' H' S (f x)) : EvN (tLc wi (gName j) tYes te [j]) σ G H S (xs.map f) := by
  have z := en_lc (S := S) (vs := [j]) (g := gName j) (tt := tYes) (te := te) (fun i => (xs.take i).map f) h (fun i hi => by rw [List.length_map, List.length_take]; omega) rfl fun i v G' H' Q hi s ⟨x, hx, r⟩ k => k _ (some (f x)) (wipe1 _ _ _) et_yes (fun y hy => by cases hy; exact he i x v G' H' hx s r) (by
    rw [take_more hx, List.map_append]; rfl)
  rw [List.take_length] at z
  exact z
theorem en_lcP [Mono S] {a b : Nat} (hab : a ≠ b) {f : Nat → β} {U : Rel γ} {T : Rel α} {px : Nat → γ × α} (h : EvI wi σ G H n (fun i G v => P2 U T G v (px i))) (hz : n ≤ 100000)
    (he : ∀ (i : Nat) u w G' H', i < n → Stp G H G' H' → U G' u (px i).1 → T G' w (px i).2 → Ev te (((wipe σ [a, b]).set a (some u)).set b (some w)) G' H' S (f i)) : EvN (tLc wi (gTup K 2 (gCons (gName a) (gCons (gName b) gNil))) tYes te [a, b]) σ G H S ((List.range n).map f) :=
  en_lc (fun i => (List.range i).map f) h (fun i hi => by rw [List.length_map, List.length_range]; omega) rfl fun i v G' H' Q hi s w k => g_pair s.v w fun u x r1 r2 => k _ (some (f i)) (by
    show ((((((σ.set b none).set a none).set a (some u)).set b (some x)).set b none).set a none) = (σ.set b none).set a none
    rw [List.set_set, List.set_set, List.set_comm _ _ hab, List.set_set, List.set_set]) et_yes (fun y hy => by cases hy; exact he i u x G' H' hi s r1 r2) (by rw [List.range_succ, List.map_append]; rfl)
/-- [e] * k -/
theorem en_rep [Mono S] (ha : Ev ta σ G H S y) (hb : Ev tb σ G H IR k) (h0 : 0 ≤ k) (h1 : k ≤ 100000) : EvN (tOp rRep (tLst (tCons ta tNil)) tb) σ G H S (List.replicate k.toNat y) := fun G1 H1 s Q q =>
  ev_lst (xs := [y]) (.cons ha .nil) (by show 1 ≤ 100000; decide) G1 H1 s _ fun v G2 H2 s2 ⟨a, us, e1, h, p⟩ => hb G2 H2 (s.trans s2) _ fun w G3 H3 s3 e2 => by
    refine ⟨a, k, us, e1, e2, s3.v _ _ (s3.g _ _ h), by omega, by omega, small_le (by rw [paired_len p]; show 1 * k.toNat ≤ 100000; omega), fun p' hp => ?_⟩
    have S23 := s2.trans s3
    exact q p' _ G3 _ ⟨S23.own hp, upd_same, s3.v.none hp, paired_rep (paired_imp (fun _ _ => Mono.up s3.g) p) _⟩ (S23.h.none hp)
/-- list(xs) -/
theorem en_listOf [Mono R] {xs : List α} (ha : Ev ta σ G H (Sq R) xs) : EvN (tCB (qList K) (tCons ta tNil)) σ G H R xs := fun G1 H1 s Q q =>
  ha G1 H1 s _ fun v G2 H2 s2 r => by
    rcases r with ⟨a, us, rfl, h, p⟩ | ⟨a, us, rfl, h, p⟩
    · exact ⟨a, us, rfl, .inl (SqL.of (s2.v _ _ h)), fun l hl => q l us G2 _ ⟨s2.own hl, upd_same, s2.v.none hl, p⟩ (s2.h.none hl)⟩
    · exact ⟨a, us, rfl, .inr (SqT.of (s2.v _ _ h)), fun l hl => q l us G2 _ ⟨s2.own hl, upd_same, s2.v.none hl, p⟩ (s2.h.none hl)⟩
/-- [e, ..] -/
theorem en_lst [Mono S] {tr : TA} {ys : List β} (h : AL S σ G H tr ys) (hl : ys.length ≤ 100000) : EvN (tLst tr) σ G H S ys := fun G1 H1 s Q q =>
  h.ev G1 H1 s _ fun vs G2 H2 s2 p => ⟨small_le (by rw [paired_len p]; exact hl), fun a ha => q a vs G2 _ ⟨s2.own ha, upd_same, s2.v.none ha, p⟩ (s2.h.none ha)⟩
theorem vr_self (G : Hp) : ∀ us : List V, Paired (VR G) us us
  | [] => .nil
  | _ :: r => .cons rfl (vr_self G r)
/-- x = a new list -/
theorem s_setN {ys : List β} (h : EvN te σ G H S ys) (e : Ex G H) (k : ∀ p us G' H', LcI G H p S ys G' H' us → H p = none → u D (σ.set i (some (.ref p))) H') : tSeq (tAsg te (gName i)) u D σ H := h G H (Stp.refl e) _ fun p us G' H' I h0 => k p us G' H' I h0
theorem s_setLists {j : Nat} (h : EvI wi σ G H n W) (e : Ex G H) (hz : n ≤ 1000) (q : ∀ G1 H1 Dl bs, Stp G H G1 H1 → H Dl = none → LsI G H Dl n G1 H1 bs → u D (σ.set i (some (.ref Dl))) H1) : tSeq (tAsg (tLc wi (gName j) tYes (tLst tNil) [j]) (gName i)) u D σ H :=
  s_lists (j := j) (Q := fun v H => u D (σ.set i (some v)) H) h e hz fun G1 H1 Dl bs s h0 I => q G1 H1 Dl bs s h0 I
/-- o.append(e), the object by any expression -/
theorem s_appendE1 (ho : Ev ta σ G H VR (.ref a)) (ha : H a = some (.lst us)) (hz : us.length < 100000) (h : Ev te σ G H S y) (e : Ex G H) (k : ∀ v G' H', Stp G H G' H' → S G' v y → D.nx σ (upd H' a (.lst (us ++ [v])))) : tDrop (tBM K "list" rAppend ta (tCons te tNil)) D σ H :=
  ho.run e fun v G' H' s r => by
    obtain rfl : v = .ref a := r
    exact ⟨.inl ⟨rfl, _, SqL.of (s.h _ _ ha)⟩, (h.mono s).run s.v fun v G2 H2 s2 r2 => ⟨a, us, v, rfl, rfl, s2.h _ _ (s.h _ _ ha), small_lt hz, k v G2 H2 (s.trans s2) r2⟩⟩
end
end Cy
namespace Cy
open PySem PySem.Spec PyProof.Rows L2 He
local macro_rules | `(tactic| tm_at "ex") => `(tactic| first
  | exact Ex.refl _ | assumption | exact Stp.g (by assumption) | exact Stp.v (by assumption)
  | (refine Ex.trans (Stp.g (by assumption)) ?_; tm_at "ex")
  | (refine Ex.trans (by assumption) ?_; tm_at "ex"))
local macro_rules | `(tactic| tm_at "rl") => `(tactic| first
  | exact rfl | assumption | (apply Mono.up; rotate_left; assumption; tm_at "ex"))
local macro_rules | `(tactic| tm_at "sc") => `(tactic| first | assumption | omega)
local macro_rules | `(tactic| tm_at "ev") => `(tactic| first
  | exact ev_int | exact ev_bl | assumption
  | (apply ev_varI; exact rfl)
  | (apply ev_var; exact rfl; tm_at "rl")
  | (apply ev_I0; tm_at "ev"; tm_at "ev")
  | (apply ev_B0; tm_at "ev"; tm_at "ev")
  | (apply ev_I; tm_at "ev"; tm_at "ev"; tm_at "sc")
  | (apply ev_un; tm_at "ev")
  | (apply ev_eqI; tm_at "ev"; tm_at "ev")
  | (apply ev_neI; tm_at "ev"; tm_at "ev")
  | (apply ev_fstI; tm_at "ev")
  | (apply ev_sndI; tm_at "ev")
  | (apply ev_max2; tm_at "ev"; tm_at "ev")
  | (apply ev_min2; tm_at "ev"; tm_at "ev")
  | (apply ev_abs; tm_at "ev")
  | (apply ev_int1; tm_at "ev")
  | (apply ev_bits; tm_at "ev")
  | (apply ev_gcd; tm_at "ev"; tm_at "ev")
  | (apply ev_len; tm_at "ev")
  | (apply ev_tup2; tm_at "ev"; tm_at "ev"))
local macro_rules | `(tactic| tm_at "ea") => `(tactic| first
  | exact ea_nil
  | (apply ea_consI; tm_at "ev"; tm_at "ea")
  | (apply ea_cons; tm_at "ev"; tm_at "ea"))
local macro_rules | `(tactic| tm_at "et") => `(tactic| first
  | (apply et_test; tm_at "ev")
  | (apply et_B; tm_at "ev")
  | (apply et_not; tm_at "et"))

open Cr
theorem fm_sum (n : Nat) (f : Nat → Int) (X : Nat → Int) : (((List.range n).filterMap fun s => if f s = 0 then none else some (f s, [X s])).map fun p => p.1 * p.2.getD 0 0).sum = sm n (fun s => f s * X s) := by
  induction n with
  | zero => rfl
  | succ n ih =>
    rw [List.range_succ, List.filterMap_append, List.map_append, List.sum_append, ih]
    show _ = sm n (fun s => f s * X s) + f n * X n
    by_cases h : f n = 0
    · simp [h]
    · simp [h]
theorem map_getD {α β : Type} (l : List α) (d : α) (g : α → β) : (List.range l.length).map (fun i => g (l.getD i d)) = l.map g := by
  refine List.ext_getElem? fun i => ?_
  rw [List.getElem?_map]; rw [List.getElem?_map]
  by_cases h : i < l.length
  · rw [List.getElem?_range h, List.getElem?_eq_getElem h, Option.map_some, Option.map_some, List.getD_eq_getElem?_getD, List.getElem?_eq_getElem h]; rfl
  · rw [List.getElem?_eq_none (by rw [List.length_range]; omega), List.getElem?_eq_none (by omega)]; rfl
theorem pwm {a b : Nat} {x y : Int} (hx : pw a x) (hy : pw b y) : pw (a + b) (x * y) := pw_mul hx hy
theorem pws {a : Nat} {x y : Int} (hx : pw a x) (hy : pw a y) : pw (a + 1) (x - y) := by
  unfold pw at *
  rw [Nat.pow_succ]; omega
abbrev N_solved : List Str := ["rows", "rights", "many", "work", "last", "at", "pivot", "top_row", "k", "low_row", "factor", "tops", "left", "rest", "known", "side", "right", "value", "x", "y", "_", "entry", "answers"]
abbrev P_solved : List Str := ["rows", "rights"]
theorem sc_solved : FnScope N_solved P_solved (defScope s_solved) := ⟨rfl, rfl, rfl, by decide +kernel, rfl, by decide +kernel, by decide +kernel⟩
def sp_solved (K : PySem.W.Frag) : Sp := Pu (fun (x : (Mx × List Int) × Nat) vs G => SvOk x.1.1 x.1.2 x.2 ∧ AC (Ls (Ls IR)) x.1.1 (AC (Ls (Ls IR)) (x.1.2.map fun y => [y]) A0) vs G) (fun x G u => P2 (Ls (Ls IR)) IR G u ((List.range x.2).map fun i => [svX x.1.1 x.1.2 x.2 i], svB x.1.1 x.1.2 x.2))
theorem len_solved {K : PySem.W.Frag} {vs : List V} {H : Hp} {Q : VK} {E : XK} (h : sp_solved K vs H Q E) : vs.length = P_solved.length := by
  obtain ⟨G, x, e, ⟨_, a⟩, _⟩ := h
  obtain ⟨_, _, rfl, _⟩ := ac2 a; rfl
def SoI (G H : Hp) (a : Addr) (A : Nat → Nat → Int) (m : Nat) (u v : V) (k : Nat) (σ : L2.St) (G' H' : Hp) : Prop := Stp G H G' H' ∧ WkI G' H' a A m (fun i => min k i) ∧ ∃ c5 c6 c7 c8 c9 c10, σ = [some u, some v, some (.int (m : Int)), some (.ref a), some (.int (ld A k)), c5, c6, c7, c8, c9, c10, none, none, none, none, none, none, none, none, none, none, none, none]
def SoJ (G H : Hp) (a : Addr) (A : Nat → Nat → Int) (m : Nat) (u v : V) (k : Nat) (tr : V) (t : Nat) (σ : L2.St) (G' H' : Hp) : Prop := Stp G H G' H' ∧ WkI G' H' a A m (fun i => if i < k + 1 + t then min (k + 1) i else min k i) ∧ Ls IR G' tr (erow A m k k) ∧ ∃ c8 c9 c10, σ = [some u, some v, some (.int (m : Int)), some (.ref a), some (.int (ld A k)), some (.int (k : Int)), some (.int (mn A k k k)), some tr, c8, c9, c10, none, none, none, none, none, none, none, none, none, none, none, none]
def SoK (G H : Hp) (a tp : Addr) (bs : List Addr) (A : Nat → Nat → Int) (m : Nat) (u v : V) (t : Nat) (G' H' : Hp) : Prop := Stp G H G' H' ∧ WkI G' H' a A m (fun i => i) ∧ G' tp = some (.lst (bs.map V.ref)) ∧ (∀ i b, bs[i]? = some b → m ≤ i + t → Ls IR G' (.ref b) [solX A m i]) ∧
  (∀ i b, bs[i]? = some b → i + t < m → G' b = none ∧ H' b = some (.lst []) ∧ H b = none)
def SoL (G H : Hp) (a tp : Addr) (bs : List Addr) (A : Nat → Nat → Int) (m : Nat) (u v : V) (t : Nat) (σ : L2.St) (G' H' : Hp) : Prop := SoK G H a tp bs A m u v t G' H' ∧ ∃ c5 c6 c7 c8 c9 c10 c12 c13 c14 c15 c16 c17, σ = [some u, some v, some (.int (m : Int)), some (.ref a), some (.int (ld A m)), c5, c6, c7, c8, c9, c10, some (.ref tp), c12, c13, c14, c15, c16, c17, none, none, none, none, none]
theorem ok_solved {P : Program} {w : World} {K : PySem.W.Frag} {mg : Str → Option Value} {base : Heap} {k : Nat} (T : Tx K mg) (G__solving_pivot : Ok P w K mg base k "_solving_pivot" P__solving_pivot (sp__solving_pivot K)) : Ok P w K mg base (k + 1) "solved" P_solved (sp_solved K) := by
  obtain ⟨fd__solving_pivot, G__solving_pivot, B__solving_pivot, K__solving_pivot⟩ := G__solving_pivot
  refine ok_of T.d_solved sc_solved (fun _ _ _ _ _ _ us hl => match us, hl with | [_, _], _ => rfl) (fun vs H Q E h => ?_) (fun f cdv A outer s H vs Q E hr h => ?_)
  · exact len_solved h
  · refine ⟨_, (pss_cons (ps_set (i := 2) sc_solved.nd rfl (by first | exact Or.inl rfl | exact Or.inr rfl) (pe_callB call_len_seq (by rfl) T.f_len PySem.boot_len (pa_cons (pv 0) pa_nil)))
      (pss_cons (ps_setLc (i := 3) (own := [("left", 12), ("right", 16)]) (g := (gTup K 2 (gCons (gName 12) (gCons (gName 16) gNil)))) (tt := tYes) (te := (tOp rCat (tCB (qList K) (tCons (tVar 12) tNil)) (tCB (qList K) (tCons (tVar 16) tNil)))) (by rfl) sc_solved.nd rfl rfl (sw_true rfl rfl rfl (by kernel_rfl)) (pi_zip (by rfl) T.f_zip (pa_cons (pv 0) (pa_cons (pv 1) pa_nil))) (blkOk_by (by kernel_rfl)) (fun _ _ _ _ _ => (pg_tup (by rfl) (pgs_cons (pg_name (i := 12) sc_solved.nd rfl (by first | exact Or.inl rfl | exact Or.inr rfl)) (pgs_cons (pg_name (i := 16) sc_solved.nd rfl (by first | exact Or.inl rfl | exact Or.inr rfl)) pgs_nil)))) (fun _ _ _ _ _ => pts_nil) (fun _ _ _ _ _ => (pe_op op_cat (pe_callTy call_list_of (by rfl) T.f_list (by decide +kernel) (pa_cons (pv 12) pa_nil)) (pe_callTy call_list_of (by rfl) T.f_list (by decide +kernel) (pa_cons (pv 16) pa_nil)))))
      (pss_cons (ps_set (i := 4) sc_solved.nd rfl (by first | exact Or.inl rfl | exact Or.inr rfl) pe_int)
      (pss_cons (ps_for PassesOwn.never rfl (pi_range1 (by rfl) T.f_range (pa_cons (pv 2) pa_nil)) (pg_name (i := 5) sc_solved.nd rfl (by first | exact Or.inl rfl | exact Or.inr rfl)) (pss_cons (ps_set (i := 6) sc_solved.nd rfl (by first | exact Or.inl rfl | exact Or.inr rfl) (pe_call G__solving_pivot hr (by rfl) T.g__solving_pivot K__solving_pivot B__solving_pivot .nil pass0 (pa_cons (pv 3) (pa_cons (pv 5) pa_nil))))
      (pss_cons (ps_if (pt_cmpR op_eq (pv 6) pe_int (nomark _)) (pss_one (ps_ret pe_non)) pss_nil)
      (pss_cons (ps_set (i := 7) sc_solved.nd rfl (by first | exact Or.inl rfl | exact Or.inr rfl) (pe_ix ix_list (pv 3) (pv 5) (fun _ _ => rfl)))
      (pss_cons (ps_for PassesOwn.never rfl (pi_range2 (by rfl) T.f_range (pa_cons (pe_op op_add (pv 5) pe_int) (pa_cons (pv 2) pa_nil))) (pg_name (i := 8) sc_solved.nd rfl (by first | exact Or.inl rfl | exact Or.inr rfl)) (pss_cons (ps_set (i := 9) sc_solved.nd rfl (by first | exact Or.inl rfl | exact Or.inr rfl) (pe_ix ix_list (pv 3) (pv 8) (fun _ _ => rfl)))
      (pss_cons (ps_set (i := 10) sc_solved.nd rfl (by first | exact Or.inl rfl | exact Or.inr rfl) (pe_ix ix_list (pv 9) (pv 5) (fun _ _ => rfl)))
      (pss_one (ps_asg (pe_lc (own := [("x", 18), ("y", 19)]) (g := (gTup K 2 (gCons (gName 18) (gCons (gName 19) gNil)))) (tt := tYes) (te := (tOp qDiv (tOp qSub (tOp qMul (tVar 6) (tVar 18)) (tOp qMul (tVar 10) (tVar 19))) (tVar 4))) (by rfl) sc_solved.nd (pi_zip (by rfl) T.f_zip (pa_cons (pv 9) (pa_cons (pv 7) pa_nil))) (blkOk_by (by kernel_rfl)) (fun _ _ _ _ _ => (pg_tup (by rfl) (pgs_cons (pg_name (i := 18) sc_solved.nd rfl (by first | exact Or.inl rfl | exact Or.inr rfl)) (pgs_cons (pg_name (i := 19) sc_solved.nd rfl (by first | exact Or.inl rfl | exact Or.inr rfl)) pgs_nil)))) (fun _ _ _ _ _ => pts_nil) (fun _ _ _ _ _ => (pe_op op_fdivY (pe_op op_sub (pe_op op_mulX (pv 6) (pv 18)) (pe_op op_mulX (pv 10) (pv 19))) (pv 4)))) (pg_sub (pv 3) (pv 8) set_list))))))
      (pss_one (ps_set (i := 4) sc_solved.nd rfl (by first | exact Or.inl rfl | exact Or.inr rfl) (pv 6))))))))
      (pss_cons (ps_set (i := 11) sc_solved.nd rfl (by first | exact Or.inl rfl | exact Or.inr rfl) (pe_lc (own := [("_", 20)]) (g := (gName 20)) (tt := tYes) (te := (tLst tNil)) (by rfl) sc_solved.nd (pi_range1 (by rfl) T.f_range (pa_cons (pv 2) pa_nil)) (blkOk_by (by kernel_rfl)) (fun _ _ _ _ _ => (pg_name (i := 20) sc_solved.nd rfl (by first | exact Or.inl rfl | exact Or.inr rfl))) (fun _ _ _ _ _ => pts_nil) (fun _ _ _ _ _ => (pe_lst pa_nil))))
      (pss_cons (ps_for PassesOwn.never rfl (pi_range3 (by rfl) T.f_range (pa_cons (pe_op op_sub (pv 2) pe_int) (pa_cons (pe_un un_neg pe_int) (pa_cons (pe_un un_neg pe_int) pa_nil)))) (pg_name (i := 5) sc_solved.nd rfl (by first | exact Or.inl rfl | exact Or.inr rfl)) (pss_cons (ps_asg (pe_tup (pa_cons (pe_slice sl_list (pe_ix ix_list (pv 3) (pv 5) (fun _ _ => rfl)) po_none (po_some (pv 2))) (pa_cons (pe_slice sl_list (pe_ix ix_list (pv 3) (pv 5) (fun _ _ => rfl)) (po_some (pv 2)) po_none) pa_nil))) (pg_tup (by rfl) (pgs_cons (pg_name (i := 12) sc_solved.nd rfl (by first | exact Or.inl rfl | exact Or.inr rfl)) (pgs_cons (pg_name (i := 13) sc_solved.nd rfl (by first | exact Or.inl rfl | exact Or.inr rfl)) pgs_nil))))
      (pss_cons (ps_setLc (i := 14) (own := [("k", 8)]) (g := (gName 8)) (tt := (tTest (tOp rNe (tOp (rIxL K) (tVar 12) (tVar 8)) (tC (.int 0))))) (te := (tTup (tCons (tOp (rIxL K) (tVar 12) (tVar 8)) (tCons (tOp (rIxL K) (tVar 11) (tVar 8)) tNil)))) (by rfl) sc_solved.nd rfl rfl (sw_true rfl rfl rfl (by kernel_rfl)) (pi_range2 (by rfl) T.f_range (pa_cons (pe_op op_add (pv 5) pe_int) (pa_cons (pv 2) pa_nil))) (blkOk_by (by kernel_rfl)) (fun _ _ _ _ _ => (pg_name (i := 8) sc_solved.nd rfl (by first | exact Or.inl rfl | exact Or.inr rfl))) (fun _ _ _ _ _ => (pts_one (pt_cmpR op_ne (pe_ix ix_list (pv 12) (pv 8) (fun _ _ => rfl)) pe_int (nomark _)))) (fun _ _ _ _ _ => (pe_tup (pa_cons (pe_ix ix_list (pv 12) (pv 8) (fun _ _ => rfl)) (pa_cons (pe_ix ix_list (pv 11) (pv 8) (fun _ _ => rfl)) pa_nil)))))
      (pss_one (ps_for PassesOwn.never rfl (pi_enum (by rfl) T.f_enumerate (pa_cons (pv 13) pa_nil)) (pg_tup (by rfl) (pgs_cons (pg_name (i := 15) sc_solved.nd rfl (by first | exact Or.inl rfl | exact Or.inr rfl)) (pgs_cons (pg_name (i := 16) sc_solved.nd rfl (by first | exact Or.inl rfl | exact Or.inr rfl)) pgs_nil))) (pss_cons (ps_set (i := 17) sc_solved.nd rfl (by first | exact Or.inl rfl | exact Or.inr rfl) (pe_op op_sub (pe_op op_mulX (pv 4) (pv 16)) (pe_callB (cr_sum rfl) (by rfl) T.f_sum (by decide +kernel) (pa_cons (pe_lc (own := [("entry", 21), ("answers", 22)]) (g := (gTup K 2 (gCons (gName 21) (gCons (gName 22) gNil)))) (tt := tYes) (te := (tOp qMul (tVar 21) (tOp (rIxL K) (tVar 22) (tVar 15)))) (by rfl) sc_solved.nd (pi_list (pv 14)) (blkOk_by (by kernel_rfl)) (fun _ _ _ _ _ => (pg_tup (by rfl) (pgs_cons (pg_name (i := 21) sc_solved.nd rfl (by first | exact Or.inl rfl | exact Or.inr rfl)) (pgs_cons (pg_name (i := 22) sc_solved.nd rfl (by first | exact Or.inl rfl | exact Or.inr rfl)) pgs_nil)))) (fun _ _ _ _ _ => pts_nil) (fun _ _ _ _ _ => (pe_op op_mulX (pv 21) (pe_ix ix_list (pv 22) (pv 15) (fun _ _ => rfl))))) pa_nil))))
      (pss_one (ps_expr (pe_bm PySem.F.plainAttrs_list PySem.F.slot_list_append PySem.F.type_list_append mt_append (pe_ix ix_list (pv 11) (pv 5) (fun _ _ => rfl)) (pa_cons (pe_op op_fdivY (pv 17) (pe_ix ix_list (pv 12) (pv 5) (fun _ _ => rfl))) pa_nil))))))))))
      (pss_cons (ps_if (pt_cmpR op_lt (pv 4) pe_int (nomark _)) (pss_one (ps_ret (pe_tup (pa_cons (pe_lc (own := [("answers", 22)]) (g := (gName 22)) (tt := tYes) (te := (tLc (iList K (tVar 22)) (gName 18) tYes (tUn qNeg (tVar 18)) [18])) (by rfl) sc_solved.nd (pi_list (pv 11)) (blkOk_by (by kernel_rfl)) (fun _ _ _ _ _ => (pg_name (i := 22) sc_solved.nd rfl (by first | exact Or.inl rfl | exact Or.inr rfl))) (fun _ _ _ _ _ => pts_nil) (fun _ _ _ _ _ => (pe_lc (own := [("x", 18)]) (g := (gName 18)) (tt := tYes) (te := (tUn qNeg (tVar 18))) (by rfl) sc_solved.nd (pi_list (pv 22)) (blkOk_by (by kernel_rfl)) (fun _ _ _ _ _ => (pg_name (i := 18) sc_solved.nd rfl (by first | exact Or.inl rfl | exact Or.inr rfl))) (fun _ _ _ _ _ => pts_nil) (fun _ _ _ _ _ => (pe_un un_neg (pv 18)))))) (pa_cons (pe_un un_neg (pv 4)) pa_nil))))) pss_nil)
      (pss_one (ps_ret (pe_tup (pa_cons (pv 11) (pa_cons (pv 4) pa_nil)))))))))))), ?_⟩
    obtain ⟨G, ⟨⟨M, b⟩, m⟩, e, ⟨hs, hv⟩, q⟩ := h
    dsimp only at hs hv q
    obtain ⟨u, v, rfl, hu, hv⟩ := ac2 hv
    obtain ⟨A, hA⟩ : ∃ A, A = at2 (wk M b) := ⟨_, rfl⟩
    have lkA : LK A m := by rw [hA]; exact hs.lk
    have bd : ∀ k i j, k ≤ m → i < m → j ≤ m → pw 600 (mn A k i j) := by rw [hA]; exact hs.bd
    have bx : ∀ i, i < m → pw 600 (solX A m i) := by rw [hA]; exact hs.bx
    have m1 := hs.m1
    have m2 := hs.m2
    have ml : M.length = m := hs.s.l
    have ldm : ∀ k, k < m → pw 600 (ld A (k + 1)) := fun k hk => by rw [ld_succ]; exact bd k k k (by omega) hk (by omega)
    have lde : ∀ k, k ≤ m → pw 600 (ld A k) := fun k hk => by
      cases k with
      | zero => rw [ld_zero]; show (1 : Nat) < 2 ^ 600; decide +kernel
      | succ k => exact ldm k (by omega)
    refine s_set (R := IR) (x := (m : Int)) ((ev_lenL (R := Ls IR) (ev_var rfl hu)).eq (by rw [ml])) e fun w G1 H1 s1 r1 => ?_
    obtain rfl := r1
    refine s_setN (S := Ls IR) (ys := (List.range m).map fun i => erow A m 0 i) ?_ s1.v fun a us G2 H2 I2 ha => ?_
    · have iz := ei_zip (K := K) (R := Ls IR) (S := Ls IR) (xs := M) (ys := b.map fun y => [y]) (ea_cons (ev_var (σ := [some u, some v, some (.int (m : Int)), none, none, none, none, none, none, none, none, none, none, none, none, none, none, none, none, none, none, none, none]) (i := 0) rfl (Mono.up s1.g hu)) (ea_cons (ev_var (i := 1) (H := H1) rfl (Mono.up s1.g hv)) ea_nil))
      rw [List.length_map, ml, hs.lb, Nat.min_self] at iz
      refine en_lcP (U := Ls IR) (T := Ls IR) (by decide) (px := fun i => (M.getD i [], [b.getD i 0])) (iz.imp fun i G v hi ⟨x, y, ex, ey, r⟩ => ?_) (by omega) fun i w1 w2 G3 H3 hi s3 rx ry => ?_
      · rw [List.getElem?_map] at ey
        obtain ⟨y', ey', rfl⟩ := Option.map_eq_some_iff.mp ey
        rw [getD_of ex, getD_of ey']; exact r
      · refine Ev.eq (ev_cat (xs := M.getD i []) (ys := [b.getD i 0]) (ev_listOf ((ev_var rfl rx).imp fun _ _ h => h.sq)) (ev_listOf ((ev_var rfl ry).imp fun _ _ h => h.sq)) ?_) ?_
        · obtain ⟨r, er, hl, _⟩ := hs.s.row hi
          rw [getD_of er, hl]
          show m + 1 ≤ 100000; omega
        · obtain ⟨r, er, hl, hr⟩ := hs.s.row hi
          rw [getD_of er]
          refine ext_some (by rw [List.length_append, hl, erow_len]; rfl) fun j hj => ?_
          rw [List.length_append, hl] at hj
          have hj' : j < m + 1 := hj
          refine ⟨mn A 0 i j, ?_, erow_get (by omega)⟩
          rw [mn_zero, hA]
          by_cases e : j < m
          · rw [List.getElem?_append_left (by omega), wk_at hs.s hs.lb hi e]; exact hr j e
          · obtain rfl : j = m := by omega
            rw [List.getElem?_append_right (by omega), hl, Nat.sub_self, wk_rt hs.s hs.lb hi]; rfl
    have ha0 : H a = none := s1.h.none ha
    have hW : WkI G2 H2 a A m (fun i => min 0 i) := ⟨I2.g, us, I2.d, by rw [paired_len I2.p, List.length_map, List.length_range], fun i hi => by
      obtain ⟨w, e1, r⟩ := paired_get1 (y := erow A m 0 i) I2.p (by rw [List.getElem?_map, List.getElem?_range hi]; rfl)
      exact ⟨w, e1, by dsimp only; rw [Nat.zero_min]; exact r⟩⟩
    have S2 := s1.trans I2.s
    refine s_set (R := IR) (x := 1) ev_int S2.v fun w G3 H3 s3 r3 => ?_
    obtain rfl := r3
    have S3 := S2.trans s3
    refine s_for (I := SoI G H a A m u v) (ei_range1 (m := (m : Int)) (ea_consI (ev_varI rfl) ea_nil) (by omega) (by omega)) S3.v ?_ ?_ ?_
    · exact fun G4 H4 s4 => ⟨S3.trans s4, (hW.step s3).step s4, none, none, none, none, none, none, rfl⟩
    · rintro k w σ Gp Hq G' H' G1' hk e1 e2 ⟨S4, W4, c5, c6, c7, c8, c9, c10, rfl⟩ s5 rfl
      rw [Int.toNat_natCast] at hk
      have S5 := S4.trans s5
      have W5 := W4.step s5
      have p0 : mn A k k k ≠ 0 := by rw [← ld_succ]; exact ld_ne lkA (k + 1) (by omega)
      have l0 : ld A k ≠ 0 := ld_ne lkA k (by omega)
      -- the pivot
      refine s_set (R := IR) (x := mn A k k k) ?_ S5.v fun w G6 H6 s6 r6 => ?_
      · obtain ⟨g5, us5, h5, l5, r5⟩ := W5
        refine ev_callO ((List.range m).map fun i => erow A m (min k i) i, k) g5 h5 (ea_cons (R := VR) (x := .ref a) (ev_var rfl rfl) (ea_cons (R := NR) (x := k) (ev_var rfl rfl) ea_nil)) (fun vs G'' eg hn hvs => ⟨⟨?_, ?_⟩, ?_⟩) (fun _ w hw => ?_)
        · show ((List.range m).map _).length ≤ 1000
          rw [List.length_map, List.length_range]; omega
        · refine ⟨erow A m (min k k) k, mn A k k k, ?_, ?_, p0⟩
          · show ((List.range m).map _)[k]? = _
            rw [List.getElem?_map, List.getElem?_range hk]; rfl
          · rw [Nat.min_self]; exact erow_get (by omega)
        · obtain ⟨w1, r', rfl, rfl, hr'⟩ := hvs
          refine ⟨_, r', rfl, ⟨a, us5, rfl, upd_same, ?_⟩, ?_⟩
          · refine paired_of (by rw [l5, List.length_map, List.length_range]) fun i hi => ?_
            rw [l5] at hi
            obtain ⟨w, e1, r⟩ := r5 i hi
            refine ⟨w, _, e1, by rw [List.getElem?_map, List.getElem?_range hi]; rfl, Mono.up (eg.trans (Ex.new ?_)) r⟩
            exact hn
          · obtain ⟨w3, r3, rfl, rfl, rfl⟩ := hr'
            exact ⟨_, _, rfl, rfl, rfl⟩
        · have e0 : at2 ((List.range m).map fun i => erow A m (min k i) i) k k = mn A k k k := by
            unfold at2
            rw [getD_of (x := erow A m k k) (by rw [List.getElem?_map, List.getElem?_range hk, Option.map_some, Nat.min_self]), getD_of (erow_get (by omega))]
          dsimp only at hw
          rw [e0] at hw
          exact hw
      have W6 := W5.step s6
      have S6 := S5.trans s6
      obtain rfl := r6
      refine s_chk (EvT.eq (et_test (ev_eqI (ev_varI rfl) ev_int)) (decide_eq_false p0)) s6.v fun G7 H7 s7 => ?_
      have W7 := W6.step s7
      have S7 := S6.trans s7
      refine s_set (R := Ls IR) (x := erow A m k k) ((W7.ev rfl (ev_var rfl rfl) hk).eq (by rw [Nat.min_self])) s7.v fun tr G8 H8 s8 r8 => ?_
      have W8 := W7.step s8
      have S8 := S7.trans s8
      refine s_for (I := SoJ G H a A m u v k tr) (ei_range2 (a := (k : Int) + 1) (b := (m : Int)) (ea_consI (ev_I0 (ev_varI rfl) ev_int) (ea_consI (ev_varI rfl) ea_nil)) ⟨by omega, by omega, by omega, by omega⟩) s8.v ?_ ?_ ?_
      · exact fun G9 H9 s9 => ⟨S8.trans s9, (W8.step s9).lev fun i hi => by split <;> omega, Mono.up s9.g r8, c8, c9, c10, rfl⟩
      · rintro t w σ Gp' Hq' Gb Hb G1'' ht e1' e2' ⟨S9, W9, r9, c8, c9, c10, rfl⟩ s10 rfl
        have S10 := S9.trans s10
        have W10 := W9.step s10
        have r10 := Mono.up s10.g r9
        have er : (k : Int) + 1 + (t : Int) = ((k + 1 + t : Nat) : Int) := by omega
        rw [er]
        have hr : k + 1 + t < m := by omega
        obtain ⟨r, hrr⟩ : ∃ r, r = k + 1 + t := ⟨_, rfl⟩
        rw [← hrr] at hr ⊢
        refine s_set (R := Ls IR) (x := erow A m k r) ((W10.ev rfl (ev_var rfl rfl) hr).eq (by rw [if_neg (by omega), Nat.min_eq_left (by omega)])) S10.v fun lr G11 H11 s11 r11 => ?_
        have S11 := S10.trans s11
        refine s_set (R := IR) (x := mn A k r k) (ev_ixL (R := IR) (n := k) (xs := erow A m k r) (ev_var rfl r11) (ev_varI rfl) rfl (erow_get (by omega))) s11.v fun fa G12 H12 s12 r12 => ?_
        obtain rfl := r12
        have S12 := S11.trans s12
        have W12 := (W10.step s11).step s12
        have r13 := Mono.up (s11.g.trans s12.g) r10
        have r14 := Mono.up s12.g r11
        obtain ⟨g12, us12, h12, l12, rows12⟩ := W12
        have W12 : WkI G12 H12 a A m (fun i => if i < k + 1 + t then min (k + 1) i else min k i) := ⟨g12, us12, h12, l12, rows12⟩
        refine s_store1 (R := Ls IR) (y := erow A m (k + 1) r) (j := r) rfl h12 (by omega) ?_ (ev_varI rfl) S12.v fun nv' G13 H13 s13 rn => ?_
        · have iz := ei_zip (K := K) (R := IR) (S := IR) (xs := erow A m k r) (ys := erow A m k k) (ea_cons (ev_var (σ := [some u, some v, some (.int (m : Int)), some (.ref a), some (.int (ld A k)), some (.int (k : Int)), some (.int (mn A k k k)), some tr, some (.int (r : Int)), some lr, some (.int (mn A k r k)), none, none, none, none, none, none, none, none, none, none, none, none]) (i := 9) rfl r14) (ea_cons (ev_var (i := 7) (H := H12) rfl r13) ea_nil))
          rw [erow_len, erow_len, Nat.min_self] at iz
          refine ev_lcP (U := IR) (T := IR) (by decide) (px := fun j => (mn A k r j, mn A k k j)) (iz.imp fun j G v hj ⟨x, y, ex, ey, r⟩ => ?_) (by omega) fun j w1 w2 G3 H3 hj s3 rx ry => ?_
          · rw [erow_get (by omega)] at ex ey
            cases ex; cases ey; exact r
          · obtain rfl := rx
            obtain rfl := ry
            have m1' := mulx (bd k k k (by omega) hk (by omega)) (bd k r j (by omega) hr (by omega))
            have m2' := mulx (bd k r k (by omega) hr (by omega)) (bd k k j (by omega) hk (by omega))
            have d1 : CDivY (mn A k k k * mn A k r j - mn A k r k * mn A k k j) (ld A k) := fdivy l0 (lde k (by omega))
            refine Ev.eq (ev_I (ev_I0 (ev_I (ev_varI rfl) (ev_varI rfl) m1') (ev_I (ev_varI rfl) (ev_varI rfl) m2')) (ev_varI rfl) d1) ?_
            rw [← step_low lkA hk j]
            exact Int.mul_fdiv_cancel_left _ l0
        · obtain ⟨us13, h13, l13, W13⟩ := (W12.step s13).put hr rn
          have : us13 = us12 := by
            have := s13.h _ _ h12
            rw [h13] at this
            cases this; rfl
          subst this
          refine ⟨G13, ?_, ?_, S12.trans s13 |>.mut ha0 W13.1, W13.lev fun i hi => ?_, Mono.up s13.g r13, _, _, _, rfl⟩
          · exact e2'.trans (s10.g.trans (s11.g.trans (s12.g.trans s13.g)))
          · exact s13.v.mut W13.1
          · by_cases e : i = r
            · rw [if_pos e, if_pos (by omega)]; omega
            · rw [if_neg e]; split <;> split <;> omega
      · rintro σ Gb Hb e1' e2' ⟨S9, W9, r9, c8, c9, c10, rfl⟩
        refine s_set1 (R := IR) (x := mn A k k k) (ev_varI rfl) S9.v fun w G10 H10 s10 r10 => ?_
        obtain rfl := r10
        refine ⟨G10, e2.trans (s5.g.trans (s6.g.trans (s7.g.trans (s8.g.trans (e1'.trans s10.g))))), s10.v, S9.trans s10, (W9.step s10).lev fun i hi => by split <;> omega, _, _, _, _, _, _, rfl⟩
    · rintro σ Gp Hp_ e1 e2 hI
      rw [Int.toNat_natCast] at hI
      obtain ⟨S4, W4, c5, c6, c7, c8, c9, c10, rfl⟩ := hI
      have l0 : ld A m ≠ 0 := ld_ne lkA m (Nat.le_refl _)
      have W4 : WkI Gp Hp_ a A m (fun i => i) := W4.lev fun i hi => by omega
      refine s_setLists (ei_range1 (m := (m : Int)) (ea_consI (ev_varI rfl) ea_nil) (by omega) (by omega)) S4.v (by omega) fun G5 H5 tp bs s5 htp I5 => ?_
      rw [Int.toNat_natCast] at I5
      have S5 := S4.trans s5
      have htp0 : H tp = none := S4.h.none htp
      have S6 := S5.add htp0 I5.g I5.d
      have ntp : ∀ b, b ∈ bs → b ≠ tp := fun b hb z => (List.nodup_cons.mp I5.nd).1 (z ▸ hb)
      have W5 : WkI (upd G5 tp (.lst (bs.map V.ref))) H5 a A m (fun i => i) := by
        obtain ⟨g, us', h', l', r'⟩ := W4.step s5
        have na : a ≠ tp := fun z => by rw [← z] at htp; obtain ⟨_, _, h4, _⟩ := W4; rw [h4] at htp; cases htp
        exact ⟨by rw [upd_ne na]; exact g, us', h', l', fun i hi => by obtain ⟨w, x, y⟩ := r' i hi; exact ⟨w, x, Mono.up (Ex.new I5.g) y⟩⟩
      refine s_for (I := SoL G H a tp bs A m u v) (ei_down (a := (m : Int) - 1) (b := -1) (ea_consI (ev_I0 (ev_varI rfl) ev_int) (ea_consI (ev_un (f := fun i => -i) ev_int) (ea_consI (ev_un (f := fun i => -i) ev_int) ea_nil))) ⟨by omega, by omega, by omega, by omega⟩) S6.v ?_ ?_ ?_
      · refine fun G7 H7 s7 => ⟨⟨S6.trans s7, W5.step s7, s7.g _ _ upd_same, fun i b hb hi => ?_, fun i b hb hi => ?_⟩, _, _, _, _, _, _, none, none, none, none, none, none, rfl⟩
        · have := (List.getElem?_eq_some_iff.mp hb).1
          rw [I5.l] at this; omega
        · have mb := List.mem_of_getElem? hb
          obtain ⟨x1, x2, x3⟩ := I5.b b mb
          exact ⟨s7.n _ _ x1 (by rw [upd_ne (ntp b mb)]; exact x3), s7.h _ _ x1, S4.h.none x2⟩
      · rintro t w σ Gq Hq G' H' G1' ht e1 e2 ⟨⟨S7, W7, tp7, dn7, op7⟩, c5, c6, c7, c8, c9, c10, c12, c13, c14, c15, c16, c17, rfl⟩ s8 rfl
        have S8 := S7.trans s8
        have W8 := W7.step s8
        have tp8 := s8.g _ _ tp7
        have htm : t < m := by omega
        obtain ⟨p, hp⟩ : ∃ p, p = m - 1 - t := ⟨_, rfl⟩
        have hpm : p < m := by omega
        rw [show (m : Int) - 1 - (t : Int) = (p : Int) by omega]
        -- left, rest
        refine s_asg (R := P2 (Ls IR) (Ls IR)) (x := ((erow A m p p).take m, (erow A m p p).drop m)) ?_ s8.v fun w G9 H9 s9 r9 => ?_
        · refine (ev_tup2 (ev_sl (W8.ev rfl (ev_var rfl rfl) hpm) eo_none (eo_some (ev_varI rfl))) (ev_sl (W8.ev rfl (ev_var rfl rfl) hpm) (eo_some (ev_varI rfl)) eo_none)).eq ?_
          rw [cut_to _ _ (by rw [erow_len]; omega), cut_from _ _ (by rw [erow_len]; omega)]
        refine g_pair s9.v r9 fun lf rs rl rr => ?_
        have edrop : (erow A m p p).drop m = [mn A p p m] := by
          refine ext_some (by rw [List.length_drop, erow_len]; show m + 1 - m = 1; omega) fun i hi => ?_
          rw [List.length_drop, erow_len] at hi
          obtain rfl : i = 0 := by omega
          exact ⟨_, by rw [List.getElem?_drop]; exact erow_get (by omega), rfl⟩
        dsimp only at rl rr
        rw [edrop] at rr
        have lget : ∀ j, j < m → ((erow A m p p).take m)[j]? = some (mn A p p j) := fun j hj => by rw [List.getElem?_take, if_pos hj]; exact erow_get (by omega)
        have S9 := S8.trans s9
        have tp9 := s9.g _ _ tp8
        have tpV : Ls VR G9 (.ref tp) (bs.map V.ref) := ⟨tp, _, rfl, tp9, vr_self _ _⟩
        have bsl : bs.length = m := I5.l
        have bget : ∀ i, i < m → ∃ b, bs[i]? = some b := fun i hi => ⟨_, List.getElem?_eq_getElem (by omega)⟩
        -- known
        refine s_set (R := Ls (P2 IR (Ls IR))) (x := (List.range (m - (p + 1))).filterMap fun s => if mn A p p (p + 1 + s) = 0 then none else some (mn A p p (p + 1 + s), [solX A m (p + 1 + s)])) ?_ s9.v fun kn G10 H10 s10 r10 => ?_
        · have ir := ei_range2 (σ := [some u, some v, some (.int (m : Int)), some (.ref a), some (.int (ld A m)), some (.int (p : Int)), c6, c7, c8, c9, c10, some (.ref tp), some lf, some rs, c14, c15, c16, c17, none, none, none, none, none]) (G := G9) (H := H9) (a := (p : Int) + 1) (b := (m : Int)) (ta := tCons (tOp qAdd (tVar 5) (tC (.int 1))) (tCons (tVar 2) tNil)) (ea_consI (ev_I0 (ev_varI rfl) ev_int) (ea_consI (ev_varI rfl) ea_nil)) ⟨by omega, by omega, by omega, by omega⟩
          rw [show ((m : Int) - ((p : Int) + 1)).toNat = m - (p + 1) by omega] at ir
          refine ev_lc1 ir (by omega) (fun i w G11 H11 hi s11 hw => ?_) (fun i w y G11 H11 hi s11 hw hy => ?_)
          · rw [show (p : Int) + 1 + (i : Int) = ((p + 1 + i : Nat) : Int) by omega] at hw
            obtain rfl := hw
            refine EvT.eq (et_test (ev_neI (i := mn A p p (p + 1 + i)) (j := 0) (ev_ixL (R := IR) (n := p + 1 + i) (ev_var rfl (Mono.up s11.g rl)) (ev_varI rfl) rfl (lget _ (by omega))) ev_int)) ?_
            by_cases z : mn A p p (p + 1 + i) = 0
            · rw [if_pos z, decide_eq_true z]; rfl
            · rw [if_neg z, decide_eq_false z]; rfl
          · rw [show (p : Int) + 1 + (i : Int) = ((p + 1 + i : Nat) : Int) by omega] at hw
            obtain rfl := hw
            by_cases z : mn A p p (p + 1 + i) = 0
            · rw [if_pos z] at hy; cases hy
            · rw [if_neg z] at hy
              cases hy
              obtain ⟨b', hb'⟩ := bget (p + 1 + i) (by omega)
              have rb := Mono.up (s8.g.trans (s9.g.trans s11.g)) (dn7 _ _ hb' (by omega))
              exact ev_tup2 (ev_ixL (R := IR) (n := p + 1 + i) (ev_var rfl (Mono.up s11.g rl)) (ev_varI rfl) rfl (lget _ (by omega))) (Ev.ofV (ev_ixL (R := VR) (n := p + 1 + i) (xs := bs.map V.ref) (ev_var rfl (Mono.up s11.g tpV)) (ev_varI rfl) rfl (by rw [List.getElem?_map, hb']; rfl)) rb)
        · have S10 := S9.trans s10
          have W10 := (W8.step s9).step s10
          have tp10 := s10.g _ _ tp9
          refine s_for' (I := fun j σ G' H' => (j = 0 ∧ SoK G H a tp bs A m u v t G' H' ∧ Ls IR G' lf ((erow A m p p).take m) ∧ Ls (P2 IR (Ls IR)) G' kn ((List.range (m - (p + 1))).filterMap fun s => if mn A p p (p + 1 + s) = 0 then none else some (mn A p p (p + 1 + s), [solX A m (p + 1 + s)])) ∧ ∃ c15 c16 c17, σ = [some u, some v, some (.int (m : Int)), some (.ref a), some (.int (ld A m)), some (.int (p : Int)), c6, c7, c8, c9, c10, some (.ref tp), some lf, some rs, some kn, c15, c16, c17, none, none, none, none, none]) ∨ (j = 1 ∧ SoL G H a tp bs A m u v (t + 1) σ G' H'))
            (ei_enum (R := IR) (xs := [mn A p p m]) (ea_cons (ev_var rfl (Mono.up s10.g rr)) ea_nil)) s10.v ?_ ?_ ?_
          · exact fun G11 H11 s11 => .inl ⟨rfl, ⟨S10.trans s11, W10.step s11, s11.g _ _ tp10, fun i b' hb hi => Mono.up (s8.g.trans (s9.g.trans (s10.g.trans s11.g))) (dn7 i b' hb hi), fun i b' hb hi => by
              obtain ⟨x1, x2, x3⟩ := op7 i b' hb hi
              have ss := s8.trans (s9.trans (s10.trans s11))
              exact ⟨ss.n _ _ x2 x1, ss.h _ _ x2, x3⟩⟩, Mono.up (s10.g.trans s11.g) rl, Mono.up s11.g r10, _, _, _, rfl⟩
          · rintro j w σ Gs Hs Gt Ht Gu hj f1 f2 hI s12 ⟨y, hy, rp⟩
            obtain rfl : j = 0 := by have : j < 1 := hj; omega
            cases hy
            rcases hI with ⟨_, ⟨S11, W11, tp11, dn11, op11⟩, rl11, rk11, c15, c16, c17, rfl⟩ | ⟨z, _⟩
            rotate_left
            · cases z
            refine g_pair s12.v rp fun w1 w2 r1 r2 => ?_
            obtain rfl := r1
            obtain rfl := r2
            have S12 := S11.trans s12
            obtain ⟨X, hX⟩ : ∃ X, X = solX A m := ⟨_, rfl⟩
            have bX : ∀ i, i < m → pw 600 (X i) := by rw [hX]; exact bx
            have bs' := back_sub' (A := A) (m := m) (c := m) (X := X) (fun r hr => by rw [hX]; exact solX_ok lkA r hr) p hpm
            have pz : mn A p p p ≠ 0 := by rw [← ld_succ]; exact ld_ne lkA (p + 1) (by omega)
            -- the value
            refine s_set (R := IR) (x := ld A m * mn A p p m - sm (m - (p + 1)) (fun j => mn A p p (p + 1 + j) * X (p + 1 + j))) ?_ s12.v fun w G13 H13 s13 r13 => ?_
            · refine ev_I0 (ev_I (ev_varI rfl) (ev_varI rfl) (mulx (lde m (Nat.le_refl _)) (bd p p m (by omega) hpm (Nat.le_refl _)))) ?_
              rw [← fm_sum]
              obtain ⟨L, hL⟩ : ∃ L, L = ((List.range (m - (p + 1))).filterMap fun s => if mn A p p (p + 1 + s) = 0 then none else some (mn A p p (p + 1 + s), [solX A m (p + 1 + s)])) := ⟨_, rfl⟩
              have hL' : L = ((List.range (m - (p + 1))).filterMap fun s => if mn A p p (p + 1 + s) = 0 then none else some (mn A p p (p + 1 + s), [X (p + 1 + s)])) := by rw [hL, hX]
              rw [← hL', ← map_getD L (0, []) fun q => q.1 * q.2.getD 0 0]
              rw [← hL] at rk11
              have Lm : ∀ i x, L[i]? = some x → ∃ s, s < m - (p + 1) ∧ x = (mn A p p (p + 1 + s), [X (p + 1 + s)]) := fun i x hx => by
                have := List.mem_of_getElem? hx
                rw [hL'] at this
                obtain ⟨s, hs, e⟩ := List.mem_filterMap.mp this
                split at e
                · cases e
                · cases e; exact ⟨s, List.mem_range.mp hs, rfl⟩
              have Ll : L.length ≤ m := by
                rw [hL]
                refine Nat.le_trans (List.length_filterMap_le _ _) ?_
                rw [List.length_range]; omega
              refine ev_sumL (ev_lcP (U := IR) (T := Ls IR) (by decide) (px := fun i => L.getD i (0, [])) ((ei_list (R := P2 IR (Ls IR)) (xs := L) (ev_var rfl (Mono.up s12.g rk11))).imp fun i G v hi ⟨y, hy, r⟩ => by rw [getD_of hy]; exact r) (by omega) fun i w1 w2 G14 H14 hi s14 q1 q2 => ?_)
              obtain ⟨s, hs, e⟩ := Lm i _ (List.getElem?_eq_getElem hi)
              have eg : L.getD i (0, []) = (mn A p p (p + 1 + s), [X (p + 1 + s)]) := by rw [getD_of (List.getElem?_eq_getElem hi)]; exact e
              rw [eg] at q1 q2 ⊢
              obtain rfl := q1
              exact ev_I (ev_varI rfl) (ev_ixL (R := IR) (n := 0) (xs := [X (p + 1 + s)]) (ev_var rfl q2) (ev_varI rfl) rfl rfl) (mulx (bd p p (p + 1 + s) (by omega) hpm (by omega)) (bX (p + 1 + s) (by omega)))
            · obtain rfl := r13
              have S13 := S12.trans s13
              have W13 := (W11.step s12).step s13
              have tp13 := s13.g _ _ (s12.g _ _ tp11)
              obtain ⟨b', hb'⟩ := bget p hpm
              obtain ⟨x1, x2, x3⟩ := op11 p b' hb' (by omega)
              have y1 := (s12.trans s13).n _ _ x2 x1
              have y2 := (s12.trans s13).h _ _ x2
              rw [← bs']
              refine s_appendE1 (S := IR) (y := X p) (a := b') (us := []) (ev_ixL (R := VR) (n := p) (xs := bs.map V.ref) (ev_var rfl ⟨tp, _, rfl, tp13, vr_self _ _⟩) (ev_varI rfl) rfl (by rw [List.getElem?_map, hb']; rfl)) y2 (by decide) ?_ S13.v fun w G14 H14 s14 r14 => ?_
              · refine Ev.eq (ev_I (ev_varI rfl) (ev_ixL (R := IR) (n := p) (ev_var rfl (Mono.up (s12.g.trans s13.g) rl11)) (ev_varI rfl) rfl (lget p hpm)) (fdivy pz (bd p p p (by omega) hpm (by omega)))) ?_
                exact Int.mul_fdiv_cancel_left _ pz
              · obtain rfl := r14
                have S14 := S13.trans s14
                have z1 := s14.n _ _ y2 y1
                have z2 := s14.h _ _ y2
                have S15 := (S14.mut (o := .lst ([] ++ [V.int (X p)])) x3 z1).add x3 z1 upd_same
                refine ⟨_, f2.trans ((s12.g.trans (s13.g.trans s14.g)).trans (Ex.new z1)), S15.v, .inr ⟨rfl, ⟨S15, ?_, ?_, ?_, ?_⟩, _, _, _, _, _, _, _, _, _, _, _, _, rfl⟩⟩
                · obtain ⟨g, us', h', l', r'⟩ := W13.step s14
                  have na : a ≠ b' := fun z => by
                    rw [← z, h'] at z2
                    cases z2
                    rw [List.length_nil] at l'; omega
                  exact ⟨by rw [upd_ne na]; exact g, us', by rw [upd_ne na]; exact h', l', fun i hi => by obtain ⟨w, x, y⟩ := r' i hi; exact ⟨w, x, Mono.up (Ex.new z1) y⟩⟩
                · rw [upd_ne (ne_of_none (s14.g _ _ tp13) z1)]
                  exact s14.g _ _ tp13
                · intro i c hc hi
                  by_cases e : i = p
                  · subst e
                    rw [hb'] at hc; cases hc
                    exact ⟨b', _, rfl, upd_same, by rw [← hX]; exact .cons rfl .nil⟩
                  · exact Mono.up ((s12.g.trans (s13.g.trans s14.g)).trans (Ex.new z1)) (dn11 i c hc (by omega))
                · intro i c hc hi
                  obtain ⟨w1, w2, w3⟩ := op11 i c hc (by omega)
                  have ss := s12.trans (s13.trans s14)
                  have nc : c ≠ b' := fun z => by
                    subst z
                    have := nd_ix (List.nodup_cons.mp I5.nd).2 hc hb'
                    omega
                  exact ⟨by rw [upd_ne nc]; exact ss.n _ _ w2 w1, by rw [upd_ne nc]; exact ss.h _ _ w2, w3⟩
          · rintro σ Gs Hs f1 f2 hI
            rcases hI with ⟨z, _⟩ | ⟨_, hI⟩
            · cases z
            · exact ⟨Gs, e2.trans (s8.g.trans (s9.g.trans (s10.g.trans f1))), f2, hI⟩
      · rintro σ Gq Hq e1 e2 ⟨⟨S7, W7, tp7, dn7, op7⟩, c5, c6, c7, c8, c9, c10, c12, c13, c14, c15, c16, c17, rfl⟩
        have bsl : bs.length = m := I5.l
        have en : ((m : Int) - 1 - -1).toNat = m := by omega
        rw [en] at dn7
        have rt : Ls (Ls IR) Gq (.ref tp) ((List.range m).map fun i => [solX A m i]) := ⟨tp, _, rfl, tp7, paired_of (by rw [List.length_map, List.length_map, List.length_range, bsl]) fun i hi => by
          rw [List.length_map, bsl] at hi
          refine ⟨V.ref bs[i], [solX A m i], by rw [List.getElem?_map, List.getElem?_eq_getElem (by omega)]; rfl, by rw [List.getElem?_map, List.getElem?_range hi]; rfl, dn7 i _ (List.getElem?_eq_getElem (by omega)) (by omega)⟩⟩
        refine s_ifn (b := decide (ld A m < 0)) (et_test (ev_B0 (f := fun i j => decide (i < j)) (ev_varI rfl) ev_int)) e2 (fun G8 H8 s8 hb => ?_) (fun G8 H8 s8 hb => ?_)
        · have hlt := of_decide_eq_true hb
          have S8 := S7.trans s8
          refine s_ret (R := P2 (Ls (Ls IR)) IR) (x := ((List.range m).map fun i => [svX M b m i], svB M b m)) ?_ s8.v fun w G9 H9 s9 r9 => q w G9 H9 (S8.trans s9) r9
          refine Ev.eq (ev_tup2 (ev_lcL (R := Ls IR) (ei_list (R := Ls IR) (xs := (List.range m).map fun i => [solX A m i]) (ev_var rfl (Mono.up s8.g rt))) (by rw [List.length_map, List.length_range]; omega) fun i x w G9 H9 hx s9 rx => ev_lcL (R := IR) (f := fun y : Int => -y) (ei_list (R := IR) (xs := x) (ev_var rfl rx)) ?_ fun i' x' w' G10 H10 hx' s10 rx' => ev_un (f := fun y => -y) (ev_var rfl rx')) (ev_un (f := fun y => -y) (ev_varI rfl))) ?_
          · have := List.mem_of_getElem? hx
            obtain ⟨k, _, rfl⟩ := List.mem_map.mp this
            show 1 ≤ 100000; decide
          · rw [List.map_map]
            unfold svX svB
            rw [← hA, if_pos hlt]
            refine Prod.ext (List.map_congr_left fun i _ => ?_) rfl
            show [_] = [_]
            rw [if_pos hlt]
        · have hge := of_decide_eq_false hb
          have S8 := S7.trans s8
          refine s_ret (R := P2 (Ls (Ls IR)) IR) (x := ((List.range m).map fun i => [svX M b m i], svB M b m)) ?_ s8.v fun w G9 H9 s9 r9 => q w G9 H9 (S8.trans s9) r9
          refine Ev.eq (ev_tup2 (R := Ls (Ls IR)) (S := IR) (x := (List.range m).map fun i => [solX A m i]) (y := ld A m) (ev_var rfl (Mono.up s8.g rt)) (ev_varI rfl)) ?_
          unfold svX svB
          rw [← hA, if_neg hge]
          refine Prod.ext (List.map_congr_left fun i _ => ?_) rfl
          rw [if_neg hge]

end Cy
/-! enumerate of a tuple; comprehensions of two clauses -/
namespace PySem
theorem cy_newT {v : Value} {o : Obj} {H : Heap → Prop} (Bg : Begins v o H) :
    Meets (Builtin.«enumerate.__new__» ⟨[.type "enumerate", v], []⟩) (fun _ R s => H s.heap ∧
      R (.ok (.ret (.ref (s.heap.push o).objs.size))) { s with heap := (s.heap.push o).push { cls := .type "enumerate", data := .fields #[.none, .bool false, .ref s.heap.objs.size, rawInt 0, .none, .none] } }) :=
  .of_wp fun pgm w A R s h => by
    obtain ⟨hpx, gg, d, tok, os⟩ := s
    obtain ⟨hb1, h⟩ := h
    have hsub := sub_enumerate
    have qi1 : ∀ {A' : Around} {E : Value → Shared → Prop} {Q : Value → Shared → Prop}, Q (.ref hpx.objs.size) ⟨hpx.push o, gg, d, tok, os⟩ → wpAny (model pgm w) A' (pyIter v) Q E ⟨hpx, gg, d, tok, os⟩ :=
      fun qq => Bg.iter pgm w _ _ ⟨hpx, gg, d, tok, os⟩ _ hb1 qq
    wp_walk using qi1
    refine wpAny_stack_any fun sta => wpAny_pure ?_
    split
    · rename_i cc _ _ _ _ _
      cases (cc == Value.type "enumerate")
      · wp_walk using qi1
        exact ⟨_, rfl, h⟩
      · wp_walk using qi1
        exact ⟨_, rfl, h⟩
    · wp_walk using qi1
      exact ⟨_, rfl, h⟩
theorem cy_enumB {pgm : Program} {w : World} {A : Around} {E : Value → Shared → Prop} {s : Shared} {v : Value} {o : Obj} {H : Heap → Prop} {Q : Value → Shared → Prop} (Bg : Begins v o H) (hb1 : H s.heap)
    (h : ∀ hpr, IsEnum hpr (s.heap.objs.size + 1) s.heap.objs.size 0 .none → hpr.get? s.heap.objs.size = some o → hpr.objs.size = s.heap.objs.size + 2 →
      (∀ b o, s.heap.get? b = some o → hpr.get? b = some o) → Q (.ref (s.heap.objs.size + 1)) { s with heap := hpr }) :
    wpAny (model pgm w) A (call (.type "enumerate") [v]) Q E s := by
  refine callType_new F.called_enumerate (by decide) (F.typeCall_enumerate_1 _) (F.newCall_enumerate_1 _) (fun obj => F.args_object_init_2 obj _) F.entry_enumerate_new (cy_newT Bg) ⟨hb1, ?_⟩
  have hzz : (s.heap.push o).objs.size = s.heap.objs.size + 1 := Heap.size_push ..
  show _ ∧ _
  rw [hzz]
  have hen : IsEnum ((s.heap.push o).push { cls := .type "enumerate", data := .fields #[.none, .bool false, .ref s.heap.objs.size, rawInt 0, .none, .none] }) (s.heap.objs.size + 1) s.heap.objs.size 0 .none := by
    have := Heap.get?_push_size (s.heap.push o) (o := { cls := .type "enumerate", data := .fields #[.none, .bool false, .ref s.heap.objs.size, rawInt 0, .none, .none] }) rfl
    rw [hzz] at this
    exact this
  refine ⟨⟨_, hen, rfl⟩, h _ hen (Heap.get?_push_of_some _ (Heap.get?_push_size _ Bg.free)) (by rw [Heap.size_push, hzz]) fun b o x => Heap.get?_push_of_some _ (Heap.get?_push_of_some _ x)⟩
end PySem
namespace Cy
open PySem PySem.Spec PyProof.Rows L2 He
def IteT (K : PySem.W.Frag) (a : Addr) : It :=
  ⟨fun i H => ∃ (zs : List V) (x : V), SqT K H a zs ∧ zs[i]? = some x, fun i H v H' => ∃ T x, v = .ref T ∧ H T = none ∧ H' = upd H T (.tup [.int (i : Nat), x]) ∧ ∀ zs, SqT K H a zs → zs[i]? = some x, fun i H => ∃ zs : List V, SqT K H a zs ∧ zs.length ≤ i⟩
theorem turn_enumT {P : Program} {w : World} {K : PySem.W.Frag} {elts : List Expr} {kk : Nat} {tpos : Pos} (a en it : Addr) :
    Turn P w K (.Tuple elts kk tpos) (IteT K a) [en, it] en (fun i h => (∃ was, IsEnum h en it ((i : Nat) : Int) was) ∧ h.IsTupleIter it a i ∧ en ≠ it) where
  mem := by simp
  obj := fun i h sta b hbb => by
    obtain ⟨⟨was, hen⟩, ⟨o, ho, hcl, hd⟩, _⟩ := sta
    have which : b = en ∨ b = it := by simpa using hbb
    rcases which with zq | zq
    · rw [zq]; exact ⟨_, hen, fun v qq => nomatch qq⟩
    · rw [zq]; exact ⟨o, ho, fun v qq => by rw [hd] at qq; cases qq⟩
  keep := fun i h hpr sta k => let ⟨⟨was, hen⟩, hii, hds⟩ := sta; ⟨⟨was, k en (by simp) _ hen⟩, hii.at fun o qq => k it (by simp) o qq, hds⟩
  item := by
    intro X eqP eqW eqK hcl i pin s σ H E Iv hfp sta hgo
    subst eqP eqW eqK
    obtain ⟨⟨was, hen⟩, hjt, hds⟩ := sta
    obtain ⟨zs, x, htq, hxi⟩ := hgo
    obtain ⟨cel, rce, p, hzz⟩ := Iv.tuple htq
    obtain ⟨uu, hui, rui⟩ := rce.get hxi
    have lt1 : en < s.heap.objs.size := Heap.lt_size hen
    have lt2 : it < s.heap.objs.size := by obtain ⟨_, qq, _⟩ := hjt; exact Heap.lt_size qq
    have ne1 : en ≠ a := fun zq => by
      obtain ⟨o, ho, hc', _⟩ := p
      rw [← zq, hen] at ho
      cases ho
      exact absurd hc' (by simp)
    have ne2 : a ≠ it := fun zq => by
      obtain ⟨o, ho, hc', _⟩ := p
      obtain ⟨o2, ho2, hc2, _⟩ := hjt
      rw [zq, ho2] at ho
      cases ho
      rw [hc2] at hc'
      exact absurd hc' (by simp)
    have hii : i < cel.toArray.size := by
      obtain ⟨qq, _⟩ := List.getElem?_eq_some_iff.mp hui
      simpa using qq
    refine wpAny_pyNext_enum_itemD (Draws.tuple (A := X.A.in1) (show X.A.in1.handled = none from Iv.ok.hd hcl) it a ne2 cel.toArray) hen ⟨hjt, p⟩ hii hds (by simp [hds, ne1]) fun x' hpr tok eqP ho hst hty hsz2 hkp => ?_
    have ex : x' = uu := by
      have : cel.toArray[i]? = some uu := by simpa using hui
      rw [this] at eqP
      cases eqP; rfl
    subst ex
    refine ⟨_, rfl, wpAny_letOwnedTupleGo_enum (s := { s with heap := hpr, toks := tok + 1 }) ho fun h'' he' sb => ?_⟩
    have hty2 : h''.get? s.heap.objs.size = some { cls := .type "tuple", data := .seq #[.int i tok, x'] } := (sb.2 _ (Nat.ne_of_gt lt1)).trans hty
    have fre : ObjOk X.prog X.w (upd H s.heap.objs.size (.tup [.int (i : Nat), x])) h'' s.heap.objs.size (.tup [.int (i : Nat), x]) :=
      ⟨by show 2 ≤ sizeLine; decide, [.int i tok, x'], .cons ⟨_, rfl⟩ (.cons rui .nil), ⟨_, hty2, rfl, _, rfl⟩⟩
    have Iv1 : Inv X pin σ (upd H s.heap.objs.size (.tup [.int (i : Nat), x])) { s with heap := h'', toks := tok + 1 } :=
      Iv.turnedNew (ch := [en, it]) (fun b ob hbb qq => (sb.2 b (fun zq => hbb (by simp [zq]))).trans (hkp b ob (fun zq => hbb (by simp [zq])) (fun zq => hbb (by simp [zq])) qq)) hfp (Nat.le_refl _) fre
    refine ⟨.ref s.heap.objs.size, _, Iv1, rfl, ⟨_, x, rfl, Iv.hok.fresh (Nat.le_refl _), rfl, fun ys hys => by rw [Iv.tuple_inj hys htq]; exact hxi⟩, ⟨⟨x', ?_⟩, hst.1.at fun o qq => (sb.2 it (Ne.symm hds)).trans qq, hds⟩, fun b hbb => ?_⟩
    · have ee1 : ((i + 1 : Nat) : Int) = (i : Int) + 1 := by omega
      rw [ee1]; exact he'
    · have hbl : b < s.heap.objs.size := by
        have which : b = en ∨ b = it := by simpa using hbb
        rcases which with zq | zq
        · rw [zq]; exact lt1
        · rw [zq]; exact lt2
      rw [upd_ne (Nat.ne_of_lt hbl)]
      exact (hfp b hbb).1
  done := by
    intro X eqP eqW eqK hcl i pin s σ H E Iv hfp sta hgo
    subst eqP eqW eqK
    obtain ⟨⟨was, hen⟩, hjt, hds⟩ := sta
    obtain ⟨zs, htq, hxi⟩ := hgo
    obtain ⟨cel, rce, p, hzz⟩ := Iv.tuple htq
    obtain ⟨g0, g1, g2, g3, g4, g5⟩ := hfp it (by simp)
    have hl := rce.length
    have hh := Iv.ok.hd hcl
    have hty : s.TypeIs (.ref en) "enumerate" := ⟨_, hen, rfl⟩
    unfold pyNext
    refine wpAny_bind (wpAny_attempt (wpAny_callSpecial?_slot (name := Str.ofString "__next__") hty PySem.F.slot_enumerate_next
      (wpAny_call_entry PySem.F.slot_enumerate_next hty PySem.F.entry_enumerate_next ?_ (PySem.F.args_enumerate_next_1 _))))
    show wpAny _ _ (field (.ref en) 2 >>= _) _ _ _
    refine wpAny_bind (wpAny_field hen rfl (x := .ref it) rfl ?_)
    refine wpAny_bind (wpAny_nextOf_tuple_end hh hjt p (by simp; omega) fun hpr x he' hx' => ?_)
    obtain ⟨o, ho, hcl⟩ := hx'
    refine wpAny_bind (wpAny_isInstance (T := "StopIteration") (b := true) ⟨o, ho, hcl⟩ isSubtype_stop ?_)
    exact wpAny_pure ⟨rfl, Iv.turned (t' := s.toks) (fun b o hbb qq => he' b o hbb qq) g0 g1 g3 g4 g5⟩
  self := fun A i s Q E sta h => let ⟨⟨_, hen⟩, _⟩ := sta; wpAny_pyIter_enum hen h
def iEnumT (K : PySem.W.Frag) (ta : TA) : TI := fun σ H R => ta σ H fun vs H1 => ∃ a zs, vs = [.ref a] ∧ SqT K H1 a zs ∧ R (IteT K a) H1
theorem pi_enumT {X : Cx} {en : Expr} {ta : TA} {p pos tpos : Pos} {elts : List Expr} {kk : Nat} (hgo : Gl X "enumerate") (hm : X.mg "enumerate" = none) (ha : PA X [en] ta) (hs : starEach [en] X.env = [(false, eval en X.env)] := by rfl) :
    PI X (.Tuple elts kk tpos) (.Call (.Name "enumerate" p) [en] [] pos) (iEnumT X.K ta) := by
  refine ⟨fun pin s σ H R Iv h => ?_⟩
  refine Call_ (ld_blt Iv hgo hm boot_enumerate (PyProof.Rows.callWith_type1 (thn (ha.run pos pin s σ H _ Iv h) fun us s1 ⟨vs, H1, Iv1, rr1, qi1⟩ => ?_) hs rfl))
  obtain ⟨a, zs, ex, htq, qq⟩ := qi1
  subst ex
  cases rr1 with
  | cons r rr =>
    cases rr
    cases r
    obtain ⟨cel, rce, p', hzz⟩ := Iv1.tuple htq
    refine cy_enumB (begins_tuple a cel.toArray) p' fun hpr hen hjt hsz2 hkp => wpAny_pyIter_enum hen ?_
    have Iv2 : Inv X pin σ H1 { s1 with heap := hpr } := Iv1.kept (t' := s1.toks) hkp
    refine ⟨s1.heap.objs.size + 1, [s1.heap.objs.size + 1, s1.heap.objs.size], _, _, H1, rfl, Iv2, turn_enumT a (s1.heap.objs.size + 1) s1.heap.objs.size, ⟨⟨.none, hen⟩, ⟨_, hjt, rfl, rfl⟩, Nat.succ_ne_self _⟩, fun b hbb => ?_, qq⟩
    have which : b = s1.heap.objs.size + 1 ∨ b = s1.heap.objs.size := by simpa using hbb
    have lowb : s1.heap.objs.size ≤ b := by
      rcases which with zq | zq
      · rw [zq]; exact Nat.le_add_right _ _
      · rw [zq]; exact Nat.le_refl _
    exact Iv1.fpOk lowb (Iv1.hok.fresh lowb)
theorem walk_enumT {K : PySem.W.Frag} {a : Addr} {zs : List V} : Walk (IteT K a) zs.length (fun H => SqT K H a zs) (YPair (fun i => some (.int (i : Nat))) (fun i => zs[i]?)) := by
  refine ⟨fun i _ hii qq => ⟨zs, zs[i], qq, by simp [hii]⟩, fun _ qq => ⟨zs, qq, Nat.le_refl _⟩, fun i H v H' _ qq y => ?_⟩
  obtain ⟨T, x, hb1, h2, h3, h4⟩ := y
  exact ⟨T, .int (i : Nat), x, hb1, h2, h3, rfl, h4 zs qq⟩
section
variable {α β γ : Type} {K : PySem.W.Frag} {σ : L2.St} {G H : Hp} {te tl : TE} {tt : TT} {ta : TA} {wi : TI} {R : Rel α} {S : Rel β}
theorem ei_enumT [Mono R] {xs : List α} (h : EvA ta σ G H (AC (Tp R) xs A0)) : EvI (iEnumT K ta) σ G H xs.length (fun i G v => ∃ y, xs[i]? = some y ∧ P2 NR R G v (i, y)) := fun G1 H1 s Q k =>
  h G1 H1 s _ fun vs G2 H2 s2 ⟨v, r, e1, ⟨a, us, ev, ha, p⟩, e3⟩ => by
    subst e1 e3 ev
    refine ⟨a, us, rfl, SqT.of (s2.v _ _ ha), k _ G2 H2 _ _ s2 (by rw [← paired_len p]; exact walk_enumT) (fun H' e => SqT.of (e _ _ ha)) fun i G' H' v H'' _ e1 e y => ?_⟩
    obtain ⟨G'', T, x, y, s3, ev, hT, hx, hy⟩ := ypair_ok e y
    obtain ⟨y', hy', ry⟩ := paired_get2 p hy
    exact ⟨G'', s3, y', hy', T, x, y, ev, hT, (Option.some.inj hx).symm, Mono.up (e1.trans s3.g) ry⟩
end
end Cy
/-! comprehensions of two clauses -/
namespace Cy
open PySem PySem.Spec PyProof.Rows L2 He
theorem walk_it {J : It} {n : Nat} {GH : Hp → Prop} {Y : Nat → Hp → V → Hp → Prop} (wk0 : Walk J n GH Y) {H0 : Hp} {Qd : Hp → Prop} (St : (Hp → Prop) → V → Hp → Prop) (Pr : Nat → Hp → Prop) (h0 : Pr 0 H0) (hGo : ∀ i H, i ≤ n → Pr i H → GH H)
    (hs : ∀ i x H H', i < n → Pr i H → Y i H x H' → St (Pr (i + 1)) x H') (hdn : ∀ H, Pr n H → Qd H) :
    ∃ W : Nat → Nat → Hp → Prop, (∃ m, W 0 m H0) ∧ ∀ i m H, W i m H → (J.stop i H ∧ Qd H) ∨ (J.go i H ∧ ∃ Nx : Hp → Prop, (∀ H', Nx H' → ∃ m', m' < m ∧ W (i + 1) m' H') ∧ ∀ x H', J.yld i H x H' → St Nx x H') := by
  refine ⟨fun i m H => m = n - i ∧ i ≤ n ∧ Pr i H, ⟨n, by simp, Nat.zero_le _, h0⟩, ?_⟩
  rintro i m H ⟨rfl, hi, p⟩
  have q := hGo i H hi p
  by_cases low : i < n
  · refine .inr ⟨wk0.goes i H low q, Pr (i + 1), fun H' p' => ⟨n - (i + 1), by omega, rfl, low, p'⟩, fun x H' y => hs i x H H' low p (wk0.yields i H x H' low q y)⟩
  · have e : i = n := by omega
    subst e
    exact .inl ⟨wk0.stops H q, hdn H p⟩
section
variable {α β γ : Type} {K : PySem.W.Frag} {σ : L2.St} {G H : Hp} {te : TE} {tt1 : TT} {wi wi1 : TI} {S : Rel β} {n m : Nat} {x y : Nat → V} {a b : Nat}
theorem lc_turnE [Mono S] {tt : TT} {G0 H0 G' H' : Hp} {Dl : Addr} {ys : List β} {us : List V} {σ2 : L2.St} {vs : List Nat} {o : Option β} {Nx : Hp → Prop} (hD : H0 Dl = none) (I : LcI G0 H0 Dl S ys G' H' us) (hw : wipe σ2 vs = wipe σ vs) (ht : EvT tt σ2 G' H' o.isSome) (he : ∀ y, o = some y → Ev te σ2 G' H' S y) (hz : ys.length < 100000)
    (k : ∀ G'' H'' us', Ex G' G'' → LcI G0 H0 Dl S (ys ++ o.toList) G'' H'' us' → Nx H'') :
    wipe σ2 vs = wipe σ vs ∧ tt σ2 H' fun b H3 => if b = true then te σ2 H3 fun y H4 => ∃ acc, H4 Dl = some (.lst acc) ∧ acc.length < sizeLine ∧ Nx (upd H4 Dl (.lst (acc ++ [y]))) else Nx H3 := by
  refine ⟨hw, ht.run I.s.v fun G3 H3 s3 => ?_⟩
  cases o with
  | none => exact iteF (k G3 H3 us s3.g (by have := I.same s3; rw [show ys ++ (none : Option β).toList = ys by simp]; exact this))
  | some y =>
    refine iteT ((he y rfl) G3 H3 s3 _ fun v G4 H4 s4 r => ?_)
    obtain ⟨acc, a1, a2, a3⟩ := I.more hD (s3.trans s4) r hz
    exact ⟨acc, a1, a2, k G4 _ (us ++ [v]) (s3.g.trans s4.g) a3⟩
theorem ev_lc2 [Mono S] (hab : a ≠ b) {f : Nat → Nat → Option β} (h : EvI wi σ G H n (fun i _ v => v = x i)) (hz : n * m ≤ 10000)
    (h1 : ∀ (i : Nat) G' H', i < n → Stp G H G' H' → EvI wi1 ((wipe σ [a, b]).set a (some (x i))) G' H' m (fun j _ v => v = y j))
    (ht : ∀ (i j : Nat) G' H', i < n → j < m → Stp G H G' H' → EvT tt1 ((wipe ((wipe σ [a, b]).set a (some (x i))) [b]).set b (some (y j))) G' H' (f i j).isSome)
    (he : ∀ (i j : Nat) z G' H', i < n → j < m → Stp G H G' H' → f i j = some z → Ev te ((wipe ((wipe σ [a, b]).set a (some (x i))) [b]).set b (some (y j))) G' H' S z) :
    Ev (tLc2 wi (gName a) tYes wi1 (gName b) tt1 te [a, b] [b]) σ G H (Ls S) ((List.range n).flatMap fun i => (List.range m).filterMap (f i)) := fun G0 H0 s0 Q q =>
  h G0 H0 s0 _ fun J G1 H1 GH Y s1 w hG hY D hD => by
    have len1 : ∀ i : Nat, ((List.range i).flatMap fun i => (List.range m).filterMap (f i)).length ≤ i * m := fun i => by
      induction i with
      | zero => simp
      | succ i ih =>
        rw [List.range_succ, List.flatMap_append, List.length_append, Nat.succ_mul]
        have : ([i].flatMap fun i => (List.range m).filterMap (f i)).length ≤ m := by
          rw [List.flatMap_singleton]
          exact Nat.le_trans (List.length_filterMap_le _ _) (by rw [List.length_range]; exact Nat.le_refl _)
        omega
    refine walk_it w (fun Nx v H' => gName a v (wipe σ [a, b]) H' fun σ2 H2 => wipe σ2 [a, b] = wipe σ [a, b] ∧ tYes σ2 H2 fun bb H3 => if bb = true then wi1 σ2 H3 fun J1 H4 => ∃ W1 : Nat → Nat → Hp → Prop, (∃ m, W1 0 m H4) ∧ ∀ j k H, W1 j k H →
      (J1.stop j H ∧ Nx H) ∨ (J1.go j H ∧ ∃ Nx1 : Hp → Prop, (∀ H', Nx1 H' → ∃ k', k' < k ∧ W1 (j + 1) k' H') ∧ ∀ x H', J1.yld j H x H' → gName b x (wipe σ2 [b]) H' fun σ3 H5 => wipe σ3 [b] = wipe σ2 [b] ∧ tt1 σ3 H5 fun b H6 =>
        if b = true then te σ3 H6 fun y H7 => ∃ held, H7 D = some (.lst held) ∧ held.length < sizeLine ∧ Nx1 (upd H7 D (.lst (held ++ [y]))) else Nx1 H6)
      else Nx H3) (fun i H' => ∃ G' us, LcI G1 H1 D S ((List.range i).flatMap fun i => (List.range m).filterMap (f i)) G' H' us) ⟨G1, [], LcI.start s1.v hD⟩
      (fun i H' _ ⟨G', us, I⟩ => hG H' (I.s.g.trans I.s.v)) ?_ (fun H' ⟨G', us, I⟩ => by
        obtain ⟨s2, r⟩ := I.done hD
        exact q (.ref D) _ H' (s1.trans s2) r)
    rintro i v H' H'' hi ⟨G', us, I⟩ yy
    obtain ⟨G2, s2, rfl⟩ := hY i G' H' v H'' hi I.s.g I.s.v yy
    have I2 := I.same s2
    refine ⟨?_, ?_⟩
    · show (((σ.set b none).set a none).set a (some (x i)) |>.set b none |>.set a none) = (σ.set b none).set a none
      rw [List.set_set, List.set_comm _ _ hab, List.set_set, List.set_set]
    · refine iteT (B := ∃ G' us, LcI G1 H1 D S ((List.range (i + 1)).flatMap fun i => (List.range m).filterMap (f i)) G' H'' us) ?_
      refine h1 i G2 H'' hi ((s0.trans s1).trans I2.s) G2 H'' (Stp.refl s2.v) _ fun J1 G3 H3 GH1 Y1 s3 w1 hG1 hY1 => ?_
      have I3 := I2.same s3
      refine walk_it w1 (fun Nx1 v H' => gName b v (wipe ((wipe σ [a, b]).set a (some (x i))) [b]) H' fun σ3 H5 => wipe σ3 [b] = wipe ((wipe σ [a, b]).set a (some (x i))) [b] ∧ tt1 σ3 H5 fun b H6 =>
        if b = true then te σ3 H6 fun y H7 => ∃ held, H7 D = some (.lst held) ∧ held.length < sizeLine ∧ Nx1 (upd H7 D (.lst (held ++ [y]))) else Nx1 H6)
        (fun j H' => ∃ G' us, Ex G3 G' ∧ LcI G1 H1 D S (((List.range i).flatMap fun i => (List.range m).filterMap (f i)) ++ (List.range j).filterMap (f i)) G' H' us) ⟨G3, us, Ex.refl _, by rw [List.range_zero, List.filterMap_nil, List.append_nil]; exact I3⟩
        (fun j H' _ ⟨G', us, e', I⟩ => hG1 H' (e'.trans I.s.v)) ?_ (fun H' ⟨G', us, e', I⟩ => ⟨G', us, by
          rw [List.range_succ, List.flatMap_append, List.flatMap_singleton]; exact I⟩)
      rintro j v1 Ha Hb hj ⟨G4, us4, e4, I4⟩ y1
      obtain ⟨G5, s5, rfl⟩ := hY1 j G4 Ha v1 Hb hj e4 I4.s.v y1
      have I5 := I4.same s5
      refine lc_turnE (σ := (wipe σ [a, b]).set a (some (x i))) (vs := [b]) (o := f i j) hD I5 (wipe1 _ _ _) (ht i j G5 Hb hi hj ((s0.trans s1).trans I5.s)) (fun z hz => he i j z G5 Hb hi hj ((s0.trans s1).trans I5.s) hz) ?_ fun G6 H6 us' e6 I6 => ?_
      · rw [List.length_append]
        have l1 := len1 i
        have l2 : ((List.range j).filterMap (f i)).length ≤ j := Nat.le_trans (List.length_filterMap_le _ _) (by rw [List.length_range]; exact Nat.le_refl _)
        have : i * m + m ≤ n * m := by rw [← Nat.succ_mul]; exact Nat.mul_le_mul_right _ hi
        omega
      · refine ⟨G6, us', e4.trans (s5.g.trans e6), ?_⟩
        rw [List.range_succ, List.filterMap_append, ← List.append_assoc]
        rw [show [j].filterMap (f i) = (f i j).toList by cases hf : f i j <;> simp [hf]]
        exact I6
end
end Cy
namespace Cy
open PySem PySem.Spec PyProof.Rows L2 He
local macro_rules | `(tactic| tm_at "ex") => `(tactic| first
  | exact Ex.refl _ | assumption | exact Stp.g (by assumption) | exact Stp.v (by assumption)
  | (refine Ex.trans (Stp.g (by assumption)) ?_; tm_at "ex")
  | (refine Ex.trans (by assumption) ?_; tm_at "ex"))
local macro_rules | `(tactic| tm_at "rl") => `(tactic| first
  | exact rfl | assumption | (apply Mono.up; rotate_left; assumption; tm_at "ex"))
local macro_rules | `(tactic| tm_at "sc") => `(tactic| first | assumption | omega)
local macro_rules | `(tactic| tm_at "ev") => `(tactic| first
  | exact ev_int | exact ev_bl | assumption
  | (apply ev_varI; exact rfl)
  | (apply ev_var; exact rfl; tm_at "rl")
  | (apply ev_I0; tm_at "ev"; tm_at "ev")
  | (apply ev_B0; tm_at "ev"; tm_at "ev")
  | (apply ev_I; tm_at "ev"; tm_at "ev"; tm_at "sc")
  | (apply ev_un; tm_at "ev")
  | (apply ev_eqI; tm_at "ev"; tm_at "ev")
  | (apply ev_neI; tm_at "ev"; tm_at "ev")
  | (apply ev_fstI; tm_at "ev")
  | (apply ev_sndI; tm_at "ev")
  | (apply ev_max2; tm_at "ev"; tm_at "ev")
  | (apply ev_min2; tm_at "ev"; tm_at "ev")
  | (apply ev_abs; tm_at "ev")
  | (apply ev_int1; tm_at "ev")
  | (apply ev_bits; tm_at "ev")
  | (apply ev_gcd; tm_at "ev"; tm_at "ev")
  | (apply ev_len; tm_at "ev")
  | (apply ev_tup2; tm_at "ev"; tm_at "ev"))
local macro_rules | `(tactic| tm_at "ea") => `(tactic| first
  | exact ea_nil
  | (apply ea_consI; tm_at "ev"; tm_at "ea")
  | (apply ea_cons; tm_at "ev"; tm_at "ea"))
local macro_rules | `(tactic| tm_at "et") => `(tactic| first
  | (apply et_test; tm_at "ev")
  | (apply et_B; tm_at "ev")
  | (apply et_not; tm_at "et"))

open Cr
theorem ev_notN {ta : TE} {σ : L2.St} {G H : Hp} {v : V} (ha : Ev ta σ G H VR v) : Ev (tOp (fun x y H Q => y = .non ∧ Q (.bl (!decide (x = .non))) H) ta (tC .non)) σ G H BR (!decide (v = .non)) :=
  ev_op ha ev_c fun G' x y _ e1 e2 G1 H1 _ v1 Q q => by
    obtain rfl : x = v := e1
    obtain rfl : y = .non := e2
    exact ⟨rfl, q _ G1 H1 (Stp.refl v1) rfl⟩
/-! ### worlds -/
def AbR : Rel (Option (List Int)) := fun G v o => match o with
  | none => v = .non
  | some r => Tp IR G v r
instance : Mono AbR := ⟨fun {G G' v x} e h => by
  cases x with
  | none => exact h
  | some r => exact Mono.up (R := Tp IR) e h⟩
structure RwOk (es : List Int) (n at_ : Nat) (ab : Option (List Int)) : Prop where
  l : es.length = n
  p : ∀ x, x ∈ es → 0 ≤ x
  z : es[at_]? = some 0
  a : ∀ r, ab = some r → r.length = n ∧ ∀ (k : Nat) (x y : Int), es[k]? = some x → r[k]? = some y → 0 < x → y ≠ 0
abbrev N__worlds_row : List Str := ["entries", "size", "at", "above", "k", "entry"]
abbrev P__worlds_row : List Str := ["entries", "size", "at", "above"]
theorem sc__worlds_row : FnScope N__worlds_row P__worlds_row (defScope s__worlds_row) := ⟨rfl, rfl, rfl, by decide +kernel, rfl, by decide +kernel, by decide +kernel⟩
def sp__worlds_row (K : PySem.W.Frag) : Sp := Pu (fun (x : (List Int × Nat × Nat) × Option (List Int)) vs G => (RwOk x.1.1 x.1.2.1 x.1.2.2 x.2 ∧ x.1.2.1 ≤ 1000) ∧ AC (Ls IR) x.1.1 (AC NR x.1.2.1 (AC NR x.1.2.2 (AC AbR x.2 A0))) vs G) (fun x G u => Tp IR G u x.1.1)
theorem len__worlds_row {K : PySem.W.Frag} {vs : List V} {H : Hp} {Q : VK} {E : XK} (h : sp__worlds_row K vs H Q E) : vs.length = P__worlds_row.length := by
  obtain ⟨G, x, e, ⟨_, a⟩, _⟩ := h
  obtain ⟨_, _, _, _, rfl, _⟩ := ac4 a; rfl
theorem ok__worlds_row {P : Program} {w : World} {K : PySem.W.Frag} {mg : Str → Option Value} {base : Heap} {k : Nat} (T : Tx K mg) (G_is_whole : Ok P w K mg base k "is_whole" P_is_whole (sp_is_whole K)) : Ok P w K mg base (k + 1) "_worlds_row" P__worlds_row (sp__worlds_row K) := by
  obtain ⟨fd_is_whole, G_is_whole, B_is_whole, K_is_whole⟩ := G_is_whole
  refine ok_of T.d__worlds_row sc__worlds_row (fun _ _ _ _ _ _ us hl => match us, hl with | [_, _, _, _], _ => rfl) (fun vs H Q E h => ?_) (fun f cdv A outer s H vs Q E hr h => ?_)
  · exact len__worlds_row h
  · refine ⟨_, (pss_cons (ps_if (PW.pt (pw_or (pt_not (pt_val (pe_callB call_isiT (by rfl) T.f_isinstance (by decide +kernel) (pa_cons (pv 0) (pa_cons (pe_tup (pa_cons (pe_bltn (v := .ty "tuple") (by rfl) T.f_tuple (by decide +kernel) rfl) (pa_cons (pe_bltn (v := .ty "list") (by rfl) T.f_list (by decide +kernel) rfl) pa_nil))) pa_nil))))) (pw_or1 (pt_cmpR op_ne (pe_callB call_len_seq (by rfl) T.f_len PySem.boot_len (pa_cons (pv 0) pa_nil)) (pv 1) (nomark _))))) (pss_one ps_never) pss_nil)
      (pss_cons (ps_for PassesOwn.never rfl (pi_enum (by rfl) T.f_enumerate (pa_cons (pv 0) pa_nil)) (pg_tup (by rfl) (pgs_cons (pg_name (i := 4) sc__worlds_row.nd rfl (by first | exact Or.inl rfl | exact Or.inr rfl)) (pgs_cons (pg_name (i := 5) sc__worlds_row.nd rfl (by first | exact Or.inl rfl | exact Or.inr rfl)) pgs_nil))) (pss_cons (ps_if (PW.pt (pw_or (pt_not (pt_val (pe_call G_is_whole hr (by rfl) T.g_is_whole K_is_whole B_is_whole .nil pass0 (pa_cons (pv 5) pa_nil)))) (pw_or (pt_cmpR op_lt (pv 5) pe_int (nomark _)) (pw_or1 (PW.pt (pw_and (pt_cmpR op_eq (pv 4) (pv 2) (nomark _)) (pw_and1 (pt_cmpR op_ne (pv 5) pe_int (nomark _))))))))) (pss_one ps_never) pss_nil)
      (pss_one (ps_if (PW.pt (pw_and (pt_cmpR op_notN (pv 3) pe_non (nomark _)) (pw_and (pt_cmpR op_gt (pv 5) pe_int (nomark _)) (pw_and1 (pt_cmpR op_eq (pe_ix ix_tup (pv 3) (pv 4) (fun _ _ => rfl)) pe_int (nomark _)))))) (pss_one ps_never) pss_nil))))
      (pss_one (ps_ret (pe_callTy call_tuple_of (by rfl) T.f_tuple (by decide +kernel) (pa_cons (pv 0) pa_nil)))))), ?_⟩
    obtain ⟨G, ⟨⟨es, n, at_⟩, ab⟩, e, ⟨⟨ho, hn⟩, hv⟩, q⟩ := h
    dsimp only at ho hn hv q
    obtain ⟨u, v1, v2, v, rfl, hu, rfl, rfl, hvv⟩ := ac4 hv
    refine s_chk (et_or (b := false) (c := false) (et_not (b := true) (et_B (ev_isiTL (ev_tysL (R := IR) (xs := es) (ev_var rfl hu)) (.inl rfl)))) fun _ => ?_) e fun G1 H1 s1 => ?_
    · exact et_test ((ev_neI (ev_lenL (R := IR) (xs := es) (ev_var rfl hu)) (ev_varI rfl)).eq (by rw [decide_eq_true (by rw [ho.l])]; rfl))
    refine s_for (I := fun i σ G' H' => Stp G H G' H' ∧ ∃ c d, σ = [some u, some (.int (n : Int)), some (.int (at_ : Int)), some v, c, d]) (ei_enum (R := IR) (xs := es) (ea_cons (ev_var rfl (Mono.up s1.g hu)) ea_nil)) s1.v ?_ ?_ ?_
    · exact fun G2 H2 s2 => ⟨s1.trans s2, none, none, rfl⟩
    · rintro i w σ Gp Hq G' H' G1' hi e1 e2 ⟨S2, c, d, rfl⟩ s3 ⟨y, hy, rp⟩
      have S3 := S2.trans s3
      refine g_pair s3.v rp fun w1 w2 r1 r2 => ?_
      obtain rfl := r1
      obtain rfl := r2
      have y0 := ho.p y (List.mem_of_getElem? hy)
      refine s_chk (et_or (b := false) (c := false) (et_not (b := true) (et_whole (ev_varI rfl))) fun _ => et_or (b := false) (c := false) (EvT.eq (et_test (ev_B0 (f := fun i j => decide (i < j)) (ev_varI rfl) ev_int)) (decide_eq_false (by omega))) fun _ => ?_) s3.v fun G4 H4 s4 => ?_
      · refine EvT.eq (et_and (et_test (ev_eqI (ev_varI rfl) (ev_varI rfl))) fun _ => et_test (ev_neI (ev_varI rfl) ev_int)) ?_
        by_cases z : i = at_
        · subst z
          have := ho.z
          rw [hy] at this
          cases this
          rw [decide_eq_true rfl, decide_eq_true rfl]; rfl
        · rw [decide_eq_false (by intro h; exact z (by exact Int.ofNat.inj h))]; rfl
      · have S4 := S3.trans s4
        refine s_if (b := false) ?_ s4.v (fun _ _ _ z => by cases z) fun G5 H5 s5 _ => ⟨G5, e2.trans (s3.g.trans (s4.g.trans s5.g)), s5.v, S4.trans s5, _, _, rfl⟩
        have hv4 := Mono.up S4.g hvv
        cases ab with
        | none =>
          obtain rfl : v = .non := hv4
          exact et_and (b := false) (c := false) (et_test ((ev_notN (ev_var (R := VR) rfl rfl)).eq (by rfl))) fun z => by cases z
        | some r =>
          obtain ⟨hl, hr⟩ := ho.a r rfl
          have hv5 : Tp IR G4 v r := hv4
          obtain ⟨y', hy'⟩ : ∃ y', r[i]? = some y' := ⟨_, List.getElem?_eq_getElem (by rw [hl, ← ho.l]; exact hi)⟩
          refine EvT.eq (et_and (b := true) (et_test ((ev_notN (ev_var (R := VR) rfl rfl)).eq (by
            obtain ⟨a, us, rfl, _⟩ := hv5
            rfl))) fun _ => et_and (et_test (ev_B0 (f := fun i j => decide (j < i)) (ev_varI rfl) ev_int)) fun _ => et_test (ev_eqI (ev_ixT (R := IR) (n := i) (xs := r) (ev_var rfl hv5) (ev_varI rfl) rfl hy') ev_int)) ?_
          by_cases z : 0 < y
          · rw [decide_eq_true z, decide_eq_false (hr i y y' hy hy' z)]; rfl
          · rw [decide_eq_false z]; rfl
    · rintro σ G' H' e1 e2 ⟨S2, c, d, rfl⟩
      exact s_ret (R := Tp IR) (x := es) (ev_tupleOf (ev_var rfl (Mono.up S2.g hu))) S2.v fun w G3 H3 s3 r => q w G3 H3 (S2.trans s3) r
abbrev N__worlds_takes : List Str := ["takes", "size", "i"]
abbrev P__worlds_takes : List Str := ["takes"]
theorem sc__worlds_takes : FnScope N__worlds_takes P__worlds_takes (defScope s__worlds_takes) := ⟨rfl, rfl, rfl, by decide +kernel, rfl, by decide +kernel, by decide +kernel⟩
def sp__worlds_takes (K : PySem.W.Frag) : Sp := Pu (fun (x : Wd) vs G => WOk x ∧ AC MxL x.t A0 vs G) (fun x G u => MxT G u x.t)
theorem len__worlds_takes {K : PySem.W.Frag} {vs : List V} {H : Hp} {Q : VK} {E : XK} (h : sp__worlds_takes K vs H Q E) : vs.length = P__worlds_takes.length := by
  obtain ⟨G, x, e, ⟨_, a⟩, _⟩ := h
  obtain ⟨_, rfl, _⟩ := ac1 a; rfl
theorem range_map {α : Type} {l : List α} {n : Nat} (h : l.length = n) (d : α) : (List.range n).map (fun i => l.getD i d) = l := by
  subst h
  have := map_getD l d id
  rwa [List.map_id] at this
theorem Sqm.rowOk {w : Wd} (h : WOk w) {i : Nat} (hi : i < w.n) : ∃ r, w.t[i]? = some r ∧ RwOk r w.n i none := by
  obtain ⟨r, e, hl, hr⟩ := h.st.row hi
  refine ⟨r, e, hl, fun x hx => ?_, by rw [hr i hi, h.td i hi], fun _ z => by cases z⟩
  obtain ⟨j, hj⟩ := (List.mem_iff_getElem?.mp hx)
  have lj : j < w.n := by rw [← hl]; exact (List.getElem?_eq_some_iff.mp hj).1
  rw [hr j lj] at hj
  cases hj
  exact (h.t0 i j hi lj).1
theorem Sqm.rowOkC {w : Wd} (h : WOk w) {i : Nat} (hi : i < w.n) : ∃ r r', w.c[i]? = some r ∧ w.t[i]? = some r' ∧ RwOk r w.n i (some r') := by
  obtain ⟨r, e, hl, hr⟩ := h.sc.row hi
  obtain ⟨r', e', hl', hr'⟩ := h.st.row hi
  refine ⟨r, r', e, e', hl, fun x hx => ?_, ?_, fun r2 z => ?_⟩
  · obtain ⟨j, hj⟩ := List.mem_iff_getElem?.mp hx
    have lj : j < w.n := by rw [← hl]; exact (List.getElem?_eq_some_iff.mp hj).1
    rw [hr j lj] at hj
    cases hj
    exact (h.c0 i j hi lj).1
  · rw [hr i hi]
    have := (h.c0 i i hi hi).1
    by_cases z : 0 < at2 w.c i i
    · have := h.tc i i hi hi z
      rw [h.td i hi] at this
      omega
    · rw [show at2 w.c i i = 0 by omega]
  · cases z
    refine ⟨hl', fun k x y hx hy hp => ?_⟩
    have lk : k < w.n := by rw [← hl]; exact (List.getElem?_eq_some_iff.mp hx).1
    rw [hr k lk] at hx
    rw [hr' k lk] at hy
    cases hx; cases hy
    have := h.tc i k hi lk hp
    omega
theorem ok__worlds_takes {P : Program} {w : World} {K : PySem.W.Frag} {mg : Str → Option Value} {base : Heap} {k : Nat} (T : Tx K mg) (G__worlds_row : Ok P w K mg base k "_worlds_row" P__worlds_row (sp__worlds_row K)) : Ok P w K mg base (k + 1) "_worlds_takes" P__worlds_takes (sp__worlds_takes K) := by
  obtain ⟨fd__worlds_row, G__worlds_row, B__worlds_row, K__worlds_row⟩ := G__worlds_row
  refine ok_of T.d__worlds_takes sc__worlds_takes (fun _ _ _ _ _ _ us hl => match us, hl with | [_], _ => rfl) (fun vs H Q E h => ?_) (fun f cdv A outer s H vs Q E hr h => ?_)
  · exact len__worlds_takes h
  · refine ⟨_, (pss_cons (ps_if (PW.pt (pw_or (pt_not (pt_val (pe_callB call_isiT (by rfl) T.f_isinstance (by decide +kernel) (pa_cons (pv 0) (pa_cons (pe_tup (pa_cons (pe_bltn (v := .ty "tuple") (by rfl) T.f_tuple (by decide +kernel) rfl) (pa_cons (pe_bltn (v := .ty "list") (by rfl) T.f_list (by decide +kernel) rfl) pa_nil))) pa_nil))))) (pw_or1 (pt_not (pt_chain op_le op_le pe_int (pe_callB call_len_seq (by rfl) T.f_len PySem.boot_len (pa_cons (pv 0) pa_nil)) pe_int))))) (pss_one ps_never) pss_nil)
      (pss_cons (ps_set (i := 1) sc__worlds_takes.nd rfl (by first | exact Or.inl rfl | exact Or.inr rfl) (pe_callB call_len_seq (by rfl) T.f_len PySem.boot_len (pa_cons (pv 0) pa_nil)))
      (pss_one (ps_ret (pe_callTy call_tuple_of (by rfl) T.f_tuple (by decide +kernel) (pa_cons (pe_lc (own := [("i", 2)]) (g := (gName 2)) (tt := tYes) (te := (tCall (sp__worlds_row K) [] E0 (tCons (tOp (rIxL K) (tVar 0) (tVar 2)) (tCons (tVar 1) (tCons (tVar 2) (tCons (tC .non) tNil)))))) (by rfl) sc__worlds_takes.nd (pi_range1 (by rfl) T.f_range (pa_cons (pv 1) pa_nil)) (blkOk_by (by kernel_rfl)) (fun _ _ _ _ _ => (pg_name (i := 2) sc__worlds_takes.nd rfl (by first | exact Or.inl rfl | exact Or.inr rfl))) (fun _ _ _ _ _ => pts_nil) (fun _ _ _ _ _ => (pe_call G__worlds_row hr (by rfl) T.g__worlds_row K__worlds_row B__worlds_row .nil pass0 (pa_cons (pe_ix ix_list (pv 0) (pv 2) (fun _ _ => rfl)) (pa_cons (pv 1) (pa_cons (pv 2) (pa_cons pe_non pa_nil))))))) pa_nil)))))), ?_⟩
    obtain ⟨G, w, e, ⟨hw, hv⟩, q⟩ := h
    obtain ⟨u, rfl, hu⟩ := ac1 hv
    have n4 := hw.n4
    have n2 := hw.n2
    have tl := hw.st.l
    refine s_chk (et_or (b := false) (c := false) (et_not (b := true) (et_B (ev_isiTL (ev_tysL (R := Ls IR) (xs := w.t) (ev_var rfl hu)) (.inl rfl)))) fun _ => et_not (b := true) (et_chain ev_int (ev_lenL (R := Ls IR) (xs := w.t) (ev_var rfl hu)) ev_int true true (fun H' Q q => ⟨2, _, rfl, rfl, ?_⟩) (fun H' Q q => ⟨_, 6, rfl, rfl, ?_⟩) rfl)) e fun G1 H1 s1 => ?_
    · dsimp only; rw [decide_eq_true (by omega)]; exact q
    · dsimp only; rw [decide_eq_true (by omega)]; exact q
    refine s_set (R := IR) (x := (w.n : Int)) ((ev_lenL (R := Ls IR) (xs := w.t) (ev_var rfl (Mono.up s1.g hu))).eq (by rw [tl])) s1.v fun v G2 H2 s2 r2 => ?_
    obtain rfl := r2
    have S2 := s1.trans s2
    refine s_ret (R := MxT) (x := w.t) ?_ s2.v fun v G3 H3 s3 r => q v G3 H3 (S2.trans s3) r
    have hh := range_map tl ([] : List Int)
    rw [← hh]
    refine ev_tupleOf (ev_lc0 (n := w.n) (W := fun i _ v => v = .int (i : Int)) (ei_range1 (m := (w.n : Int)) (by tm_at "ea") (by omega) (by omega)) (by omega) fun i v G3 H3 hi s3 ev => ?_)
    obtain rfl := ev
    obtain ⟨r, er, ho⟩ := Sqm.rowOk hw hi
    rw [getD_of er]
    exact ev_call ((r, w.n, i), none) (ea_cons (R := Ls IR) (x := r) (ev_ixL (R := Ls IR) (n := i) (xs := w.t) (ev_var rfl (Mono.up (S2.g.trans s3.g) hu)) (ev_varI rfl) rfl er) (ea_cons (R := NR) (x := w.n) (ev_var rfl rfl) (ea_cons (R := NR) (x := i) (ev_var rfl rfl) (ea_cons (R := AbR) (x := none) ((ev_c (v := .non)).imp fun _ _ h => h) ea_nil)))) (fun vs G' _ h => ⟨⟨ho, by show w.n ≤ 1000; omega⟩, h⟩) (fun _ _ h => h)
abbrev N__worlds_calls : List Str := ["calls", "takes", "size", "i", "j"]
abbrev P__worlds_calls : List Str := ["calls", "takes"]
theorem sc__worlds_calls : FnScope N__worlds_calls P__worlds_calls (defScope s__worlds_calls) := ⟨rfl, rfl, rfl, by decide +kernel, rfl, by decide +kernel, by decide +kernel⟩
def sp__worlds_calls (K : PySem.W.Frag) : Sp := Pu (fun (x : Wd) vs G => WOk x ∧ AC MxL x.c (AC MxT x.t A0) vs G) (fun x G u => MxT G u x.c)
theorem len__worlds_calls {K : PySem.W.Frag} {vs : List V} {H : Hp} {Q : VK} {E : XK} (h : sp__worlds_calls K vs H Q E) : vs.length = P__worlds_calls.length := by
  obtain ⟨G, x, e, ⟨_, a⟩, _⟩ := h
  obtain ⟨_, _, rfl, _⟩ := ac2 a; rfl
theorem ok__worlds_calls {P : Program} {w : World} {K : PySem.W.Frag} {mg : Str → Option Value} {base : Heap} {k : Nat} (T : Tx K mg) (G__worlds_row : Ok P w K mg base k "_worlds_row" P__worlds_row (sp__worlds_row K)) : Ok P w K mg base (k + 1) "_worlds_calls" P__worlds_calls (sp__worlds_calls K) := by
  obtain ⟨fd__worlds_row, G__worlds_row, B__worlds_row, K__worlds_row⟩ := G__worlds_row
  refine ok_of T.d__worlds_calls sc__worlds_calls (fun _ _ _ _ _ _ us hl => match us, hl with | [_, _], _ => rfl) (fun vs H Q E h => ?_) (fun f cdv A outer s H vs Q E hr h => ?_)
  · exact len__worlds_calls h
  · refine ⟨_, (pss_cons (ps_set (i := 2) sc__worlds_calls.nd rfl (by first | exact Or.inl rfl | exact Or.inr rfl) (pe_callB call_len_seq (by rfl) T.f_len PySem.boot_len (pa_cons (pv 1) pa_nil)))
      (pss_cons (ps_if (pt_cmpR op_isN (pv 0) pe_non (nomark _)) (pss_one (ps_ret (pe_callTy call_tuple_of (by rfl) T.f_tuple (by decide +kernel) (pa_cons (pe_lc (own := [("i", 3)]) (g := (gName 3)) (tt := tYes) (te := (tCB (qTuple K) (tCons (tLc (iRng1 (tCons (tVar 2) tNil)) (gName 4) tYes (tC (.int 0)) [4]) tNil))) (by rfl) sc__worlds_calls.nd (pi_range1 (by rfl) T.f_range (pa_cons (pv 2) pa_nil)) (blkOk_by (by kernel_rfl)) (fun _ _ _ _ _ => (pg_name (i := 3) sc__worlds_calls.nd rfl (by first | exact Or.inl rfl | exact Or.inr rfl))) (fun _ _ _ _ _ => pts_nil) (fun _ _ _ _ _ => (pe_callTy call_tuple_of (by rfl) T.f_tuple (by decide +kernel) (pa_cons (pe_lc (own := [("j", 4)]) (g := (gName 4)) (tt := tYes) (te := (tC (.int 0))) (by rfl) sc__worlds_calls.nd (pi_range1 (by rfl) T.f_range (pa_cons (pv 2) pa_nil)) (blkOk_by (by kernel_rfl)) (fun _ _ _ _ _ => (pg_name (i := 4) sc__worlds_calls.nd rfl (by first | exact Or.inl rfl | exact Or.inr rfl))) (fun _ _ _ _ _ => pts_nil) (fun _ _ _ _ _ => pe_int)) pa_nil)))) pa_nil)))) pss_nil)
      (pss_cons (ps_if (PW.pt (pw_or (pt_not (pt_val (pe_callB call_isiT (by rfl) T.f_isinstance (by decide +kernel) (pa_cons (pv 0) (pa_cons (pe_tup (pa_cons (pe_bltn (v := .ty "tuple") (by rfl) T.f_tuple (by decide +kernel) rfl) (pa_cons (pe_bltn (v := .ty "list") (by rfl) T.f_list (by decide +kernel) rfl) pa_nil))) pa_nil))))) (pw_or1 (pt_cmpR op_ne (pe_callB call_len_seq (by rfl) T.f_len PySem.boot_len (pa_cons (pv 0) pa_nil)) (pv 2) (nomark _))))) (pss_one ps_never) pss_nil)
      (pss_one (ps_ret (pe_callTy call_tuple_of (by rfl) T.f_tuple (by decide +kernel) (pa_cons (pe_lc (own := [("i", 3)]) (g := (gName 3)) (tt := tYes) (te := (tCall (sp__worlds_row K) [] E0 (tCons (tOp (rIxL K) (tVar 0) (tVar 3)) (tCons (tVar 2) (tCons (tVar 3) (tCons (tOp (rIxT K) (tVar 1) (tVar 3)) tNil)))))) (by rfl) sc__worlds_calls.nd (pi_range1 (by rfl) T.f_range (pa_cons (pv 2) pa_nil)) (blkOk_by (by kernel_rfl)) (fun _ _ _ _ _ => (pg_name (i := 3) sc__worlds_calls.nd rfl (by first | exact Or.inl rfl | exact Or.inr rfl))) (fun _ _ _ _ _ => pts_nil) (fun _ _ _ _ _ => (pe_call G__worlds_row hr (by rfl) T.g__worlds_row K__worlds_row B__worlds_row .nil pass0 (pa_cons (pe_ix ix_list (pv 0) (pv 3) (fun _ _ => rfl)) (pa_cons (pv 2) (pa_cons (pv 3) (pa_cons (pe_ix ix_tup (pv 1) (pv 3) (fun _ _ => rfl)) pa_nil))))))) pa_nil))))))), ?_⟩
    obtain ⟨G, w, e, ⟨hw, hv⟩, q⟩ := h
    obtain ⟨u, v, rfl, hu, hvv⟩ := ac2 hv
    have n4 := hw.n4
    have n2 := hw.n2
    have tl := hw.st.l
    have cl := hw.sc.l
    refine s_set (R := IR) (x := (w.n : Int)) ((ev_lenT (R := Tp IR) (xs := w.t) (ev_var rfl hvv)).eq (by rw [tl])) e fun x G2 H2 s2 r2 => ?_
    obtain rfl := r2
    obtain ⟨p, us, rfl, hu1, hu2⟩ := hu
    have hu : MxL G (.ref p) w.c := ⟨p, us, rfl, hu1, hu2⟩
    refine s_chk ?_ s2.v fun G3 H3 s3 => ?_
    · intro G1 H1 s Q q
      exact ⟨_, rfl, rfl, _, rfl, q G1 H1 (Stp.refl s.v)⟩
    have S3 := s2.trans s3
    refine s_chk (et_or (b := false) (c := false) (et_not (b := true) (et_B (ev_isiTL (ev_tysL (R := Ls IR) (xs := w.c) (ev_var rfl (Mono.up S3.g hu))) (.inl rfl)))) fun _ => et_test ((ev_neI (ev_lenL (R := Ls IR) (xs := w.c) (ev_var rfl (Mono.up S3.g hu))) (ev_varI rfl)).eq (by rw [decide_eq_true (by rw [cl])]; rfl))) s3.v fun G4 H4 s4 => ?_
    have S4 := S3.trans s4
    refine s_ret (R := MxT) (x := w.c) ?_ s4.v fun v G3 H3 s3 r => q v G3 H3 (S4.trans s3) r
    have hh := range_map cl ([] : List Int)
    rw [← hh]
    refine ev_tupleOf (ev_lc0 (n := w.n) (W := fun i _ v => v = .int (i : Int)) (ei_range1 (m := (w.n : Int)) (by tm_at "ea") (by omega) (by omega)) (by omega) fun i v G5 H5 hi s5 ev => ?_)
    obtain rfl := ev
    obtain ⟨r, r', er, er', ho⟩ := Sqm.rowOkC hw hi
    rw [getD_of er]
    refine ev_call ((r, w.n, i), some r') (ea_cons (R := Ls IR) (x := r) (ev_ixL (R := Ls IR) (n := i) (xs := w.c) (ev_var rfl (Mono.up (S4.g.trans s5.g) hu)) (ev_varI rfl) rfl er) (ea_cons (R := NR) (x := w.n) (ev_var rfl rfl) (ea_cons (R := NR) (x := i) (ev_var rfl rfl) (ea_cons (R := AbR) (x := some r') ((ev_ixT (R := Tp IR) (n := i) (xs := w.t) (ev_var rfl (Mono.up (S4.g.trans s5.g) hvv)) (ev_varI rfl) rfl er').imp fun _ _ h => h) ea_nil)))) (fun vs G' _ h => ⟨⟨ho, by show w.n ≤ 1000; omega⟩, h⟩) (fun _ _ h => h)
abbrev N__worlds_ties : List Str := ["table", "size", "i", "j"]
abbrev P__worlds_ties : List Str := ["table"]
theorem sc__worlds_ties : FnScope N__worlds_ties P__worlds_ties (defScope s__worlds_ties) := ⟨rfl, rfl, rfl, by decide +kernel, rfl, by decide +kernel, by decide +kernel⟩
def tiesOf (n : Nat) (M : Mx) : List (Int × Int) := (List.range n).flatMap fun i => (List.range n).filterMap fun j => if 0 < at2 M i j then some ((i : Int), (j : Int)) else none
def sp__worlds_ties (K : PySem.W.Frag) : Sp := Pu (fun (x : Mx × Nat) vs G => (Sqm x.2 x.1 ∧ x.2 ≤ 4) ∧ AC MxT x.1 A0 vs G) (fun x G u => Tp FR G u (tiesOf x.2 x.1))
theorem len__worlds_ties {K : PySem.W.Frag} {vs : List V} {H : Hp} {Q : VK} {E : XK} (h : sp__worlds_ties K vs H Q E) : vs.length = P__worlds_ties.length := by
  obtain ⟨G, x, e, ⟨_, a⟩, _⟩ := h
  obtain ⟨_, rfl, _⟩ := ac1 a; rfl
theorem ok__worlds_ties {P : Program} {w : World} {K : PySem.W.Frag} {mg : Str → Option Value} {base : Heap} {k : Nat} (T : Tx K mg)  : Ok P w K mg base (k + 1) "_worlds_ties" P__worlds_ties (sp__worlds_ties K) := by
  refine ok_of T.d__worlds_ties sc__worlds_ties (fun _ _ _ _ _ _ us hl => match us, hl with | [_], _ => rfl) (fun vs H Q E h => ?_) (fun f cdv A outer s H vs Q E hr h => ?_)
  · exact len__worlds_ties h
  · refine ⟨_, (pss_cons (ps_set (i := 1) sc__worlds_ties.nd rfl (by first | exact Or.inl rfl | exact Or.inr rfl) (pe_callB call_len_seq (by rfl) T.f_len PySem.boot_len (pa_cons (pv 0) pa_nil)))
      (pss_one (ps_ret (pe_callTy call_tuple_of (by rfl) T.f_tuple (by decide +kernel) (pa_cons (pe_lc2 (own := [("i", 2), ("j", 3)]) (g := (gName 2)) (tt := tYes) (wi1 := (iRng1 (tCons (tVar 1) tNil))) (g1 := (gName 3)) (tt1 := (tTest (tOp qGt (tOp (rIxT K) (tOp (rIxT K) (tVar 0) (tVar 2)) (tVar 3)) (tC (.int 0))))) (te := (tTup (tCons (tVar 2) (tCons (tVar 3) tNil)))) (vs1 := [3]) (by rfl) sc__worlds_ties.nd (pi_range1 (by rfl) T.f_range (pa_cons (pv 1) pa_nil)) (blkOk_by (by kernel_rfl)) (by decide) (fun _ _ _ _ _ => (pg_name (i := 2) sc__worlds_ties.nd rfl (by first | exact Or.inl rfl | exact Or.inr rfl))) (fun _ _ _ _ _ => pts_nil) (fun _ _ _ _ _ => (pi_range1 (by rfl) T.f_range (pa_cons (pv 1) pa_nil))) (fun _ _ _ _ _ => (pg_name (i := 3) sc__worlds_ties.nd rfl (by first | exact Or.inl rfl | exact Or.inr rfl))) (fun _ _ _ _ _ => (pts_one (pt_cmpR op_gt (pe_ix ix_tup (pe_ix ix_tup (pv 0) (pv 2) (fun _ _ => rfl)) (pv 3) (fun _ _ => rfl)) pe_int (nomark _)))) (fun _ _ _ _ _ => (pe_tup (pa_cons (pv 2) (pa_cons (pv 3) pa_nil))))) pa_nil))))), ?_⟩
    obtain ⟨G, ⟨M, n⟩, e, ⟨⟨hS, hn⟩, hv⟩, q⟩ := h
    dsimp only at hS hn hv q
    obtain ⟨u, rfl, hu⟩ := ac1 hv
    refine s_set (R := IR) (x := (n : Int)) ((ev_lenT (R := Tp IR) (xs := M) (ev_var rfl hu)).eq (by rw [hS.l])) e fun x G2 H2 s2 r2 => ?_
    obtain rfl := r2
    refine s_ret (R := Tp FR) (x := tiesOf n M) ?_ s2.v fun v G3 H3 s3 r => q v G3 H3 (s2.trans s3) r
    refine ev_tupleOf (ev_lc2 (by decide) (x := fun i => .int (i : Int)) (y := fun i => .int (i : Int)) (n := n) (m := n) (ei_range1 (m := (n : Int)) (by tm_at "ea") (by omega) (by omega)) (Nat.le_trans (Nat.mul_le_mul hn hn) (by decide)) (fun i G' H' hi s => ei_range1 (m := (n : Int)) (by tm_at "ea") (by omega) (by omega)) (fun i j G' H' hi hj s => ?_) (fun i j z G' H' hi hj s hz => ?_))
    · obtain ⟨r, er, hl, hr⟩ := hS.row hi
      refine EvT.eq (et_test (ev_B0 (f := fun i j => decide (j < i)) (ev_ixT (R := IR) (n := j) (xs := r) (ev_ixT (R := Tp IR) (n := i) (xs := M) (ev_var rfl (Mono.up (s2.g.trans s.g) hu)) (ev_varI rfl) rfl er) (ev_varI rfl) rfl (hr j hj)) ev_int)) ?_
      by_cases h : 0 < at2 M i j
      · rw [if_pos h, decide_eq_true h]; rfl
      · rw [if_neg h, decide_eq_false h]; rfl
    · by_cases h : 0 < at2 M i j
      · rw [if_pos h] at hz; cases hz
        exact ev_tup2 (ev_varI rfl) (ev_varI rfl)
      · rw [if_neg h] at hz; cases hz

end Cy
namespace Cy
open PySem PySem.Spec PyProof.Rows L2 He
local macro_rules | `(tactic| tm_at "ex") => `(tactic| first
  | exact Ex.refl _ | assumption | exact Stp.g (by assumption) | exact Stp.v (by assumption)
  | (refine Ex.trans (Stp.g (by assumption)) ?_; tm_at "ex")
  | (refine Ex.trans (by assumption) ?_; tm_at "ex"))
local macro_rules | `(tactic| tm_at "rl") => `(tactic| first
  | exact rfl | assumption | (apply Mono.up; rotate_left; assumption; tm_at "ex"))
local macro_rules | `(tactic| tm_at "sc") => `(tactic| first | assumption | omega)
local macro_rules | `(tactic| tm_at "ev") => `(tactic| first
  | exact ev_int | exact ev_bl | assumption
  | (apply ev_varI; exact rfl)
  | (apply ev_var; exact rfl; tm_at "rl")
  | (apply ev_I0; tm_at "ev"; tm_at "ev")
  | (apply ev_B0; tm_at "ev"; tm_at "ev")
  | (apply ev_I; tm_at "ev"; tm_at "ev"; tm_at "sc")
  | (apply ev_un; tm_at "ev")
  | (apply ev_eqI; tm_at "ev"; tm_at "ev")
  | (apply ev_neI; tm_at "ev"; tm_at "ev")
  | (apply ev_fstI; tm_at "ev")
  | (apply ev_sndI; tm_at "ev")
  | (apply ev_max2; tm_at "ev"; tm_at "ev")
  | (apply ev_min2; tm_at "ev"; tm_at "ev")
  | (apply ev_abs; tm_at "ev")
  | (apply ev_int1; tm_at "ev")
  | (apply ev_bits; tm_at "ev")
  | (apply ev_gcd; tm_at "ev"; tm_at "ev")
  | (apply ev_len; tm_at "ev")
  | (apply ev_tup2; tm_at "ev"; tm_at "ev"))
local macro_rules | `(tactic| tm_at "ea") => `(tactic| first
  | exact ea_nil
  | (apply ea_consI; tm_at "ev"; tm_at "ea")
  | (apply ea_cons; tm_at "ev"; tm_at "ea"))
local macro_rules | `(tactic| tm_at "et") => `(tactic| first
  | (apply et_test; tm_at "ev")
  | (apply et_B; tm_at "ev")
  | (apply et_not; tm_at "et"))

open Cr
section
variable {α : Type} {K : PySem.W.Frag} {σ : L2.St} {G H : Hp} {tv : TE} {u : TS} {R : Rel α} {y : α} {D : Ends} {a dx C : Addr} {vs : List (Option V)} {i j : Nat} {v : V}
theorem s_slotX (hi : σ[j]? = some (some (.ref a))) (h : Ev tv σ G H R y) (e : Ex G H) (hs : SlX.Slt H a C dx vs) (k : ∀ v G' H', Stp G H G' H' → R G' v y → SlX.Slt H' a C dx vs → u D σ (SlX.slH H' a C dx (SlX.putS i v vs))) : tSeq (sSlotX C i (tVar j) tv) u D σ H :=
  h.run e fun v G' H' s r => ⟨_, hi, a, dx, vs, rfl, slAt_up s.h hs, k v G' H' s r (slAt_up s.h hs)⟩
theorem s_slotX1 (hi : σ[j]? = some (some (.ref a))) (h : Ev tv σ G H R y) (e : Ex G H) (hs : SlX.Slt H a C dx vs) (k : ∀ v G' H', Stp G H G' H' → R G' v y → SlX.Slt H' a C dx vs → D.nx σ (SlX.slH H' a C dx (SlX.putS i v vs))) : sSlotX C i (tVar j) tv D σ H :=
  h.run e fun v G' H' s r => ⟨_, hi, a, dx, vs, rfl, slAt_up s.h hs, k v G' H' s r (slAt_up s.h hs)⟩
theorem ev_slotOwn [Mono R] (hi : σ[j]? = some (some (.ref a))) (hs : SlX.Slt H a C dx vs) (hv : vs[i]? = some (some v)) (r : R G v y) : Ev (tSlotX C i (tVar j)) σ G H R y := fun G1 H1 s Q q =>
  ⟨_, hi, a, dx, vs, v, rfl, slAt_up s.h hs, hv, q v G1 H1 (Stp.refl s.v) (Mono.up s.g r)⟩
theorem stp_slot {G0 H0 G1 H1 : Hp} (s : Stp G0 H0 G1 H1) (h1 : H0 a = none) (h2 : H0 dx = none) (g1 : G1 a = none) (g2 : G1 dx = none) : Stp G0 H0 G1 (SlX.slH H1 a C dx vs) := (s.mut h2 g2).mut h1 g1
end
abbrev N_World___init__ : List Str := ["self", "takes", "calls"]
abbrev P_World___init__ : List Str := ["self", "takes", "calls"]
theorem sc_World___init__ : FnScope N_World___init__ P_World___init__ (defScope s_World___init__) := ⟨rfl, rfl, rfl, by decide +kernel, rfl, by decide +kernel, by decide +kernel⟩
def sp_World___init__ (K : PySem.W.Frag) : Sp := fun vs H Q _ => ∃ (G Hb : Hp) (w : Wd) (x dx : Addr) (u v : V), Ex G Hb ∧ Hb x = none ∧ Hb dx = none ∧ dx ≠ x ∧ H = upd (upd Hb dx (.own x)) x (.ins (ga K "World") dx []) ∧ vs = [.ref x, u, v] ∧ WOk w ∧ MxL G u w.t ∧ MxL G v w.c ∧
  ∀ G' H', Stp G Hb G' H' → WR K G' (.ref x) w → Q .non H'
/-- the maker of worlds -/
def OkInit (P : Program) (w : World) (K : PySem.W.Frag) (mg : Str → Option Value) (base : Heap) (k : Nat) : Prop := ∃ fd, FnOk P w K mg base CX0 k (ma K (ga K "World") "__init__") fd P_World___init__ (sp_World___init__ K) ∧ KBn K fd P_World___init__ (1 + 1) ["calls"] (fun us ws => us ++ ws) (fun vs zs => vs ++ zs)
theorem ok_World___init__ {P : Program} {w : World} {K : PySem.W.Frag} {mg : Str → Option Value} {base : Heap} {k : Nat} (T : Tx K mg) (G__worlds_takes : Ok P w K mg base k "_worlds_takes" P__worlds_takes (sp__worlds_takes K)) (G__worlds_calls : Ok P w K mg base k "_worlds_calls" P__worlds_calls (sp__worlds_calls K)) : OkInit P w K mg base (k + 1) := by
  obtain ⟨fd__worlds_takes, G__worlds_takes, B__worlds_takes, K__worlds_takes⟩ := G__worlds_takes
  obtain ⟨fd__worlds_calls, G__worlds_calls, B__worlds_calls, K__worlds_calls⟩ := G__worlds_calls
  obtain ⟨fd, F⟩ := T.d_World___init__
  have hk : KBn K fd P_World___init__ (1 + 1) ["calls"] (fun us ws => us ++ ws) (fun vs zs => vs ++ zs) := by
    obtain ⟨mv, z⟩ := F.kbinds0 (ps := P_World___init__) 2 ["calls"] [] (fun vs mz zs => vs ++ zs) (by decide) (fun q hq => by cases hq) (fun r1 r2 r3 => r1.append r3) (fun D doc pm an cdv ct us mv ws l1 l2 l3 => by
      match us, l1, mv, l2, ws, l3 with
      | [a, b], _, [], _, [c], _ => rfl)
    exact z
  refine ⟨fd, F.ok sc_World___init__ (fun vs H Q E h => ?_) fun cdv A outer s H vs Q E hr h => ?_, hk⟩
  · obtain ⟨_, _, _, _, _, _, _, _, _, _, _, _, rfl, _⟩ := h; rfl
  · suffices h' : ∃ t, PSs (cxOf CX0 P w K mg base N_World___init__ _ (defScope s_World___init__) _ cdv A outer s H E).nox (defBody s_World___init__) t ∧ t { nx := fun _ H' => Q .non H', rt := Q } (start N_World___init__ vs) H by
      obtain ⟨t, a, b⟩ := h'
      exact ⟨t, a.nox, b⟩
    refine ⟨_, (pss_cons (ps_slotX (sclsX T.scls) (slotX T.sl_takes) (pv 0) (pe_call G__worlds_takes hr (by rfl) T.g__worlds_takes K__worlds_takes B__worlds_takes .nil pass0 (pa_cons (pv 1) pa_nil)))
      (pss_cons (ps_slotX (sclsX T.scls) (slotX T.sl_size) (pv 0) (pe_callB call_len_seq (by rfl) T.f_len PySem.boot_len (pa_cons (pe_slotX (sclsX T.scls) (slotX T.sl_takes) (pv 0)) pa_nil)))
      (pss_one (ps_slotX (sclsX T.scls) (slotX T.sl_calls) (pv 0) (pe_call G__worlds_calls hr (by rfl) T.g__worlds_calls K__worlds_calls B__worlds_calls .nil pass0 (pa_cons (pv 2) (pa_cons (pe_slotX (sclsX T.scls) (slotX T.sl_takes) (pv 0)) pa_nil))))))), ?_⟩
    obtain ⟨G, Hb, w, x, dx, u, v, e, hx, hdx, ne, rfl, rfl, hw, hu, hv, q⟩ := h
    have hx1 : (upd Hb dx (.own x)) x = none := by rw [upd_ne (fun z => ne z.symm)]; exact hx
    have S0 := ((Stp.refl e).own (o := .own x) hdx).own (o := .ins (ga K "World") dx []) hx1
    have gx : G x = none := e.none hx
    have gdx : G dx = none := e.none hdx
    have hH := upd_same (H := upd Hb dx (.own x)) (a := x) (o := .ins (ga K "World") dx [])
    have hD : (upd (upd Hb dx (.own x)) x (.ins (ga K "World") dx [])) dx = some (.own x) := by rw [upd_ne ne, upd_same]
    generalize upd (upd Hb dx (.own x)) x (.ins (ga K "World") dx []) = H0 at *
    obtain ⟨n1, n2, n3⟩ := T.nes
    have tl := hw.st.l
    refine s_slotX (C := ga K "World") (i := slIx K (ga K "World") "takes") (R := MxT) (y := w.t) (a := x) (dx := dx) (vs := []) rfl (ev_call w (ea_cons (R := MxL) (ev_var rfl hu) ea_nil) (fun vs G' _ h => ⟨hw, h⟩) (fun _ _ h => h)) S0.v (.inl ⟨hH, rfl⟩) fun tv G1 H1 s1 r1 q1 => ?_
    have S1 := S0.trans s1
    have g1x := s1.n _ _ hH gx
    have g1d := s1.n _ _ hD gdx
    have T1 := stp_slot (C := ga K "World") (vs := SlX.putS (slIx K (ga K "World") "takes") tv []) S1 hx hdx g1x g1d
    have L1 := SlX.slH_slt (H := H1) (C := ga K "World") (vs := SlX.putS (slIx K (ga K "World") "takes") tv []) ne
    have hx1 : (SlX.slH H1 x (ga K "World") dx (SlX.putS (slIx K (ga K "World") "takes") tv [])) x = some (SlX.SlO x (ga K "World") dx (SlX.putS (slIx K (ga K "World") "takes") tv [])) := upd_same
    have hd1 : (SlX.slH H1 x (ga K "World") dx (SlX.putS (slIx K (ga K "World") "takes") tv [])) dx = some (.xd []) := by
      unfold SlX.slH
      rw [upd_ne ne, upd_same]
    generalize SlX.slH H1 x (ga K "World") dx (SlX.putS (slIx K (ga K "World") "takes") tv []) = H2 at *
    have gt := SlX.putS_get (slIx K (ga K "World") "takes") tv []
    generalize SlX.putS (slIx K (ga K "World") "takes") tv [] = v1 at *
    refine s_slotX (C := ga K "World") (i := slIx K (ga K "World") "size") (R := IR) (y := (w.n : Int)) (a := x) (dx := dx) (vs := v1) rfl ((ev_lenT (R := Tp IR) (xs := w.t) (ev_slotOwn rfl L1 gt r1)).eq (by rw [tl])) T1.v L1 fun sv G3 H3 s3 r3 q3 => ?_
    obtain rfl := r3
    have g3x := s3.n _ _ hx1 g1x
    have g3d := s3.n _ _ hd1 g1d
    have T3 := stp_slot (C := ga K "World") (vs := SlX.putS (slIx K (ga K "World") "size") (.int (w.n : Int)) v1) (T1.trans s3) hx hdx g3x g3d
    have L3 := SlX.slH_slt (H := H3) (C := ga K "World") (vs := SlX.putS (slIx K (ga K "World") "size") (.int (w.n : Int)) v1) ne
    have hx3 : (SlX.slH H3 x (ga K "World") dx (SlX.putS (slIx K (ga K "World") "size") (.int (w.n : Int)) v1)) x = some (SlX.SlO x (ga K "World") dx (SlX.putS (slIx K (ga K "World") "size") (.int (w.n : Int)) v1)) := upd_same
    have hd3 : (SlX.slH H3 x (ga K "World") dx (SlX.putS (slIx K (ga K "World") "size") (.int (w.n : Int)) v1)) dx = some (.xd []) := by
      unfold SlX.slH
      rw [upd_ne ne, upd_same]
    generalize SlX.slH H3 x (ga K "World") dx (SlX.putS (slIx K (ga K "World") "size") (.int (w.n : Int)) v1) = H4 at *
    have gt3 := (SlX.putS_ne (v := .int (w.n : Int)) (n1 ∘ Eq.symm)).mpr gt
    have gs3 := SlX.putS_get (slIx K (ga K "World") "size") (.int (w.n : Int)) v1
    generalize SlX.putS (slIx K (ga K "World") "size") (.int (w.n : Int)) v1 = v3 at *
    have rt3 : MxT G3 tv w.t := Mono.up s3.g r1
    have hv3 : MxL G3 v w.c := Mono.up (T1.g.trans s3.g) hv
    refine s_slotX1 (C := ga K "World") (i := slIx K (ga K "World") "calls") (R := MxT) (y := w.c) (a := x) (dx := dx) (vs := v3) rfl (ev_call w (ea_cons (R := MxL) (ev_var rfl hv3) (ea_cons (R := MxT) (ev_slotOwn rfl L3 gt3 rt3) ea_nil)) (fun vs G' _ h => ⟨hw, h⟩) (fun _ _ h => h)) T3.v L3 fun cv G5 H5 s5 r5 q5 => ?_
    have g5x := s5.n _ _ hx3 g3x
    have g5d := s5.n _ _ hd3 g3d
    have T5 := stp_slot (C := ga K "World") (vs := SlX.putS (slIx K (ga K "World") "calls") cv v3) (T3.trans s5) hx hdx g5x g5d
    have hx5 : (SlX.slH H5 x (ga K "World") dx (SlX.putS (slIx K (ga K "World") "calls") cv v3)) x = some (SlX.SlO x (ga K "World") dx (SlX.putS (slIx K (ga K "World") "calls") cv v3)) := upd_same
    have hd5 : (SlX.slH H5 x (ga K "World") dx (SlX.putS (slIx K (ga K "World") "calls") cv v3)) dx = some (.xd []) := by
      unfold SlX.slH
      rw [upd_ne ne, upd_same]
    have gt5 := (SlX.putS_ne (v := cv) n3).mpr gt3
    have gs5 := (SlX.putS_ne (v := cv) n2).mpr gs3
    have gc5 := SlX.putS_get (slIx K (ga K "World") "calls") cv v3
    generalize SlX.putS (slIx K (ga K "World") "calls") cv v3 = v5 at *
    have A1 := T5.add hdx g5d hd5
    have g6x : (upd G5 dx (.xd [])) x = none := by rw [upd_ne (fun z => ne z.symm)]; exact g5x
    have A2 := A1.add hx g6x hx5
    have ee : Ex G5 (upd (upd G5 dx (.xd [])) x (SlX.SlO x (ga K "World") dx v5)) := (Ex.new g5d).trans (Ex.new g6x)
    exact q _ _ A2 ⟨x, dx, v5, tv, cv, rfl, .inr ⟨upd_same, by rw [upd_ne ne, upd_same]⟩, gs5, gt5, gc5, Mono.up (s5.g.trans ee) rt3, Mono.up ee r5⟩
abbrev N_World_calling : List Str := ["self"]
abbrev P_World_calling : List Str := ["self"]
theorem sc_World_calling : FnScope N_World_calling P_World_calling (defScope s_World_calling) := ⟨rfl, rfl, rfl, by decide +kernel, rfl, by decide +kernel, by decide +kernel⟩
def sp_calling (K : PySem.W.Frag) : Sp := Pu (fun (x : Wd) vs G => (Sqm x.n x.c ∧ x.n ≤ 4) ∧ AC (WR K) x A0 vs G) (fun x G u => Tp FR G u (tiesOf x.n x.c))
def OkCalling (P : Program) (w : World) (K : PySem.W.Frag) (mg : Str → Option Value) (base : Heap) (k : Nat) : Prop := ∃ fd, FnOk P w K mg base CX0 k (ma K (ga K "World") "calling") fd P_World_calling (sp_calling K) ∧ Binds K fd P_World_calling []
theorem ok_calling {P : Program} {w : World} {K : PySem.W.Frag} {mg : Str → Option Value} {base : Heap} {k : Nat} (T : Tx K mg) (G__worlds_ties : Ok P w K mg base k "_worlds_ties" P__worlds_ties (sp__worlds_ties K)) : OkCalling P w K mg base (k + 1) := by
  obtain ⟨fd__worlds_ties, G__worlds_ties, B__worlds_ties, K__worlds_ties⟩ := G__worlds_ties
  obtain ⟨fd, F⟩ := T.d_World_calling
  refine ⟨fd, F.ok sc_World_calling (fun vs H Q E h => ?_) (fun cdv A outer s H vs Q E hr h => ?_), F.bindsN (fun _ _ _ _ _ _ us hl => match us, hl with | [_], _ => rfl)⟩
  · obtain ⟨G, x, e, ⟨_, a⟩, _⟩ := h
    obtain ⟨_, rfl, _⟩ := ac1 a; rfl
  · suffices h' : ∃ t, PSs (cxOf CX0 P w K mg base N_World_calling _ (defScope s_World_calling) _ cdv A outer s H E).nox (defBody s_World_calling) t ∧ t { nx := fun _ H' => Q .non H', rt := Q } (start N_World_calling vs) H by
      obtain ⟨t, a, b⟩ := h'
      exact ⟨t, a.nox, b⟩
    refine ⟨_, (pss_one (ps_ret (pe_call G__worlds_ties hr (by rfl) T.g__worlds_ties K__worlds_ties B__worlds_ties .nil pass0 (pa_cons (pe_slotX (sclsX T.scls) (slotX T.sl_calls) (pv 0)) pa_nil)))), ?_⟩
    obtain ⟨G, w, e, ⟨⟨hw, hn⟩, hv⟩, q⟩ := h
    obtain ⟨u, rfl, hu⟩ := ac1 hv
    refine s_ret (R := Tp FR) (x := tiesOf w.n w.c) ?_ e fun v G3 H3 s3 r => q v G3 H3 s3 r
    exact ev_call (w.c, w.n) (ea_cons (R := MxT) (x := w.c) (ev_calls (w := w) (ev_var rfl hu)) ea_nil) (fun vs G' _ h => ⟨⟨hw, hn⟩, h⟩) (fun _ _ h => h)
/-- world.calling() -/
theorem ev_calling {K : PySem.W.Frag} {σ : L2.St} {G H : Hp} {i : Nat} {u : V} {w : Wd} (hi : σ[i]? = some (some u)) (hu : WR K G u w) (hS : Sqm w.n w.c) (hn : w.n ≤ 4) : Ev (tMethX (sp_calling K) E0 (ga K "World") (tVar i)) σ G H (Tp FR) (tiesOf w.n w.c) := fun G1 H1 s Q q => by
  have hu1 := Mono.up s.g hu
  obtain ⟨a, dx, vs, tv, cv, rfl, h2, h3⟩ := id hu1
  exact ⟨_, hi, a, dx, vs, rfl, slAt_up s.v h2, G1, w, s.v, ⟨⟨hS, hn⟩, .ref a, [], rfl, hu1, rfl⟩, fun u G' H' s2 p => q u G' H' s2 p⟩

end Cy
namespace Cy
open PySem PySem.Spec PyProof.Rows L2 He
local macro_rules | `(tactic| tm_at "ex") => `(tactic| first
  | exact Ex.refl _ | assumption | exact Stp.g (by assumption) | exact Stp.v (by assumption)
  | (refine Ex.trans (Stp.g (by assumption)) ?_; tm_at "ex")
  | (refine Ex.trans (by assumption) ?_; tm_at "ex"))
local macro_rules | `(tactic| tm_at "rl") => `(tactic| first
  | exact rfl | assumption | (apply Mono.up; rotate_left; assumption; tm_at "ex"))
local macro_rules | `(tactic| tm_at "sc") => `(tactic| first | assumption | omega)
local macro_rules | `(tactic| tm_at "ev") => `(tactic| first
  | exact ev_int | exact ev_bl | assumption
  | (apply ev_varI; exact rfl)
  | (apply ev_var; exact rfl; tm_at "rl")
  | (apply ev_I0; tm_at "ev"; tm_at "ev")
  | (apply ev_B0; tm_at "ev"; tm_at "ev")
  | (apply ev_I; tm_at "ev"; tm_at "ev"; tm_at "sc")
  | (apply ev_un; tm_at "ev")
  | (apply ev_eqI; tm_at "ev"; tm_at "ev")
  | (apply ev_neI; tm_at "ev"; tm_at "ev")
  | (apply ev_fstI; tm_at "ev")
  | (apply ev_sndI; tm_at "ev")
  | (apply ev_max2; tm_at "ev"; tm_at "ev")
  | (apply ev_min2; tm_at "ev"; tm_at "ev")
  | (apply ev_abs; tm_at "ev")
  | (apply ev_int1; tm_at "ev")
  | (apply ev_bits; tm_at "ev")
  | (apply ev_gcd; tm_at "ev"; tm_at "ev")
  | (apply ev_len; tm_at "ev")
  | (apply ev_tup2; tm_at "ev"; tm_at "ev"))
local macro_rules | `(tactic| tm_at "ea") => `(tactic| first
  | exact ea_nil
  | (apply ea_consI; tm_at "ev"; tm_at "ea")
  | (apply ea_cons; tm_at "ev"; tm_at "ea"))
local macro_rules | `(tactic| tm_at "et") => `(tactic| first
  | (apply et_test; tm_at "ev")
  | (apply et_B; tm_at "ev")
  | (apply et_not; tm_at "et"))

open Cr
section
variable {α : Type} {K : PySem.W.Frag} {σ : L2.St} {G H : Hp} {ti te : TE} {u : TS} {D : Ends} {i k : Nat} {a : Addr} {ns : List Int} {x y : Int} {f : Int → Int → Int}
/-- xs[k] op= e, xs an own list of ints -/
theorem s_augS (hi : σ[i]? = some (some (.ref a))) (ha : H a = some (.lst (ns.map V.int))) (hx : Ev ti σ G H IR (k : Int)) (hk : ns[k]? = some x) (hz : k ≤ 100000) (he : Ev te σ G H IR y) (e : Ex G H) (c : ∀ G' H', Stp G H G' H' → u D σ (upd H' a (.lst ((ns.set k (f x y)).map V.int)))) : tSeq (tAugS (tVar i) ti te (gL K) (ipI f) rSetL) u D σ H :=
  ⟨_, hi, hx.run e fun w G1 H1 s1 e1 => by
    obtain rfl : w = .int (k : Int) := e1
    have h1 := s1.h _ _ ha
    have kl : k < ns.length := (List.getElem?_eq_some_iff.mp hk).1
    refine ⟨a, _, (k : Int), .int x, rfl, rfl, SqL.of h1, by omega, by omega, by rw [Int.toNat_natCast, List.getElem?_map, hk]; rfl, (he.mono s1).run s1.v fun w G2 H2 s2 e2 => ?_⟩
    obtain rfl : w = .int y := e2
    refine ⟨x, y, rfl, rfl, a, _, (k : Int), k, rfl, rfl, s2.h _ _ h1, ixN_nat (by rw [List.length_map]; exact kl), ?_⟩
    have := c G2 H2 (s1.trans s2)
    rw [List.map_set] at this
    exact this⟩
theorem s_augS1 (hi : σ[i]? = some (some (.ref a))) (ha : H a = some (.lst (ns.map V.int))) (hx : Ev ti σ G H IR (k : Int)) (hk : ns[k]? = some x) (hz : k ≤ 100000) (he : Ev te σ G H IR y) (e : Ex G H) (c : ∀ G' H', Stp G H G' H' → D.nx σ (upd H' a (.lst ((ns.set k (f x y)).map V.int)))) : tAugS (tVar i) ti te (gL K) (ipI f) rSetL D σ H :=
  ⟨_, hi, hx.run e fun w G1 H1 s1 e1 => by
    obtain rfl : w = .int (k : Int) := e1
    have h1 := s1.h _ _ ha
    have kl : k < ns.length := (List.getElem?_eq_some_iff.mp hk).1
    refine ⟨a, _, (k : Int), .int x, rfl, rfl, SqL.of h1, by omega, by omega, by rw [Int.toNat_natCast, List.getElem?_map, hk]; rfl, (he.mono s1).run s1.v fun w G2 H2 s2 e2 => ?_⟩
    obtain rfl : w = .int y := e2
    refine ⟨x, y, rfl, rfl, a, _, (k : Int), k, rfl, rfl, s2.h _ _ h1, ixN_nat (by rw [List.length_map]; exact kl), ?_⟩
    have := c G2 H2 (s1.trans s2)
    rw [List.map_set] at this
    exact this⟩
theorem et_tru (ha : Ev te σ G H IR x) : EvT (tTru K te) σ G H (x != 0) := et_int ha
/-- a table by rows, each list or tuple -/
theorem ev_at (M : Mx) {n : Nat} (hS : Sqm n M) {p q r : Nat} {u : V} {i j : Nat} (hi : i < n) (hj : j < n) (h1 : σ[p]? = some (some u)) (hu : MxS G u M) (h2 : σ[q]? = some (some (.int (i : Int)))) (h3 : σ[r]? = some (some (.int (j : Int)))) : Ev (tOp (qIxS K) (tOp (qIxS K) (tVar p) (tVar q)) (tVar r)) σ G H IR (at2 M i j) := by
  obtain ⟨r', er, hl, hr⟩ := hS.row hi
  exact ev_ixS (R := IR) (n := j) (xs := r') (ev_ixS (R := Sq IR) (n := i) (xs := M) (ev_var h1 hu) (ev_varI h2) rfl er) (ev_varI h3) rfl (hr j hj)
end
theorem set_rng {N k : Nat} (g : Nat → Int) (v : Int) : ((List.range N).map g).set k v = (List.range N).map fun i => if i = k then v else g i := by
  refine List.ext_getElem? fun i => ?_
  by_cases hi : i < N
  · by_cases e : k = i
    · subst e
      rw [List.getElem?_set_self (by rw [List.length_map, List.length_range]; exact hi), List.getElem?_map, List.getElem?_range hi, Option.map_some, if_pos rfl]
    · rw [List.getElem?_set_ne e, List.getElem?_map, List.getElem?_map, List.getElem?_range hi, Option.map_some, Option.map_some, if_neg (fun z => e z.symm)]
  · rw [List.getElem?_eq_none (by rw [List.length_set, List.length_map, List.length_range]; omega), List.getElem?_eq_none (by rw [List.length_map, List.length_range]; omega)]
theorem get_rng {N k : Nat} (g : Nat → Int) (h : k < N) : ((List.range N).map g)[k]? = some (g k) := by
  rw [List.getElem?_map, List.getElem?_range h]; rfl
theorem xor_sub : ∀ S, S < 16 → ∀ i, i < 4 → (((S ||| 2 ^ i : Nat) : Int) - ((S &&& 2 ^ i : Nat) : Int)) = ((S ^^^ 2 ^ i : Nat) : Int) := by decide +kernel
abbrev N__win_equation : List Str := ["takes", "calls", "state", "size", "row", "i", "inside", "j", "rate"]
abbrev P__win_equation : List Str := ["takes", "calls", "state"]
theorem sc__win_equation : FnScope N__win_equation P__win_equation (defScope s__win_equation) := ⟨rfl, rfl, rfl, by decide +kernel, rfl, by decide +kernel, by decide +kernel⟩
def sp__win_equation (K : PySem.W.Frag) : Sp := Pu (fun (x : Wd × Nat) vs G => (WOk x.1 ∧ x.2 < 2 ^ x.1.n) ∧ AC MxS x.1.t (AC MxS x.1.c (AC NR x.2 A0)) vs G) (fun x G u => Ls IR G u ((List.range (2 ^ x.1.n)).map fun k => winE x.1.n (at2 x.1.t) (at2 x.1.c) x.2 k))
theorem len__win_equation {K : PySem.W.Frag} {vs : List V} {H : Hp} {Q : VK} {E : XK} (h : sp__win_equation K vs H Q E) : vs.length = P__win_equation.length := by
  obtain ⟨G, x, e, ⟨_, a⟩, _⟩ := h
  obtain ⟨_, _, _, rfl, _⟩ := ac3 a; rfl
/-- a look's part of the row -/
def wpt (w : Wd) (S k i j : Nat) : Int := if S.testBit j = S.testBit i then 0 else rt (at2 w.t) (at2 w.c) S i j * ((if k = S then 1 else 0) - (if k = S ^^^ 2 ^ i then 1 else 0))
def WeI (G H : Hp) (a : Addr) (w : Wd) (S : Nat) (u v : V) (i : Nat) (σ : L2.St) (G' H' : Hp) : Prop := Stp G H G' H' ∧ G' a = none ∧ H' a = some (.lst (((List.range (2 ^ w.n)).map fun k => sm i fun i => sm w.n fun j => wpt w S k i j).map V.int)) ∧ ∃ c5 c6 c7 c8, σ = [some u, some v, some (.int (S : Int)), some (.int (w.n : Int)), some (.ref a), c5, c6, c7, c8]
def WeJ (G H : Hp) (a : Addr) (w : Wd) (S : Nat) (u v : V) (i j : Nat) (σ : L2.St) (G' H' : Hp) : Prop := Stp G H G' H' ∧ G' a = none ∧ H' a = some (.lst (((List.range (2 ^ w.n)).map fun k => (sm i fun i => sm w.n fun j => wpt w S k i j) + sm j fun j => wpt w S k i j).map V.int)) ∧ ∃ c7 c8, σ = [some u, some v, some (.int (S : Int)), some (.int (w.n : Int)), some (.ref a), some (.int (i : Int)), some (.int (if S.testBit i then 1 else 0)), c7, c8]
theorem ok__win_equation {P : Program} {w : World} {K : PySem.W.Frag} {mg : Str → Option Value} {base : Heap} {k : Nat} (T : Tx K mg)  : Ok P w K mg base (k + 1) "_win_equation" P__win_equation (sp__win_equation K) := by
  refine ok_of T.d__win_equation sc__win_equation (fun _ _ _ _ _ _ us hl => match us, hl with | [_, _, _], _ => rfl) (fun vs H Q E h => ?_) (fun f cdv A outer s H vs Q E hr h => ?_)
  · exact len__win_equation h
  · refine ⟨_, (pss_cons (ps_set (i := 3) sc__win_equation.nd rfl (by first | exact Or.inl rfl | exact Or.inr rfl) (pe_callB call_len_seq (by rfl) T.f_len PySem.boot_len (pa_cons (pv 0) pa_nil)))
      (pss_cons (ps_set (i := 4) sc__win_equation.nd rfl (by first | exact Or.inl rfl | exact Or.inr rfl) (pe_op op_rep (pe_lst (pa_cons pe_int pa_nil)) (pe_op op_oneShl pe_int (pv 3))))
      (pss_cons (ps_for PassesOwn.never rfl (pi_range1 (by rfl) T.f_range (pa_cons (pv 3) pa_nil)) (pg_name (i := 5) sc__win_equation.nd rfl (by first | exact Or.inl rfl | exact Or.inr rfl)) (pss_cons (ps_set (i := 6) sc__win_equation.nd rfl (by first | exact Or.inl rfl | exact Or.inr rfl) (pe_op op_and (pe_op op_shr (pv 2) (pv 5)) pe_int))
      (pss_one (ps_for PassesOwn.never rfl (pi_range1 (by rfl) T.f_range (pa_cons (pv 3) pa_nil)) (pg_name (i := 7) sc__win_equation.nd rfl (by first | exact Or.inl rfl | exact Or.inr rfl)) (pss_one (ps_if (pt_cmpR op_ne (pe_op op_and (pe_op op_shr (pv 2) (pv 7)) pe_int) (pv 6) (nomark _)) (pss_cons (ps_set (i := 8) sc__win_equation.nd rfl (by first | exact Or.inl rfl | exact Or.inr rfl) (pe_ifExp (pt_truth (pv 6) (by intro _; rfl)) (pe_ix ix_any (pe_ix ix_any (pv 0) (pv 5) (fun _ _ => rfl)) (pv 7) (fun _ _ => rfl)) (pe_op op_add (pe_ix ix_any (pe_ix ix_any (pv 0) (pv 5) (fun _ _ => rfl)) (pv 7) (fun _ _ => rfl)) (pe_ix ix_any (pe_ix ix_any (pv 1) (pv 5) (fun _ _ => rfl)) (pv 7) (fun _ _ => rfl)))))
      (pss_cons (ps_augS (pv 4) (pv 2) get_list (pv 8) ip_add set_list)
      (pss_one (ps_augS (pv 4) (pe_op op_xor (pv 2) (pe_op op_oneShl pe_int (pv 5))) get_list (pv 8) ip_sub set_list)))) pss_nil))))))
      (pss_one (ps_ret (pv 4)))))), ?_⟩
    obtain ⟨G, ⟨w, S⟩, e, ⟨⟨hw, hS⟩, hv⟩, q⟩ := h
    dsimp only at hw hS hv q
    obtain ⟨u, v, v3, rfl, hu, hvv, rfl⟩ := ac3 hv
    have n4 := hw.n4
    have n2 := hw.n2
    have p16 : 2 ^ w.n ≤ 16 := Nat.pow_le_pow_right (n := 2) (by decide) n4
    refine s_set (R := IR) (x := (w.n : Int)) ((ev_len (R := Sq IR) (xs := w.t) (ev_var rfl hu)).eq (by rw [hw.st.l])) e fun x G1 H1 s1 r1 => ?_
    obtain rfl := r1
    refine s_setN (S := IR) (ys := List.replicate (((2 ^ w.n : Nat) : Int).toNat) 0) (en_rep ev_int (ev_shl (ev_varI rfl) (by omega)) (by omega) (by omega)) s1.v fun a us G2 H2 I2 ha => ?_
    have ha0 : H a = none := s1.h.none ha
    have S2 := s1.trans I2.s
    have d2 := I2.d
    rw [paired_ints I2.p, Int.toNat_natCast] at d2
    refine s_for (I := WeI G H a w S u v) (ei_range1 (m := (w.n : Int)) (ea_consI (ev_varI rfl) ea_nil) (by omega) (by omega)) I2.s.v ?_ ?_ ?_
    · refine fun G3 H3 s3 => ⟨S2.trans s3, s3.n a _ d2 I2.g, ?_, _, _, _, _, rfl⟩
      rw [s3.h _ _ d2]
      congr 2
      rw [show (fun k => sm 0 fun i => sm w.n fun j => wpt w S k i j) = fun _ => (0 : Int) from rfl]
      congr 1
      rw [List.map_const', List.length_range]
    · rintro i x σ Gp Hq G' H' G1' hi e1 e2 ⟨S3, g3, d3, c5, c6, c7, c8, rfl⟩ s4 rfl
      rw [Int.toNat_natCast] at hi
      have S4 := S3.trans s4
      refine s_set (R := IR) (x := if S.testBit i then 1 else 0) (ev_bit (n := S) (p := i) (ev_varI rfl) (ev_varI rfl)) S4.v fun x G5 H5 s5 r5 => ?_
      obtain rfl := r5
      have S5 := S4.trans s5
      have s45 := s4.trans s5
      have d5 := s45.h _ _ d3
      have g5 := s45.n _ _ d3 g3
      refine s_for' (I := WeJ G H a w S u v i) (ei_range1 (m := (w.n : Int)) (ea_consI (ev_varI rfl) ea_nil) (by omega) (by omega)) s5.v ?_ ?_ ?_
      · refine fun G6 H6 s6 => ⟨S5.trans s6, s6.n _ _ d5 g5, ?_, _, _, rfl⟩
        rw [s6.h _ _ d5]
        congr 3
        refine (List.map_congr_left fun k _ => ?_)
        show _ = _ + 0
        omega
      · rintro j x σ Gs Hs Gt Ht Gu hj f1 f2 ⟨S6, g6, d6, c7, c8, rfl⟩ s7 rfl
        rw [Int.toNat_natCast] at hj
        have S7 := S6.trans s7
        have d7 := s7.h _ _ d6
        have g7 := s7.n _ _ d6 g6
        refine s_if (b := decide (S.testBit j ≠ S.testBit i)) (EvT.eq (et_test (ev_neI (ev_bit (n := S) (p := j) (ev_varI rfl) (ev_varI rfl)) (ev_varI rfl))) ?_) S7.v (fun G8 H8 s8 hb => ?_) (fun G8 H8 s8 hb => ?_)
        · cases S.testBit j <;> cases S.testBit i <;> rfl
        · have hne := of_decide_eq_true hb
          have S8 := S7.trans s8
          have hu8 := Mono.up S8.g hu
          have hv8 := Mono.up S8.g hvv
          refine s_set (R := IR) (x := rt (at2 w.t) (at2 w.c) S i j) ?_ s8.v fun x G9 H9 s9 r9 => ?_
          · refine ev_if (et_tru (ev_varI rfl)) (fun hb => Ev.eq (ev_at w.t hw.st hi hj rfl hu8 rfl rfl) ?_) (fun hb => Ev.eq (ev_I0 (ev_at w.t hw.st hi hj rfl hu8 rfl rfl) (ev_at w.c hw.sc hi hj rfl hv8 rfl rfl)) ?_)
            · unfold rt
              cases z : S.testBit i
              · rw [z] at hb; cases hb
              · rfl
            · unfold rt
              cases z : S.testBit i
              · rfl
              · rw [z] at hb; cases hb
          · obtain rfl := r9
            have s89 := s8.trans s9
            have S9 := S7.trans s89
            have d9 := s89.h _ _ d7
            have g9 := s89.n _ _ d7 g7
            have xl : S ^^^ 2 ^ i < 2 ^ w.n := xor_lt hS hi
            have xn : S ^^^ 2 ^ i ≠ S := xor_ne S i
            refine s_augS (k := S) (x := (sm i fun i => sm w.n fun j => wpt w S S i j) + sm j fun j => wpt w S S i j) rfl d9 (ev_varI rfl) (get_rng _ hS) (by omega) (ev_varI rfl) s9.v fun G10 H10 s10 => ?_
            have S10 := (S9.trans s10)
            have g10 := s10.n _ _ d9 g9
            have S10' := S10.mut (o := .lst ((((List.range (2 ^ w.n)).map fun k => (sm i fun i => sm w.n fun j => wpt w S k i j) + sm j fun j => wpt w S k i j).set S (((sm i fun i => sm w.n fun j => wpt w S S i j) + sm j fun j => wpt w S S i j) + rt (at2 w.t) (at2 w.c) S i j)).map V.int)) ha0 g10
            have hxor := xor_sub S (by omega) i (by omega)
            refine s_augS1 (k := S ^^^ 2 ^ i) (x := (sm i fun i' => sm w.n fun j => wpt w S (S ^^^ 2 ^ i) i' j) + sm j fun j => wpt w S (S ^^^ 2 ^ i) i j) rfl upd_same ((ev_xorN (a := S) (b := 2 ^ i) (ev_varI rfl) (ev_shl (ev_varI rfl) (by omega))).eq hxor) ?_ (by omega) (ev_varI rfl) S10'.v fun G11 H11 s11 => ?_
            · rw [List.getElem?_set_ne (fun z => xn z.symm)]
              exact get_rng _ xl
            · have S11 := S10'.trans s11
              have g11 := s11.n _ _ upd_same g10
              refine ⟨G11, f2.trans (s7.g.trans (s8.g.trans (s9.g.trans (s10.g.trans s11.g)))), s11.v.mut g11, S11.mut ha0 g11, g11, ?_, _, _, rfl⟩
              rw [upd_same, set_rng, set_rng]
              congr 3
              refine (List.map_congr_left fun k _ => ?_)
              show _ = _ + (sm j (fun j => wpt w S k i j) + wpt w S k i j)
              have hw' : wpt w S k i j = rt (at2 w.t) (at2 w.c) S i j * ((if k = S then 1 else 0) - (if k = S ^^^ 2 ^ i then 1 else 0)) := by
                unfold wpt
                rw [if_neg hne]
              rw [hw']
              by_cases z1 : k = S ^^^ 2 ^ i
              · subst z1
                rw [if_pos rfl, if_pos rfl, if_neg xn]; omega
              · rw [if_neg z1, if_neg z1]
                by_cases z2 : k = S
                · subst z2
                  rw [if_pos rfl, if_pos rfl]; omega
                · rw [if_neg z2, if_neg z2]; omega
        · have heq : S.testBit j = S.testBit i := Classical.byContradiction fun z => of_decide_eq_false hb z
          refine ⟨G8, f2.trans (s7.g.trans s8.g), s8.v, S7.trans s8, s8.n _ _ d7 g7, ?_, _, _, rfl⟩
          rw [s8.h _ _ d7]
          congr 3
          refine (List.map_congr_left fun k _ => ?_)
          show _ = _ + (sm j (fun j => wpt w S k i j) + wpt w S k i j)
          have hw' : wpt w S k i j = 0 := by
            unfold wpt
            rw [if_pos heq]
          rw [hw']; omega
      · rintro σ Gs Hs f1 f2 ⟨S6, g6, d6, c7, c8, rfl⟩
        rw [Int.toNat_natCast] at d6
        exact ⟨Gs, e2.trans (s4.g.trans (s5.g.trans f1)), f2, S6, g6, d6, _, _, _, _, rfl⟩
    · rintro σ G' H' e1 e2 ⟨S3, g3, d3, c5, c6, c7, c8, rfl⟩
      rw [Int.toNat_natCast] at d3
      have S4 := S3.add ha0 g3 d3
      refine s_ret (R := Ls IR) (x := (List.range (2 ^ w.n)).map fun k => winE w.n (at2 w.t) (at2 w.c) S k) (ev_var rfl ⟨a, _, rfl, upd_same, ints_paired _ _⟩) S4.v fun x G5 H5 s5 r5 => q x G5 H5 (S4.trans s5) r5
abbrev N_win_equations : List Str := ["takes", "calls", "state"]
abbrev P_win_equations : List Str := ["takes", "calls"]
theorem sc_win_equations : FnScope N_win_equations P_win_equations (defScope s_win_equations) := ⟨rfl, rfl, rfl, by decide +kernel, rfl, by decide +kernel, by decide +kernel⟩
def wRows (w : Wd) : Mx := (List.range (2 ^ w.n - 2)).map fun r => (List.range (2 ^ w.n)).map fun k => winE w.n (at2 w.t) (at2 w.c) (r + 1) k
def sp_win_equations (K : PySem.W.Frag) : Sp := Pu (fun (x : Wd) vs G => WOk x ∧ AC MxS x.t (AC MxS x.c A0) vs G) (fun x G u => MxL G u (wRows x))
theorem len_win_equations {K : PySem.W.Frag} {vs : List V} {H : Hp} {Q : VK} {E : XK} (h : sp_win_equations K vs H Q E) : vs.length = P_win_equations.length := by
  obtain ⟨G, x, e, ⟨_, a⟩, _⟩ := h
  obtain ⟨_, _, rfl, _⟩ := ac2 a; rfl
theorem ok_win_equations {P : Program} {w : World} {K : PySem.W.Frag} {mg : Str → Option Value} {base : Heap} {k : Nat} (T : Tx K mg) (G__win_equation : Ok P w K mg base k "_win_equation" P__win_equation (sp__win_equation K)) : Ok P w K mg base (k + 1) "win_equations" P_win_equations (sp_win_equations K) := by
  obtain ⟨fd__win_equation, G__win_equation, B__win_equation, K__win_equation⟩ := G__win_equation
  refine ok_of T.d_win_equations sc_win_equations (fun _ _ _ _ _ _ us hl => match us, hl with | [_, _], _ => rfl) (fun vs H Q E h => ?_) (fun f cdv A outer s H vs Q E hr h => ?_)
  · exact len_win_equations h
  · refine ⟨_, (pss_one (ps_ret (pe_lc (own := [("state", 2)]) (g := (gName 2)) (tt := tYes) (te := (tCall (sp__win_equation K) [] E0 (tCons (tVar 0) (tCons (tVar 1) (tCons (tVar 2) tNil))))) (by rfl) sc_win_equations.nd (pi_range2 (by rfl) T.f_range (pa_cons pe_int (pa_cons (pe_op op_sub (pe_op op_oneShl pe_int (pe_callB call_len_seq (by rfl) T.f_len PySem.boot_len (pa_cons (pv 0) pa_nil))) pe_int) pa_nil))) (blkOk_by (by kernel_rfl)) (fun _ _ _ _ _ => (pg_name (i := 2) sc_win_equations.nd rfl (by first | exact Or.inl rfl | exact Or.inr rfl))) (fun _ _ _ _ _ => pts_nil) (fun _ _ _ _ _ => (pe_call G__win_equation hr (by rfl) T.g__win_equation K__win_equation B__win_equation .nil pass0 (pa_cons (pv 0) (pa_cons (pv 1) (pa_cons (pv 2) pa_nil)))))))), ?_⟩
    obtain ⟨G, w, e, ⟨hw, hv⟩, q⟩ := h
    obtain ⟨u, v, rfl, hu, hvv⟩ := ac2 hv
    have n4 := hw.n4
    have n2 := hw.n2
    have p16 : 2 ^ w.n ≤ 16 := Nat.pow_le_pow_right (n := 2) (by decide) n4
    have p4 : 4 ≤ 2 ^ w.n := Nat.pow_le_pow_right (n := 2) (by decide) n2
    refine s_ret (R := MxL) (x := wRows w) ?_ e fun x G5 H5 s5 r5 => q x G5 H5 s5 r5
    unfold wRows
    rw [show 2 ^ w.n - 2 = (((2 ^ w.n : Nat) : Int) - 1 - 1).toNat by omega]
    refine ev_lc0 (W := fun i _ v => v = .int (1 + (i : Int))) (ei_range2 (a := 1) (b := ((2 ^ w.n : Nat) : Int) - 1) (ea_consI ev_int (ea_consI (ev_I0 (f := fun i j => i - j) (ev_shl (k := w.n) ((ev_len (R := Sq IR) (xs := w.t) (ev_var rfl hu)).eq (by rw [hw.st.l])) (by omega)) ev_int) ea_nil)) ⟨by omega, by omega, by omega, by omega⟩) (by omega) fun i x G' H' hi s ex => ?_
    rw [show (1 : Int) + (i : Int) = ((i + 1 : Nat) : Int) by omega] at ex
    obtain rfl := ex
    exact ev_call (w, i + 1) (ea_cons (R := MxS) (x := w.t) (ev_var rfl (Mono.up s.g hu)) (ea_cons (R := MxS) (x := w.c) (ev_var rfl (Mono.up s.g hvv)) (ea_cons (R := NR) (x := i + 1) (ev_var rfl rfl) ea_nil))) (fun vs G' _ h => ⟨⟨hw, by show i + 1 < 2 ^ w.n; omega⟩, h⟩) (fun _ _ h => h)

end Cy
namespace Cy
open PySem PySem.Spec PyProof.Rows L2 He
local macro_rules | `(tactic| tm_at "ex") => `(tactic| first
  | exact Ex.refl _ | assumption | exact Stp.g (by assumption) | exact Stp.v (by assumption)
  | (refine Ex.trans (Stp.g (by assumption)) ?_; tm_at "ex")
  | (refine Ex.trans (by assumption) ?_; tm_at "ex"))
local macro_rules | `(tactic| tm_at "rl") => `(tactic| first
  | exact rfl | assumption | (apply Mono.up; rotate_left; assumption; tm_at "ex"))
local macro_rules | `(tactic| tm_at "sc") => `(tactic| first | assumption | omega)
local macro_rules | `(tactic| tm_at "ev") => `(tactic| first
  | exact ev_int | exact ev_bl | assumption
  | (apply ev_varI; exact rfl)
  | (apply ev_var; exact rfl; tm_at "rl")
  | (apply ev_I0; tm_at "ev"; tm_at "ev")
  | (apply ev_B0; tm_at "ev"; tm_at "ev")
  | (apply ev_I; tm_at "ev"; tm_at "ev"; tm_at "sc")
  | (apply ev_un; tm_at "ev")
  | (apply ev_eqI; tm_at "ev"; tm_at "ev")
  | (apply ev_neI; tm_at "ev"; tm_at "ev")
  | (apply ev_fstI; tm_at "ev")
  | (apply ev_sndI; tm_at "ev")
  | (apply ev_max2; tm_at "ev"; tm_at "ev")
  | (apply ev_min2; tm_at "ev"; tm_at "ev")
  | (apply ev_abs; tm_at "ev")
  | (apply ev_int1; tm_at "ev")
  | (apply ev_bits; tm_at "ev")
  | (apply ev_gcd; tm_at "ev"; tm_at "ev")
  | (apply ev_len; tm_at "ev")
  | (apply ev_tup2; tm_at "ev"; tm_at "ev"))
local macro_rules | `(tactic| tm_at "ea") => `(tactic| first
  | exact ea_nil
  | (apply ea_consI; tm_at "ev"; tm_at "ea")
  | (apply ea_cons; tm_at "ev"; tm_at "ea"))
local macro_rules | `(tactic| tm_at "et") => `(tactic| first
  | (apply et_test; tm_at "ev")
  | (apply et_B; tm_at "ev")
  | (apply et_not; tm_at "et"))

open Cr
section
variable {α β γ : Type} {K : PySem.W.Frag} {σ : L2.St} {G H : Hp} {te ta tb : TE} {tt : TT} {wi : TI} {R : Rel α} {S : Rel β} {n : Nat} {x : α}
theorem ev_lcPF [Mono S] {a b : Nat} (hab : a ≠ b) {f : Nat → Option β} {U : Rel γ} {T : Rel α} {px : Nat → γ × α} (h : EvI wi σ G H n (fun i G v => P2 U T G v (px i))) (hz : n ≤ 100000)
    (ht : ∀ (i : Nat) u w G' H', i < n → Stp G H G' H' → U G' u (px i).1 → T G' w (px i).2 → EvT tt (((wipe σ [a, b]).set a (some u)).set b (some w)) G' H' (f i).isSome)
    (he : ∀ (i : Nat) u w y G' H', i < n → Stp G H G' H' → U G' u (px i).1 → T G' w (px i).2 → f i = some y → Ev te (((wipe σ [a, b]).set a (some u)).set b (some w)) G' H' S y) : Ev (tLc wi (gTup K 2 (gCons (gName a) (gCons (gName b) gNil))) tt te [a, b]) σ G H (Ls S) ((List.range n).filterMap f) :=
  ev_lc (fun i => (List.range i).filterMap f) h (fun i hi => Nat.lt_of_le_of_lt (List.length_filterMap_le _ _) (by rw [List.length_range]; omega)) rfl fun i v G' H' Q hi s w k => g_pair s.v w fun u x r1 r2 => k _ (f i) (by
    show ((((((σ.set b none).set a none).set a (some u)).set b (some x)).set b none).set a none) = (σ.set b none).set a none
    rw [List.set_set, List.set_set, List.set_comm _ _ hab, List.set_set, List.set_set]) (ht i u x G' H' hi s r1 r2) (fun y hy => he i u x y G' H' hi s r1 r2 hy) (by rw [List.range_succ, List.filterMap_append]; congr 1)
theorem atI_lastX {us : List V} {v : V} (h : us[us.length - 1]? = some v) : atI us (-1) = some v := by
  have hl : 0 < us.length := by
    cases us with
    | nil => cases h
    | cons a r => exact Nat.succ_pos _
  have e : ixN us.length (-1) = some (us.length - 1) := by
    unfold ixN
    rw [if_neg (by decide), if_pos (by omega)]
    congr 1
    omega
  unfold atI
  rw [e]
  exact h
/-- xs[-1] -/
theorem ev_ixLast [Mono R] {xs : List α} (ha : Ev ta σ G H (Ls R) xs) (hx : xs[xs.length - 1]? = some x) : Ev (tOp (rIxL K) ta (tUn qNeg (tC (.int 1)))) σ G H R x :=
  ev_op ha (ev_un (f := fun i => -i) (ev_int (i := 1))) fun G' v w _ r1 r2 G1 H1 eg v1 Q q => by
    obtain ⟨a, us, rfl, ha, p⟩ := r1
    obtain ⟨v, e1, r⟩ := paired_get1 p hx
    rw [← paired_len p] at e1
    exact ⟨a, us, -1, v, rfl, r2, SqL.of (v1 _ _ (eg _ _ ha)), atI_lastX e1, q v G1 H1 (Stp.refl v1) (Mono.up eg r)⟩
end
/-! ### the wins -/
def wbs (w : Wd) : List Int := (List.range (2 ^ w.n - 2)).map fun r => - winE w.n (at2 w.t) (at2 w.c) (r + 1) (2 ^ w.n - 1)
abbrev wMt (w : Wd) : Mx := wM w.n (at2 w.t) (at2 w.c)
def wX (w : Wd) (i : Nat) : Int := svX (wMt w) (wbs w) (2 ^ w.n - 2) i
def wB (w : Wd) : Int := svB (wMt w) (wbs w) (2 ^ w.n - 2)
def wF (w : Wd) (S : Nat) : Int := lotF w.n (wX w) (wB w) S
theorem WOk.p {w : Wd} (h : WOk w) : 4 ≤ 2 ^ w.n ∧ 2 ^ w.n ≤ 16 := ⟨Nat.pow_le_pow_right (n := 2) (by decide) h.n2, Nat.pow_le_pow_right (n := 2) (by decide) h.n4⟩
theorem WOk.lkW {w : Wd} (h : WOk w) : LK (at2 (wMt w)) (2 ^ w.n - 2) := wM_lk h.n4 h.lk (fun i j hi hj => (h.t0 i j hi hj).1) (fun i j hi hj => (h.c0 i j hi hj).1)
theorem WOk.eW {w : Wd} (h : WOk w) (S k : Nat) : (winE w.n (at2 w.t) (at2 w.c) S k).natAbs ≤ 2 ^ 25 := by
  have := winE_le (n := w.n) (T := at2 w.t) (C := at2 w.c) (B := 2 ^ 16) (fun i j hi hj => by have := h.t0 i j hi hj; omega) (fun i j hi hj => by have := h.c0 i j hi hj; omega) h.n4 S k
  omega
theorem WOk.svM {w : Wd} (h : WOk w) {b : List Int} (hb : b.length = 2 ^ w.n - 2) (hB : ∀ r, r < 2 ^ w.n - 2 → (b.getD r 0).natAbs ≤ 2 ^ 150) : SvOk (wMt w) b (2 ^ w.n - 2) := by
  obtain ⟨p1, p2⟩ := h.p
  refine svOk_of (tab_sq _ _) hb (by omega) (by omega) h.lkW (fun r c hr hc => ?_) hB
  show (at2 (wM _ _ _) r c).natAbs ≤ _
  unfold wM
  rw [tab_at hr hc]
  exact h.eW _ _
theorem wbs_get {w : Wd} {r : Nat} (hr : r < 2 ^ w.n - 2) : (wbs w).getD r 0 = - winE w.n (at2 w.t) (at2 w.c) (r + 1) (2 ^ w.n - 1) := getD_of (get_rng _ hr)
theorem WOk.sv {w : Wd} (h : WOk w) : SvOk (wMt w) (wbs w) (2 ^ w.n - 2) := h.svM (by unfold wbs; rw [List.length_map, List.length_range]) fun r hr => by
  rw [wbs_get hr, Int.natAbs_neg]
  exact Nat.le_trans (h.eW _ _) (by decide)
theorem WOk.win_eq {w : Wd} (h : WOk w) {S : Nat} (h0 : 0 < S) (h1 : S < 2 ^ w.n - 1) : Lop w.n (at2 w.t) (at2 w.c) (wF w) S = 0 := by
  have e := h.sv.eqs (r := S - 1) (by omega)
  rw [wbs_get (by omega), show S - 1 + 1 = S by omega] at e
  show Lop _ _ _ (lotF _ _ _) S = 0
  rw [lop_in h.n2 h0 h1]
  show sm _ (fun c => at2 (wMt w) (S - 1) c * svX (wMt w) (wbs w) (2 ^ w.n - 2) c) + _ * svB _ _ _ = 0
  rw [e]
  grind
theorem num_sum : ∀ n : Nat, n < 5 → ∀ S : Nat, S < 2 ^ n → ((List.range n).filterMap fun k => if S.testBit k = true then some ((2 ^ k : Nat) : Int) else none).sum = (S : Int) := by decide +kernel
theorem rows_mid {w : Wd} (h : WOk w) : (wRows w).map (fun r => cutL r (some 1) (some (-1))) = wMt w := by
  obtain ⟨p1, p2⟩ := h.p
  show ((List.range _).map _).map _ = (List.range _).map _
  rw [List.map_map]
  refine List.map_congr_left fun r _ => ?_
  show cutL ((List.range _).map _) _ _ = _
  rw [cut_mid _ (by rw [List.length_map, List.length_range]; omega)]
  refine ext_some ?_ fun i hi => ?_
  · rw [List.length_take, List.length_drop, List.length_map, List.length_range, List.length_map, List.length_range]; omega
  · rw [List.length_take, List.length_drop, List.length_map, List.length_range] at hi
    refine ⟨_, ?_, get_rng _ (by omega)⟩
    rw [List.getElem?_take, if_pos (by rw [List.length_map, List.length_range]; omega), List.getElem?_drop, Nat.add_comm 1 i]
    exact get_rng _ (by omega)
theorem rows_last {w : Wd} (h : WOk w) : (wRows w).map (fun r => [- r.getD (2 ^ w.n - 1) 0]) = (wbs w).map fun y => [y] := by
  obtain ⟨p1, p2⟩ := h.p
  unfold wRows wbs
  rw [List.map_map]; rw [List.map_map]
  refine List.map_congr_left fun r _ => ?_
  show [- List.getD _ _ _] = [_]
  rw [getD_of (get_rng _ (by omega))]
theorem inner_get {w : Wd} (h : WOk w) {S : Nat} (hS : S < 2 ^ w.n) : (([0] ++ (List.range (2 ^ w.n - 2)).map (wX w)) ++ [wB w])[S]? = some (wF w S) := by
  obtain ⟨p1, p2⟩ := h.p
  show _ = some (lotF _ _ _ _)
  unfold lotF
  by_cases h0 : S = 0
  · subst h0; rw [if_pos rfl]; rfl
  · rw [if_neg h0]
    by_cases h1 : S = 2 ^ w.n - 1
    · have hl : ([0] ++ (List.range (2 ^ w.n - 2)).map (wX w)).length = 2 ^ w.n - 1 := by simp; omega
      rw [if_pos h1, List.getElem?_append_right (by omega), hl, h1, Nat.sub_self]; rfl
    · rw [if_neg h1, List.getElem?_append_left (by simp; omega), List.getElem?_append_right (by simp; omega)]
      exact get_rng _ (by show S - 1 < _; omega)
abbrev N_win_tops : List Str := ["world", "head", "takes", "calls", "rows", "answers", "bottom", "inner", "tops", "number", "i", "j", "row", "answer", "k"]
abbrev P_win_tops : List Str := ["world"]
theorem sc_win_tops : FnScope N_win_tops P_win_tops (defScope s_win_tops) := ⟨rfl, rfl, rfl, by decide +kernel, rfl, by decide +kernel, by decide +kernel⟩
def sp_win_tops (K : PySem.W.Frag) : Sp := Pu (fun (x : Wd) vs G => WOk x ∧ AC (WR K) x A0 vs G) (fun x G u => P2 (Ls IR) IR G u ((List.range (2 ^ x.n)).map (wF x), wB x))
theorem len_win_tops {K : PySem.W.Frag} {vs : List V} {H : Hp} {Q : VK} {E : XK} (h : sp_win_tops K vs H Q E) : vs.length = P_win_tops.length := by
  obtain ⟨G, x, e, ⟨_, a⟩, _⟩ := h
  obtain ⟨_, rfl, _⟩ := ac1 a; rfl
/-- a table taken row by row -/
theorem ev_copy {K : PySem.W.Frag} {σ : L2.St} {G H : Hp} {n : Nat} {M : Mx} {hd : V} {f : Str} {p q a b : Nat} (hS : Sqm n M) (hab : a ≠ b) (hpa : p ≠ a) (hpb : p ≠ b) (hqa : q ≠ a) (hqb : q ≠ b) (ha : a < σ.length) (hb : b < σ.length) (n4 : n ≤ 100) (hq : σ[q]? = some (some hd)) (rh : Tp NR G hd (List.range n))
    (ht : ∀ {σ' G' H'}, Stp G H G' H' → σ'[p]? = σ[p]? → Ev (tWd K f (tVar p)) σ' G' H' MxT M) :
    Ev (tLc (iTup K (tVar q)) (gName a) tYes (tLc (iTup K (tVar q)) (gName b) tYes (tOp (rIxT K) (tOp (rIxT K) (tWd K f (tVar p)) (tVar a)) (tVar b)) [b]) [a]) σ G H MxL M := by
  have hh := range_map hS.l ([] : List Int)
  refine Ev.eq (ev_lcL (R := NR) (xs := List.range n) (f := fun i => M.getD i []) (ei_tup (ev_var hq rh)) (by rw [List.length_range]; omega) fun i x v G1 H1 hx s1 ev => ?_) hh
  obtain rfl := ev
  have hxn : x < n := List.mem_range.mp (List.mem_of_getElem? hx)
  obtain ⟨r, er, hl, hr⟩ := hS.row hxn
  rw [getD_of er]
  have hh2 := range_map hl (0 : Int)
  have q1 : ((wipe σ [a]).set a (some (.int (x : Int))))[q]? = some (some hd) := by
    show ((σ.set a none).set a _)[q]? = _
    rw [List.set_set, List.getElem?_set_ne (Ne.symm hqa)]; exact hq
  refine Ev.eq (ev_lcL (R := NR) (xs := List.range n) (f := fun j => r.getD j 0) (ei_tup (ev_var q1 (Mono.up s1.g rh))) (by rw [List.length_range]; omega) fun j y v G2 H2 hy s2 ev2 => ?_) hh2
  obtain rfl := ev2
  have hyn : y < n := List.mem_range.mp (List.mem_of_getElem? hy)
  rw [getD_of (hr y hyn)]
  refine ev_ixT (R := IR) (n := y) (xs := r) (ev_ixT (R := Tp IR) (n := x) (xs := M) (ht (s1.trans s2) ?_) (ev_varI ?_) rfl er) (ev_varI ?_) rfl (hr y hyn)
  · show ((((σ.set a none).set a _).set b none).set b _)[p]? = _
    rw [List.set_set, List.set_set, List.getElem?_set_ne (Ne.symm hpb), List.getElem?_set_ne (Ne.symm hpa)]
  · show ((((σ.set a none).set a _).set b none).set b _)[a]? = _
    rw [List.set_set, List.set_set, List.getElem?_set_ne (Ne.symm hab), List.getElem?_set_self ha]
  · show ((((σ.set a none).set a _).set b none).set b _)[b]? = _
    rw [List.set_set, List.set_set, List.getElem?_set_self (by rw [List.length_set]; exact hb)]
theorem ok_win_tops {P : Program} {w : World} {K : PySem.W.Frag} {mg : Str → Option Value} {base : Heap} {k : Nat} (T : Tx K mg) (G_need_small : Ok P w K mg base k "need_small" P_need_small (sp_need_small K)) (G_need_one_head : Ok P w K mg base k "need_one_head" P_need_one_head (sp_need_one_head K)) (G_win_equations : Ok P w K mg base k "win_equations" P_win_equations (sp_win_equations K)) (G_solved : Ok P w K mg base k "solved" P_solved (sp_solved K)) : Ok P w K mg base (k + 1) "win_tops" P_win_tops (sp_win_tops K) := by
  obtain ⟨fd_need_small, G_need_small, B_need_small, K_need_small⟩ := G_need_small
  obtain ⟨fd_need_one_head, G_need_one_head, B_need_one_head, K_need_one_head⟩ := G_need_one_head
  obtain ⟨fd_win_equations, G_win_equations, B_win_equations, K_win_equations⟩ := G_win_equations
  obtain ⟨fd_solved, G_solved, B_solved, K_solved⟩ := G_solved
  refine ok_of T.d_win_tops sc_win_tops (fun _ _ _ _ _ _ us hl => match us, hl with | [_], _ => rfl) (fun vs H Q E h => ?_) (fun f cdv A outer s H vs Q E hr h => ?_)
  · exact len_win_tops h
  · refine ⟨_, (pss_cons (ps_expr (pe_call G_need_small hr (by rfl) T.g_need_small K_need_small B_need_small .nil pass0 (pa_cons (pv 0) (pa_cons pe_int pa_nil))))
      (pss_cons (ps_set (i := 1) sc_win_tops.nd rfl (by first | exact Or.inl rfl | exact Or.inr rfl) (pe_call G_need_one_head hr (by rfl) T.g_need_one_head K_need_one_head B_need_one_head .nil pass0 (pa_cons (pv 0) pa_nil)))
      (pss_cons (ps_setLc (i := 2) (own := [("i", 10)]) (g := (gName 10)) (tt := tYes) (te := (tLc (iTup K (tVar 1)) (gName 11) tYes (tOp (rIxT K) (tOp (rIxT K) (tWd K "takes" (tVar 0)) (tVar 10)) (tVar 11)) [11])) (by rfl) sc_win_tops.nd rfl rfl (sw_true rfl rfl rfl (by kernel_rfl)) (pi_tup (pv 1)) (blkOk_by (by kernel_rfl)) (fun _ _ _ _ _ => (pg_name (i := 10) sc_win_tops.nd rfl (by first | exact Or.inl rfl | exact Or.inr rfl))) (fun _ _ _ _ _ => pts_nil) (fun _ _ _ _ _ => (pe_lc (own := [("j", 11)]) (g := (gName 11)) (tt := tYes) (te := (tOp (rIxT K) (tOp (rIxT K) (tWd K "takes" (tVar 0)) (tVar 10)) (tVar 11))) (by rfl) sc_win_tops.nd (pi_tup (pv 1)) (blkOk_by (by kernel_rfl)) (fun _ _ _ _ _ => (pg_name (i := 11) sc_win_tops.nd rfl (by first | exact Or.inl rfl | exact Or.inr rfl))) (fun _ _ _ _ _ => pts_nil) (fun _ _ _ _ _ => (pe_ix ix_tup (pe_ix ix_tup (pe_slotX (sclsX T.scls) (slotX T.sl_takes) (pv 0)) (pv 10) (fun _ _ => rfl)) (pv 11) (fun _ _ => rfl))))))
      (pss_cons (ps_setLc (i := 3) (own := [("i", 10)]) (g := (gName 10)) (tt := tYes) (te := (tLc (iTup K (tVar 1)) (gName 11) tYes (tOp (rIxT K) (tOp (rIxT K) (tWd K "calls" (tVar 0)) (tVar 10)) (tVar 11)) [11])) (by rfl) sc_win_tops.nd rfl rfl (sw_true rfl rfl rfl (by kernel_rfl)) (pi_tup (pv 1)) (blkOk_by (by kernel_rfl)) (fun _ _ _ _ _ => (pg_name (i := 10) sc_win_tops.nd rfl (by first | exact Or.inl rfl | exact Or.inr rfl))) (fun _ _ _ _ _ => pts_nil) (fun _ _ _ _ _ => (pe_lc (own := [("j", 11)]) (g := (gName 11)) (tt := tYes) (te := (tOp (rIxT K) (tOp (rIxT K) (tWd K "calls" (tVar 0)) (tVar 10)) (tVar 11))) (by rfl) sc_win_tops.nd (pi_tup (pv 1)) (blkOk_by (by kernel_rfl)) (fun _ _ _ _ _ => (pg_name (i := 11) sc_win_tops.nd rfl (by first | exact Or.inl rfl | exact Or.inr rfl))) (fun _ _ _ _ _ => pts_nil) (fun _ _ _ _ _ => (pe_ix ix_tup (pe_ix ix_tup (pe_slotX (sclsX T.scls) (slotX T.sl_calls) (pv 0)) (pv 10) (fun _ _ => rfl)) (pv 11) (fun _ _ => rfl))))))
      (pss_cons (ps_set (i := 4) sc_win_tops.nd rfl (by first | exact Or.inl rfl | exact Or.inr rfl) (pe_call G_win_equations hr (by rfl) T.g_win_equations K_win_equations B_win_equations .nil pass0 (pa_cons (pv 2) (pa_cons (pv 3) pa_nil))))
      (pss_cons (ps_asg (pe_call G_solved hr (by rfl) T.g_solved K_solved B_solved .nil pass0 (pa_cons (pe_lc (own := [("row", 12)]) (g := (gName 12)) (tt := tYes) (te := (tSl (rSlL K) (tVar 12) (tPart (tC (.int 1))) (tPart (tUn qNeg (tC (.int 1)))))) (by rfl) sc_win_tops.nd (pi_list (pv 4)) (blkOk_by (by kernel_rfl)) (fun _ _ _ _ _ => (pg_name (i := 12) sc_win_tops.nd rfl (by first | exact Or.inl rfl | exact Or.inr rfl))) (fun _ _ _ _ _ => pts_nil) (fun _ _ _ _ _ => (pe_slice sl_list (pv 12) (po_some pe_int) (po_some (pe_un un_neg pe_int))))) (pa_cons (pe_lc (own := [("row", 12)]) (g := (gName 12)) (tt := tYes) (te := (tLst (tCons (tUn qNeg (tOp (rIxL K) (tVar 12) (tUn qNeg (tC (.int 1))))) tNil))) (by rfl) sc_win_tops.nd (pi_list (pv 4)) (blkOk_by (by kernel_rfl)) (fun _ _ _ _ _ => (pg_name (i := 12) sc_win_tops.nd rfl (by first | exact Or.inl rfl | exact Or.inr rfl))) (fun _ _ _ _ _ => pts_nil) (fun _ _ _ _ _ => (pe_lst (pa_cons (pe_un un_neg (pe_ix ix_list (pv 12) (pe_un un_neg pe_int) (fun _ _ => rfl))) pa_nil)))) pa_nil))) (pg_tup (by rfl) (pgs_cons (pg_name (i := 5) sc_win_tops.nd rfl (by first | exact Or.inl rfl | exact Or.inr rfl)) (pgs_cons (pg_name (i := 6) sc_win_tops.nd rfl (by first | exact Or.inl rfl | exact Or.inr rfl)) pgs_nil))))
      (pss_cons (ps_set (i := 7) sc_win_tops.nd rfl (by first | exact Or.inl rfl | exact Or.inr rfl) (pe_op op_cat (pe_op op_cat (pe_lst (pa_cons pe_int pa_nil)) (pe_lc (own := [("answer", 13)]) (g := (gName 13)) (tt := tYes) (te := (tOp (rIxL K) (tVar 13) (tC (.int 0)))) (by rfl) sc_win_tops.nd (pi_list (pv 5)) (blkOk_by (by kernel_rfl)) (fun _ _ _ _ _ => (pg_name (i := 13) sc_win_tops.nd rfl (by first | exact Or.inl rfl | exact Or.inr rfl))) (fun _ _ _ _ _ => pts_nil) (fun _ _ _ _ _ => (pe_ix ix_list (pv 13) pe_int (fun _ _ => rfl))))) (pe_lst (pa_cons (pv 6) pa_nil))))
      (pss_cons (ps_set (i := 8) sc_win_tops.nd rfl (by first | exact Or.inl rfl | exact Or.inr rfl) (pe_lst pa_nil))
      (pss_cons (ps_for PassesOwn.never rfl (pi_range1 (by rfl) T.f_range (pa_cons (pe_op op_oneShl pe_int (pe_slotX (sclsX T.scls) (slotX T.sl_size) (pv 0))) pa_nil)) (pg_name (i := 9) sc_win_tops.nd rfl (by first | exact Or.inl rfl | exact Or.inr rfl)) (pss_one (ps_expr (pe_bm PySem.F.plainAttrs_list PySem.F.slot_list_append PySem.F.type_list_append mt_append (pv 8) (pa_cons (pe_ix ix_list (pv 7) (pe_callB (cr_sum rfl) (by rfl) T.f_sum (by decide +kernel) (pa_cons (pe_lc (own := [("k", 14), ("i", 10)]) (g := (gTup K 2 (gCons (gName 14) (gCons (gName 10) gNil)))) (tt := (tTru K (tOp qAnd (tOp qShr (tVar 9) (tVar 10)) (tC (.int 1))))) (te := (tOp qShl (tC (.int 1)) (tVar 14))) (by rfl) sc_win_tops.nd (pi_enumT (by rfl) T.f_enumerate (pa_cons (pv 1) pa_nil)) (blkOk_by (by kernel_rfl)) (fun _ _ _ _ _ => (pg_tup (by rfl) (pgs_cons (pg_name (i := 14) sc_win_tops.nd rfl (by first | exact Or.inl rfl | exact Or.inr rfl)) (pgs_cons (pg_name (i := 10) sc_win_tops.nd rfl (by first | exact Or.inl rfl | exact Or.inr rfl)) pgs_nil)))) (fun _ _ _ _ _ => (pts_one (pt_truth (pe_op op_and (pe_op op_shr (pv 9) (pv 10)) pe_int) (by intro _; rfl)))) (fun _ _ _ _ _ => (pe_op op_oneShl pe_int (pv 14)))) pa_nil)) (fun _ _ => rfl)) pa_nil)))))
      (pss_one (ps_ret (pe_tup (pa_cons (pv 8) (pa_cons (pv 6) pa_nil)))))))))))))), ?_⟩
    obtain ⟨G, w, e, ⟨hw, hv⟩, q⟩ := h
    obtain ⟨u, rfl, hu⟩ := ac1 hv
    obtain ⟨p1, p2⟩ := hw.p
    have n4 := hw.n4
    have n2 := hw.n2
    refine Ev.run (te := tCall (sp_need_small K) [] E0 (tCons (tVar 0) (tCons (tC (.int 5)) tNil))) (R := VR) (x := .non) (ev_call (w, 5) (ea_cons (R := WR K) (ev_var rfl hu) (ea_cons (R := IR) (x := 5) ev_int ea_nil)) (fun vs G' _ h => ⟨by show (w.n : Int) ≤ 5; omega, h⟩) (fun _ _ h => h)) e fun _ G1 H1 s1 _ => ?_
    refine s_set (R := Tp NR) (x := List.range w.n) (ev_call w (ea_cons (R := WR K) (ev_var rfl (Mono.up s1.g hu)) ea_nil) (fun vs G' _ h => ⟨hw, h⟩) (fun _ _ h => h)) s1.v fun hd_ G2 H2 s2 r2 => ?_
    have S2 := s1.trans s2
    refine s_set (R := MxL) (x := w.t) (ev_copy hw.st (by decide) (by decide) (by decide) (by decide) (by decide) (by show 10 < 15; decide) (by show 11 < 15; decide) (by omega) rfl r2 (fun s hσ => ev_takes (w := w) (ev_var (by rw [hσ]; rfl) (Mono.up (S2.g.trans s.g) hu)))) s2.v fun tk G3 H3 s3 r3 => ?_
    have S3 := S2.trans s3
    refine s_set (R := MxL) (x := w.c) (ev_copy hw.sc (by decide) (by decide) (by decide) (by decide) (by decide) (by show 10 < 15; decide) (by show 11 < 15; decide) (by omega) rfl (Mono.up s3.g r2) (fun s hσ => ev_calls (w := w) (ev_var (by rw [hσ]; rfl) (Mono.up (S3.g.trans s.g) hu)))) s3.v fun cl G4 H4 s4 r4 => ?_
    have S4 := S3.trans s4
    have mxs : ∀ {G v M}, MxL G v M → MxS G v M := fun {G v M} ⟨a, us, e1, e2, p⟩ => .inl ⟨a, us, e1, e2, paired_imp (fun _ _ h => .inl h) p⟩
    refine s_set (R := MxL) (x := wRows w) (ev_call w (ea_cons (R := MxS) (x := w.t) (ev_var rfl (mxs (Mono.up s4.g r3))) (ea_cons (R := MxS) (x := w.c) (ev_var rfl (mxs r4)) ea_nil)) (fun vs G' _ h => ⟨hw, h⟩) (fun _ _ h => h)) s4.v fun rw_ G5 H5 s5 r5 => ?_
    have S5 := S4.trans s5
    have rl : (wRows w).length = 2 ^ w.n - 2 := by unfold wRows; rw [List.length_map, List.length_range]
    have rr : ∀ r, r ∈ wRows w → r.length = 2 ^ w.n := fun r hr => by
      obtain ⟨k, _, rfl⟩ := List.mem_map.mp hr
      rw [List.length_map]; rw [List.length_range]
    refine s_asg (R := P2 (Ls (Ls IR)) IR) (x := ((List.range (2 ^ w.n - 2)).map fun i => [wX w i], wB w)) ?_ s5.v fun v G6 H6 s6 r6 => ?_
    · refine ev_call ((wMt w, wbs w), 2 ^ w.n - 2) (ea_cons (R := Ls (Ls IR)) (x := wMt w) ?_ (ea_cons (R := Ls (Ls IR)) (x := (wbs w).map fun y => [y]) ?_ ea_nil)) (fun vs G' _ h => ⟨hw.sv, h⟩) (fun _ _ h => h)
      · rw [← rows_mid hw]
        refine ev_lcL (R := Ls IR) (ei_list (R := Ls IR) (xs := wRows w) (ev_var rfl r5)) (by rw [rl]; omega) fun i x v G6 H6 hx s6 rx => ?_
        exact ev_sl (ev_var rfl rx) (eo_some ev_int) (eo_some (ev_un (f := fun i => -i) ev_int))
      · rw [← rows_last hw]
        refine ev_lcL (R := Ls IR) (ei_list (R := Ls IR) (xs := wRows w) (ev_var rfl r5)) (by rw [rl]; omega) fun i x v G6 H6 hx s6 rx => ?_
        have xl := rr x (List.mem_of_getElem? hx)
        refine ev_lst (xs := [- x.getD (2 ^ w.n - 1) 0]) (.cons (ev_un (f := fun i => -i) (ev_ixLast (R := IR) (xs := x) (ev_var rfl rx) ?_)) .nil) (by show 1 ≤ 100000; decide)
        rw [xl, List.getD_eq_getElem?_getD, List.getElem?_eq_getElem (by omega)]; rfl
    refine g_pair s6.v r6 fun an bt r7 r8 => ?_
    obtain rfl := r8
    have S6 := S5.trans s6
    dsimp only at r7
    refine s_set (R := Ls IR) (x := ([0] ++ (List.range (2 ^ w.n - 2)).map (wX w)) ++ [wB w]) ?_ s6.v fun inn G7 H7 s7 r9 => ?_
    · refine ev_cat (ev_cat (ev_lst (R := IR) (xs := [0]) (.cons ev_int .nil) (by show 1 ≤ 100000; decide)) (Ev.eq (ev_lcL (R := Ls IR) (S := IR) (f := fun x => x.getD 0 0) (ei_list (R := Ls IR) (xs := (List.range (2 ^ w.n - 2)).map fun i => [wX w i]) (ev_var rfl r7)) (by rw [List.length_map, List.length_range]; omega) fun i x v G7 H7 hx s7 rx => ?_) (by rw [List.map_map]; rfl)) ?_) (ev_lst (R := IR) (xs := [wB w]) (.cons (ev_varI rfl) .nil) (by show 1 ≤ 100000; decide)) ?_
      · obtain ⟨k, _, rfl⟩ := List.mem_map.mp (List.mem_of_getElem? hx)
        exact ev_ixL (R := IR) (n := 0) (xs := [wX w k]) (ev_var rfl rx) ev_int rfl rfl
      · simp; omega
      · simp; omega
    have S7 := S6.trans s7
    refine s_new s7.v fun a ha ga => ?_
    have ha0 : H a = none := S7.h.none ha
    refine s_for (I := fun i σ G' H' => Stp G H G' H' ∧ G' a = none ∧ H' a = some (.lst (((List.range i).map (wF w)).map V.int)) ∧ ∃ c9, σ = [some u, some hd_, some tk, some cl, some rw_, some an, some (.int (wB w)), some inn, some (.ref a), c9, none, none, none, none, none]) (ei_range1 (m := ((2 ^ w.n : Nat) : Int)) (ea_consI (ev_shl (k := w.n) (ev_size (w := w) (ev_var rfl (Mono.up S7.g hu))) (by omega)) ea_nil) (by omega) (by omega)) (s7.v.trans (Ex.new ha)) ?_ ?_ ?_
    · exact fun G8 H8 s8 => ⟨(S7.own ha).trans s8, s8.n _ _ upd_same ga, s8.h _ _ upd_same, none, rfl⟩
    · rintro i v σ Gp Hq G' H' G1' hi e1 e2 ⟨S8, g8, d8, c9, rfl⟩ s9 rfl
      rw [Int.toNat_natCast] at hi
      have S9 := S8.trans s9
      have g9 := s9.n _ _ d8 g8
      have d9 := s9.h _ _ d8
      have i9 := Mono.up (e1.trans (e2.trans s9.g)) r9
      have h9 := Mono.up ((s3.g.trans (s4.g.trans (s5.g.trans (s6.g.trans s7.g)))).trans (e1.trans (e2.trans s9.g))) r2
      refine s_append1 (R := IR) (y := wF w i) rfl d9 (by rw [List.length_map, List.length_map, List.length_range]; omega) ?_ s9.v fun v G10 H10 s10 r10 => ?_
      · refine ev_ixL (R := IR) (n := i) (ev_var rfl i9) (Ev.eq (ev_sumL (ev_lcPF (U := NR) (T := NR) (S := IR) (f := fun k => if i.testBit k = true then some ((2 ^ k : Nat) : Int) else none) (by decide) (px := fun k => (k, k)) ((ei_enumT (R := NR) (xs := List.range w.n) (ea_cons (ev_var rfl h9) ea_nil)).imp fun k G v hk ⟨y, hy, r⟩ => ?_) (by rw [List.length_range]; omega) (fun k u' w' G10 H10 hk s10 e1' e2' => ?_) (fun k u' w' y G10 H10 hk s10 e1' e2' hy => ?_))) (by rw [List.length_range]; exact num_sum w.n (by omega) i hi)) rfl (inner_get hw hi)
        · rw [List.length_range] at hk
          rw [List.getElem?_range hk] at hy
          cases hy; exact r
        · obtain rfl := e1'
          obtain rfl := e2'
          refine (et_bit (n := i) (p := k) (ev_varI rfl) (ev_varI rfl)).eq ?_
          by_cases z : i.testBit k = true
          · rw [if_pos z, z]; rfl
          · rw [if_neg z, Bool.eq_false_iff.mpr z]; rfl
        · obtain rfl := e1'
          by_cases z : i.testBit k = true
          · rw [if_pos z] at hy
            cases hy
            exact ev_shl (ev_varI rfl) (by rw [List.length_range] at hk; omega)
          · rw [if_neg z] at hy; cases hy
      · obtain rfl := r10
        have g10 := s10.n _ _ d9 g9
        refine ⟨G10, e2.trans (s9.g.trans s10.g), s10.v.mut g10, (S9.trans s10).mut ha0 g10, g10, ?_, _, rfl⟩
        rw [upd_same, List.range_succ, List.map_append, List.map_append]; rfl
    · rintro σ G' H' e1 e2 ⟨S8, g8, d8, c9, rfl⟩
      rw [Int.toNat_natCast] at d8
      have S9 := S8.add ha0 g8 d8
      exact s_ret (R := P2 (Ls IR) IR) (ev_tup2 (R := Ls IR) (x := (List.range (2 ^ w.n)).map (wF w)) (ev_var rfl ⟨a, _, rfl, upd_same, ints_paired _ _⟩) (ev_varI rfl)) S9.v fun v G10 H10 s10 r10 => q v G10 H10 (S9.trans s10) r10
abbrev N_win_row : List Str := ["world", "tops", "bottom", "top"]
abbrev P_win_row : List Str := ["world"]
theorem sc_win_row : FnScope N_win_row P_win_row (defScope s_win_row) := ⟨rfl, rfl, rfl, by decide +kernel, rfl, by decide +kernel, by decide +kernel⟩
def wRow (w : Wd) : List (Int × Int) := (List.range (2 ^ w.n)).map fun S => lowf (wF w S) (wB w)
def sp_win_row (K : PySem.W.Frag) : Sp := Pu (fun (x : Wd) vs G => WOk x ∧ AC (WR K) x A0 vs G) (fun x G u => Tp FR G u (wRow x))
theorem len_win_row {K : PySem.W.Frag} {vs : List V} {H : Hp} {Q : VK} {E : XK} (h : sp_win_row K vs H Q E) : vs.length = P_win_row.length := by
  obtain ⟨G, x, e, ⟨_, a⟩, _⟩ := h
  obtain ⟨_, rfl, _⟩ := ac1 a; rfl
theorem ok_win_row {P : Program} {w : World} {K : PySem.W.Frag} {mg : Str → Option Value} {base : Heap} {k : Nat} (T : Tx K mg) (G_win_tops : Ok P w K mg base k "win_tops" P_win_tops (sp_win_tops K)) (G_ratio : Ok P w K mg base k "ratio" P_ratio (sp_ratio K)) : Ok P w K mg base (k + 1) "win_row" P_win_row (sp_win_row K) := by
  obtain ⟨fd_win_tops, G_win_tops, B_win_tops, K_win_tops⟩ := G_win_tops
  obtain ⟨fd_ratio, G_ratio, B_ratio, K_ratio⟩ := G_ratio
  refine ok_of T.d_win_row sc_win_row (fun _ _ _ _ _ _ us hl => match us, hl with | [_], _ => rfl) (fun vs H Q E h => ?_) (fun f cdv A outer s H vs Q E hr h => ?_)
  · exact len_win_row h
  · refine ⟨_, (pss_cons (ps_asg (pe_call G_win_tops hr (by rfl) T.g_win_tops K_win_tops B_win_tops .nil pass0 (pa_cons (pv 0) pa_nil)) (pg_tup (by rfl) (pgs_cons (pg_name (i := 1) sc_win_row.nd rfl (by first | exact Or.inl rfl | exact Or.inr rfl)) (pgs_cons (pg_name (i := 2) sc_win_row.nd rfl (by first | exact Or.inl rfl | exact Or.inr rfl)) pgs_nil))))
      (pss_one (ps_ret (pe_callTy call_tuple_of (by rfl) T.f_tuple (by decide +kernel) (pa_cons (pe_lc (own := [("top", 3)]) (g := (gName 3)) (tt := tYes) (te := (tCall (sp_ratio K) [] E0 (tCons (tVar 3) (tCons (tVar 2) tNil)))) (by rfl) sc_win_row.nd (pi_list (pv 1)) (blkOk_by (by kernel_rfl)) (fun _ _ _ _ _ => (pg_name (i := 3) sc_win_row.nd rfl (by first | exact Or.inl rfl | exact Or.inr rfl))) (fun _ _ _ _ _ => pts_nil) (fun _ _ _ _ _ => (pe_call G_ratio hr (by rfl) T.g_ratio K_ratio B_ratio .nil pass0 (pa_cons (pv 3) (pa_cons (pv 2) pa_nil))))) pa_nil))))), ?_⟩
    obtain ⟨G, w, e, ⟨hw, hv⟩, q⟩ := h
    obtain ⟨u, rfl, hu⟩ := ac1 hv
    obtain ⟨p1, p2⟩ := hw.p
    refine s_asg (R := P2 (Ls IR) IR) (x := ((List.range (2 ^ w.n)).map (wF w), wB w)) ?_ e fun v G6 H6 s6 r6 => ?_
    · exact ev_call w (ea_cons (R := WR K) (ev_var rfl hu) ea_nil) (fun vs G' _ h => ⟨hw, h⟩) (fun _ _ h => h)
    refine g_pair s6.v r6 fun an bt r7 r8 => ?_
    obtain rfl := r8
    dsimp only at r7
    refine s_ret (R := Tp FR) (x := wRow w) ?_ s6.v fun v G7 H7 s7 r => q v G7 H7 (s6.trans s7) r
    refine ev_tupleOf (Ev.eq (ev_lcL (R := IR) (S := FR) (f := fun x => lowf x (wB w)) (ei_list (R := IR) (xs := (List.range (2 ^ w.n)).map (wF w)) (ev_var rfl r7)) (by rw [List.length_map, List.length_range]; omega) fun i x v G7 H7 hx s7 rx => ?_) (by rw [List.map_map]; rfl))
    obtain rfl := rx
    have hb := hw.sv.pos
    have hbb := hw.sv.bB
    exact ev_call (x, wB w) (by tm_at "ea") (fun vs G' _ h => ⟨⟨by show wB w ≠ 0; unfold wB; omega, pw_mono (show pw 600 (wB w) from hbb)⟩, by exact h⟩) (fun _ _ h => h)

end Cy
namespace Cy
open PySem PySem.Spec PyProof.Rows L2 He
local macro_rules | `(tactic| tm_at "ex") => `(tactic| first
  | exact Ex.refl _ | assumption | exact Stp.g (by assumption) | exact Stp.v (by assumption)
  | (refine Ex.trans (Stp.g (by assumption)) ?_; tm_at "ex")
  | (refine Ex.trans (by assumption) ?_; tm_at "ex"))
local macro_rules | `(tactic| tm_at "rl") => `(tactic| first
  | exact rfl | assumption | (apply Mono.up; rotate_left; assumption; tm_at "ex"))
local macro_rules | `(tactic| tm_at "sc") => `(tactic| first | assumption | omega)
local macro_rules | `(tactic| tm_at "ev") => `(tactic| first
  | exact ev_int | exact ev_bl | assumption
  | (apply ev_varI; exact rfl)
  | (apply ev_var; exact rfl; tm_at "rl")
  | (apply ev_I0; tm_at "ev"; tm_at "ev")
  | (apply ev_B0; tm_at "ev"; tm_at "ev")
  | (apply ev_I; tm_at "ev"; tm_at "ev"; tm_at "sc")
  | (apply ev_un; tm_at "ev")
  | (apply ev_eqI; tm_at "ev"; tm_at "ev")
  | (apply ev_neI; tm_at "ev"; tm_at "ev")
  | (apply ev_fstI; tm_at "ev")
  | (apply ev_sndI; tm_at "ev")
  | (apply ev_max2; tm_at "ev"; tm_at "ev")
  | (apply ev_min2; tm_at "ev"; tm_at "ev")
  | (apply ev_abs; tm_at "ev")
  | (apply ev_int1; tm_at "ev")
  | (apply ev_bits; tm_at "ev")
  | (apply ev_gcd; tm_at "ev"; tm_at "ev")
  | (apply ev_len; tm_at "ev")
  | (apply ev_tup2; tm_at "ev"; tm_at "ev"))
local macro_rules | `(tactic| tm_at "ea") => `(tactic| first
  | exact ea_nil
  | (apply ea_consI; tm_at "ev"; tm_at "ea")
  | (apply ea_cons; tm_at "ev"; tm_at "ea"))
local macro_rules | `(tactic| tm_at "et") => `(tactic| first
  | (apply et_test; tm_at "ev")
  | (apply et_B; tm_at "ev")
  | (apply et_not; tm_at "et"))

open Cr
/-! ### an own list of shown items -/
def OL {α : Type} (R : Rel α) (G H : Hp) (a : Addr) (xs : List α) : Prop := G a = none ∧ ∃ us, H a = some (.lst us) ∧ Paired (R G) us xs
section
variable {α : Type} {R : Rel α} {K : PySem.W.Frag} {σ : L2.St} {G H G' H' : Hp} {a p : Addr} {xs : List α} {y : α} {o : HO} {te : TE} {u : TS} {D : Ends} {i : Nat}
theorem OL.step [Mono R] (h : OL R G H a xs) (s : Stp G H G' H') : OL R G' H' a xs := by
  obtain ⟨g, us, e, r⟩ := h
  exact ⟨s.n _ _ e g, us, s.h _ _ e, paired_imp (fun _ _ => Mono.up s.g) r⟩
theorem OL.up [Mono R] (h : OL R G H a xs) (e : Ex G G') (g : G' a = none) : OL R G' H a xs := by
  obtain ⟨_, us, e1, r⟩ := h
  exact ⟨g, us, e1, paired_imp (fun _ _ => Mono.up e) r⟩
theorem OL.mut (h : OL R G H a xs) (ne : a ≠ p) : OL R G (upd H p o) a xs := by
  obtain ⟨g, us, e1, r⟩ := h
  exact ⟨g, us, by rw [upd_ne ne]; exact e1, r⟩
theorem OL.new (g : G a = none) : OL R G (upd H a (.lst [])) a ([] : List α) := ⟨g, [], upd_same, .nil⟩
/-- shown -/
theorem OL.show_ [Mono R] {G0 H0 : Hp} (h : OL R G H a xs) (s : Stp G0 H0 G H) (h0 : H0 a = none) : ∃ us, Stp G0 H0 (upd G a (.lst us)) H ∧ Ls R (upd G a (.lst us)) (.ref a) xs := by
  obtain ⟨g, us, e1, r⟩ := h
  exact ⟨us, s.add h0 g e1, a, us, rfl, upd_same, paired_imp (fun _ _ => Mono.up (Ex.new g)) r⟩
theorem s_appendO [Mono R] (hi : σ[i]? = some (some (.ref a))) (hO : OL R G H a xs) (hz : xs.length < 100000) (h : Ev te σ G H R y) (e : Ex G H) (k : ∀ G' H' o, Stp G H G' H' → G' a = none → OL R G' (upd H' a o) a (xs ++ [y]) → u D σ (upd H' a o)) : tSeq (tDrop (tBM K "list" rAppend (tVar i) (tCons te tNil))) u D σ H := by
  obtain ⟨g, us, e1, r⟩ := hO
  refine s_append hi e1 (by rw [paired_len r]; exact hz) h e fun v G' H' s rv => k G' H' _ s (s.n _ _ e1 g) ⟨s.n _ _ e1 g, _, upd_same, paired_app (paired_imp (fun _ _ => Mono.up s.g) r) (.cons rv .nil)⟩
theorem s_appendO1 [Mono R] (hi : σ[i]? = some (some (.ref a))) (hO : OL R G H a xs) (hz : xs.length < 100000) (h : Ev te σ G H R y) (e : Ex G H) (k : ∀ G' H' o, Stp G H G' H' → G' a = none → OL R G' (upd H' a o) a (xs ++ [y]) → D.nx σ (upd H' a o)) : tDrop (tBM K "list" rAppend (tVar i) (tCons te tNil)) D σ H := by
  obtain ⟨g, us, e1, r⟩ := hO
  refine s_append1 hi e1 (by rw [paired_len r]; exact hz) h e fun v G' H' s rv => k G' H' _ s (s.n _ _ e1 g) ⟨s.n _ _ e1 g, _, upd_same, paired_app (paired_imp (fun _ _ => Mono.up s.g) r) (.cons rv .nil)⟩
end
theorem sum_sm : ∀ l : List Int, l.sum = sm l.length fun k => l.getD k 0
  | [] => rfl
  | a :: r => by
    rw [List.sum_cons, sum_sm r, List.length_cons, Nat.add_comm, sm_split]
    show _ = 0 + a + _
    rw [Int.zero_add]
    congr 1
    exact sm_congr fun k _ => by rw [Nat.add_comm 1 k]; rfl
theorem range_last {n : Nat} (h : 0 < n) : List.range n = List.range (n - 1) ++ [n - 1] := by
  obtain ⟨k, rfl⟩ : ∃ k, n = k + 1 := ⟨n - 1, by omega⟩
  exact List.range_succ
theorem row_sum {n : Nat} {M : Mx} (hS : Sqm n M) {i : Nat} (hi : i < n) {r : List Int} (e : M[i]? = some r) : r.sum = sm n (at2 M i) := by
  obtain ⟨r', e', hl, hr⟩ := hS.row hi
  rw [e] at e'
  cases e'
  rw [sum_sm, hl]
  exact sm_congr fun j hj => getD_of (hr j hj)
theorem rng_sum (n : Nat) (f : Nat → Int) : ((List.range n).map f).sum = sm n f := by
  rw [sum_sm, List.length_map, List.length_range]
  exact sm_congr fun j hj => getD_of (get_rng f hj)
abbrev N_say_numbers : List Str := ["world", "takes", "size", "rows", "rights", "j", "row", "tops", "_", "common", "top", "numbers", "i"]
abbrev P_say_numbers : List Str := ["world"]
theorem sc_say_numbers : FnScope N_say_numbers P_say_numbers (defScope s_say_numbers) := ⟨rfl, rfl, rfl, by decide +kernel, rfl, by decide +kernel, by decide +kernel⟩
abbrev wNum (w : Wd) (i : Nat) : Int := sNum w.n (at2 w.t) i
def wWh (w : Wd) : Int := sm w.n (wNum w)
theorem WOk.say {w : Wd} (h : WOk w) : SayOk w.n (at2 w.t) (wNum w) := sNum_ok h.n2 h.n4 h.lk h.t0 h.td
def sp_say_numbers (K : PySem.W.Frag) : Sp := Pu (fun (x : Wd) vs G => WOk x ∧ AC (WR K) x A0 vs G) (fun x G u => P2 (Ls IR) IR G u ((List.range x.n).map (wNum x), wWh x))
theorem len_say_numbers {K : PySem.W.Frag} {vs : List V} {H : Hp} {Q : VK} {E : XK} (h : sp_say_numbers K vs H Q E) : vs.length = P_say_numbers.length := by
  obtain ⟨G, x, e, ⟨_, a⟩, _⟩ := h
  obtain ⟨_, rfl, _⟩ := ac1 a; rfl
def SyI (G H : Hp) (a b : Addr) (w : Wd) (u tk : V) (j : Nat) (σ : L2.St) (G' H' : Hp) : Prop := Stp G H G' H' ∧ OL (Ls IR) G' H' a ((List.range j).map fun r => (List.range w.n).map fun i => sayM w.n (at2 w.t) r i) ∧ OL (Ls IR) G' H' b ((List.range j).map fun _ => [0]) ∧ ∃ c5 c6, σ = [some u, some tk, some (.int (w.n : Int)), some (.ref a), some (.ref b), c5, c6, none, none, none, none, none, none]
theorem ok_say_numbers {P : Program} {w : World} {K : PySem.W.Frag} {mg : Str → Option Value} {base : Heap} {k : Nat} (T : Tx K mg) (G_solved : Ok P w K mg base k "solved" P_solved (sp_solved K)) : Ok P w K mg base (k + 1) "say_numbers" P_say_numbers (sp_say_numbers K) := by
  obtain ⟨fd_solved, G_solved, B_solved, K_solved⟩ := G_solved
  refine ok_of T.d_say_numbers sc_say_numbers (fun _ _ _ _ _ _ us hl => match us, hl with | [_], _ => rfl) (fun vs H Q E h => ?_) (fun f cdv A outer s H vs Q E hr h => ?_)
  · exact len_say_numbers h
  · refine ⟨_, (pss_cons (ps_set (i := 1) sc_say_numbers.nd rfl (by first | exact Or.inl rfl | exact Or.inr rfl) (pe_slotX (sclsX T.scls) (slotX T.sl_takes) (pv 0)))
      (pss_cons (ps_set (i := 2) sc_say_numbers.nd rfl (by first | exact Or.inl rfl | exact Or.inr rfl) (pe_slotX (sclsX T.scls) (slotX T.sl_size) (pv 0)))
      (pss_cons (ps_set (i := 3) sc_say_numbers.nd rfl (by first | exact Or.inl rfl | exact Or.inr rfl) (pe_lst pa_nil))
      (pss_cons (ps_set (i := 4) sc_say_numbers.nd rfl (by first | exact Or.inl rfl | exact Or.inr rfl) (pe_lst pa_nil))
      (pss_cons (ps_for PassesOwn.never rfl (pi_range1 (by rfl) T.f_range (pa_cons (pe_op op_sub (pv 2) pe_int) pa_nil)) (pg_name (i := 5) sc_say_numbers.nd rfl (by first | exact Or.inl rfl | exact Or.inr rfl)) (pss_cons (ps_setLc (i := 6) (own := [("i", 12)]) (g := (gName 12)) (tt := tYes) (te := (tOp (rIxT K) (tOp (rIxT K) (tVar 1) (tVar 12)) (tVar 5))) (by rfl) sc_say_numbers.nd rfl rfl (sw_true rfl rfl rfl (by kernel_rfl)) (pi_range1 (by rfl) T.f_range (pa_cons (pv 2) pa_nil)) (blkOk_by (by kernel_rfl)) (fun _ _ _ _ _ => (pg_name (i := 12) sc_say_numbers.nd rfl (by first | exact Or.inl rfl | exact Or.inr rfl))) (fun _ _ _ _ _ => pts_nil) (fun _ _ _ _ _ => (pe_ix ix_tup (pe_ix ix_tup (pv 1) (pv 12) (fun _ _ => rfl)) (pv 5) (fun _ _ => rfl))))
      (pss_cons (ps_asg (pe_un un_neg (pe_callB (cr_sumT rfl) (by rfl) T.f_sum (by decide +kernel) (pa_cons (pe_ix ix_tup (pv 1) (pv 5) (fun _ _ => rfl)) pa_nil))) (pg_sub (pv 6) (pv 5) set_list))
      (pss_cons (ps_expr (pe_bm PySem.F.plainAttrs_list PySem.F.slot_list_append PySem.F.type_list_append mt_append (pv 3) (pa_cons (pv 6) pa_nil)))
      (pss_one (ps_expr (pe_bm PySem.F.plainAttrs_list PySem.F.slot_list_append PySem.F.type_list_append mt_append (pv 4) (pa_cons (pe_lst (pa_cons pe_int pa_nil)) pa_nil))))))))
      (pss_cons (ps_expr (pe_bm PySem.F.plainAttrs_list PySem.F.slot_list_append PySem.F.type_list_append mt_append (pv 3) (pa_cons (pe_op op_rep (pe_lst (pa_cons pe_int pa_nil)) (pv 2)) pa_nil)))
      (pss_cons (ps_expr (pe_bm PySem.F.plainAttrs_list PySem.F.slot_list_append PySem.F.type_list_append mt_append (pv 4) (pa_cons (pe_lst (pa_cons pe_int pa_nil)) pa_nil)))
      (pss_cons (ps_asg (pe_call G_solved hr (by rfl) T.g_solved K_solved B_solved .nil pass0 (pa_cons (pv 3) (pa_cons (pv 4) pa_nil))) (pg_tup (by rfl) (pgs_cons (pg_name (i := 7) sc_say_numbers.nd rfl (by first | exact Or.inl rfl | exact Or.inr rfl)) (pgs_cons (pg_name (i := 8) sc_say_numbers.nd rfl (by first | exact Or.inl rfl | exact Or.inr rfl)) pgs_nil))))
      (pss_cons (ps_set (i := 9) sc_say_numbers.nd rfl (by first | exact Or.inl rfl | exact Or.inr rfl) pe_int)
      (pss_cons (ps_for PassesOwn.never rfl (pi_list (pv 7)) (pg_name (i := 10) sc_say_numbers.nd rfl (by first | exact Or.inl rfl | exact Or.inr rfl)) (pss_one (ps_set (i := 9) sc_say_numbers.nd rfl (by first | exact Or.inl rfl | exact Or.inr rfl) (pe_callBfun cr_gcd (by rfl) T.gcd (pa_cons (pv 9) (pa_cons (pe_ix ix_list (pv 10) pe_int (fun _ _ => rfl)) pa_nil))))))
      (pss_cons (ps_setLc (i := 11) (own := [("top", 10)]) (g := (gName 10)) (tt := tYes) (te := (tOp qDiv (tOp (rIxL K) (tVar 10) (tC (.int 0))) (tVar 9))) (by rfl) sc_say_numbers.nd rfl rfl (sw_true rfl rfl rfl (by kernel_rfl)) (pi_list (pv 7)) (blkOk_by (by kernel_rfl)) (fun _ _ _ _ _ => (pg_name (i := 10) sc_say_numbers.nd rfl (by first | exact Or.inl rfl | exact Or.inr rfl))) (fun _ _ _ _ _ => pts_nil) (fun _ _ _ _ _ => (pe_op op_fdivY (pe_ix ix_list (pv 10) pe_int (fun _ _ => rfl)) (pv 9))))
      (pss_one (ps_ret (pe_tup (pa_cons (pv 11) (pa_cons (pe_callB (cr_sum rfl) (by rfl) T.f_sum (by decide +kernel) (pa_cons (pv 11) pa_nil)) pa_nil)))))))))))))))), ?_⟩
    obtain ⟨G, w, e, ⟨hw, hv⟩, q⟩ := h
    obtain ⟨u, rfl, hu⟩ := ac1 hv
    have n4 := hw.n4
    have n2 := hw.n2
    refine s_set (R := MxT) (x := w.t) (ev_takes (w := w) (ev_var rfl hu)) e fun tk G1 H1 s1 r1 => ?_
    refine s_set (R := IR) (x := (w.n : Int)) (ev_size (w := w) (ev_var rfl (Mono.up s1.g hu))) s1.v fun x G2 H2 s2 r2 => ?_
    obtain rfl := r2
    have S2 := s1.trans s2
    refine s_new s2.v fun a ha ga => ?_
    have ha0 : H a = none := S2.h.none ha
    have S3 := S2.own (o := .lst []) ha
    refine s_new S3.v fun b hb gb => ?_
    have hb0 : H b = none := S3.h.none hb
    have nab : a ≠ b := fun z => by rw [z, upd_same] at hb; cases hb
    have S4 := S3.own (o := .lst []) hb
    have O1 : OL (Ls IR) G2 (upd (upd H2 a (.lst [])) b (.lst [])) a [] := (OL.new ga).mut nab
    have O2 : OL (Ls IR) G2 (upd (upd H2 a (.lst [])) b (.lst [])) b [] := OL.new gb
    refine s_for (I := SyI G H a b w u tk) (ei_range1 (m := (w.n : Int) - 1) (ea_consI (ev_I0 (ev_varI rfl) ev_int) ea_nil) (by omega) (by omega)) S4.v ?_ ?_ ?_
    · exact fun G5 H5 s5 => ⟨S4.trans s5, O1.step s5, O2.step s5, _, _, rfl⟩
    · rintro j x σ Gp Hq G' H' G1' hj e1 e2 ⟨S5, A5, B5, c5, c6, rfl⟩ s6 rfl
      have S6 := S5.trans s6
      have A6 := A5.step s6
      have B6 := B5.step s6
      have hj1 : j + 1 < w.n := by omega
      have hj : j < w.n := by omega
      have t6 := Mono.up (s2.g.trans (e1.trans (e2.trans s6.g))) r1
      refine s_setN (S := IR) (ys := (List.range w.n).map fun i => at2 w.t i j) ?_ s6.v fun p us G7 H7 I7 hp => ?_
      · refine en_lc0 (n := w.n) (W := fun i _ v => v = .int (i : Int)) (ei_range1 (m := (w.n : Int)) (by tm_at "ea") (by omega) (by omega)) (by omega) fun i v G7 H7 hi s7 ev => ?_
        obtain rfl := ev
        obtain ⟨r, er, hl, hr⟩ := hw.st.row hi
        exact ev_ixT (R := IR) (n := j) (xs := r) (ev_ixT (R := Tp IR) (n := i) (xs := w.t) (ev_var rfl (Mono.up s7.g t6)) (ev_varI rfl) rfl er) (ev_varI rfl) rfl (hr j hj)
      · have S7 := S6.trans I7.s
        have hp0 : H p = none := S6.h.none hp
        have npa : a ≠ p := fun z => by obtain ⟨_, us, h1, _⟩ := A6; rw [z, hp] at h1; cases h1
        have npb : b ≠ p := fun z => by obtain ⟨_, us, h1, _⟩ := B6; rw [z, hp] at h1; cases h1
        have A7 := A6.step I7.s
        have B7 := B6.step I7.s
        obtain ⟨r, er, hl, hr⟩ := hw.st.row hj
        have dp := I7.d
        rw [paired_ints I7.p] at dp
        refine s_store (R := IR) (y := -(sm w.n (at2 w.t j))) (j := j) rfl dp (by rw [List.length_map, List.length_map, List.length_range]; exact hj) ?_ (ev_varI rfl) I7.s.v fun v G8 H8 s8 r8 => ?_
        · refine ev_un (f := fun i => -i) (Ev.eq (ev_sumT (ns := r) (ev_ixT (R := Tp IR) (n := j) (xs := w.t) (ev_var rfl (Mono.up I7.s.g t6)) (ev_varI rfl) rfl er)) (row_sum hw.st hj er))
        · obtain rfl := r8
          have S8 := S7.trans s8
          have g8 := s8.n _ _ I7.d I7.g
          have A8 := A7.step s8
          have B8 := B7.step s8
          rw [← List.map_set, set_rng, show (List.range w.n).map (fun i => if i = j then -(sm w.n (at2 w.t j)) else at2 w.t i j) = (List.range w.n).map (fun i => sayM w.n (at2 w.t) j i) from List.map_congr_left fun i hi => by
            unfold sayM
            rw [if_neg (show ¬ (j + 1 = w.n) by omega)]]
          have S9 := (S8.mut (o := .lst (((List.range w.n).map (fun i => sayM w.n (at2 w.t) j i)).map V.int)) hp0 g8).add hp0 g8 upd_same
          have ex9 := Ex.new (o := .lst (((List.range w.n).map (fun i => sayM w.n (at2 w.t) j i)).map V.int)) g8
          have A9 : OL (Ls IR) _ _ a _ := (A8.mut (o := .lst (((List.range w.n).map (fun i => sayM w.n (at2 w.t) j i)).map V.int)) npa).up ex9 (by rw [upd_ne npa]; exact A8.1)
          have B9 : OL (Ls IR) _ _ b _ := (B8.mut (o := .lst (((List.range w.n).map (fun i => sayM w.n (at2 w.t) j i)).map V.int)) npb).up ex9 (by rw [upd_ne npb]; exact B8.1)
          have rp : Ls IR (upd G8 p (.lst (((List.range w.n).map (fun i => sayM w.n (at2 w.t) j i)).map V.int))) (.ref p) ((List.range w.n).map (fun i => sayM w.n (at2 w.t) j i)) := ⟨p, _, rfl, upd_same, ints_paired _ _⟩
          refine s_appendO (R := Ls IR) (i := 3) rfl A9 (by rw [List.length_map, List.length_range]; omega) (ev_var rfl rp) S9.v fun G10 H10 o10 s10 g10 A10 => ?_
          have S10 := (S9.trans s10).mut (o := o10) ha0 g10
          have B10 := (B9.step s10).mut (o := o10) nab.symm
          refine s_appendO1 (R := Ls IR) (y := [0]) (i := 4) rfl B10 (by rw [List.length_map, List.length_range]; omega) (ev_lst (xs := [0]) (.cons ev_int .nil) (by show 1 ≤ 100000; decide)) S10.v fun G11 H11 o11 s11 g11 B11 => ?_
          have S11 := (S10.trans s11).mut (o := o11) hb0 g11
          refine ⟨G11, e2.trans (s6.g.trans (I7.s.g.trans (s8.g.trans (ex9.trans (s10.g.trans s11.g))))), S11.v, S11, ?_, ?_, _, _, rfl⟩
          · rw [List.range_succ, List.map_append]
            exact (A10.step s11).mut nab
          · rw [List.range_succ, List.map_append]
            exact B11
    · rintro σ Gp Hq e1 e2 ⟨S5, A5, B5, c5, c6, rfl⟩
      rw [show ((w.n : Int) - 1).toNat = w.n - 1 by omega] at A5 B5
      refine s_appendO (R := Ls IR) (i := 3) rfl A5 (by rw [List.length_map, List.length_range]; omega) (y := List.replicate (w.n : Int).toNat 1) (ev_rep ev_int (ev_varI rfl) (by omega) (by omega)) S5.v fun G6 H6 o6 s6 g6 A6 => ?_
      have S6 := (S5.trans s6).mut (o := o6) ha0 g6
      have B6 := (B5.step s6).mut (o := o6) nab.symm
      refine s_appendO (R := Ls IR) (y := [1]) (i := 4) rfl B6 (by rw [List.length_map, List.length_range]; omega) (ev_lst (xs := [1]) (.cons ev_int .nil) (by show 1 ≤ 100000; decide)) S6.v fun G7 H7 o7 s7 g7 B7 => ?_
      have S7 := (S6.trans s7).mut (o := o7) hb0 g7
      have A7 := (A6.step s7).mut (o := o7) nab
      obtain ⟨us8, S8, ra⟩ := A7.show_ S7 ha0
      have B8 := B7.up (Ex.new (o := .lst us8) A7.1) (by rw [upd_ne nab.symm]; exact B7.1)
      obtain ⟨us9, S9, rb⟩ := B8.show_ S8 hb0
      have ra := Mono.up (Ex.new (o := .lst us9) B8.1) ra
      have en : w.n = (w.n - 1) + 1 := by omega
      have eA : ((List.range (w.n - 1)).map fun r => (List.range w.n).map fun i => sayM w.n (at2 w.t) r i) ++ [List.replicate (w.n : Int).toNat 1] = sMt w.n (at2 w.t) := by
        unfold sMt
        have := range_last (show 0 < w.n by omega)
        conv => rhs; rw [show ((List.range w.n).map fun j => (List.range w.n).map fun i => sayM w.n (at2 w.t) j i) = (List.range (w.n - 1) ++ [w.n - 1]).map (fun j => (List.range w.n).map fun i => sayM w.n (at2 w.t) j i) by rw [← this]]
        rw [List.map_append]
        congr 1
        show [_] = [_]
        congr 1
        rw [Int.toNat_natCast]
        dsimp only
        rw [show (fun i => sayM w.n (at2 w.t) (w.n - 1) i) = fun _ => (1 : Int) from funext fun i => by unfold sayM; rw [if_pos (by omega)], List.map_const', List.length_range]
      have eB : ((List.range (w.n - 1)).map fun _ => [(0 : Int)]) ++ [[1]] = (sbs w.n).map fun y => [y] := by
        unfold sbs
        have := range_last (show 0 < w.n by omega)
        rw [this, List.map_append, List.map_append, List.map_map]
        congr 1
        · refine List.map_congr_left fun i hi => ?_
          have := List.mem_range.mp hi
          show [_] = [_]
          dsimp only
          rw [if_neg (by omega)]
        · show [[1]] = [[_]]
          dsimp only
          rw [if_pos (by omega)]
      rw [eA] at ra
      rw [eB] at rb
      have sv := say_sv n2 n4 hw.lk hw.t0 hw.td
      obtain ⟨bal, tot, pos, px⟩ := sX_eqs n2 n4 hw.lk hw.t0 hw.td
      refine s_asg (R := P2 (Ls (Ls IR)) IR) (x := ((List.range w.n).map fun i => [sX w.n (at2 w.t) i], sB w.n (at2 w.t))) ?_ S9.v fun v G10 H10 s10 r10 => ?_
      · exact ev_call ((sMt w.n (at2 w.t), sbs w.n), w.n) (ea_cons (R := Ls (Ls IR)) (x := sMt w.n (at2 w.t)) (ev_var rfl ra) (ea_cons (R := Ls (Ls IR)) (x := (sbs w.n).map fun y => [y]) (ev_var rfl rb) ea_nil)) (fun vs G' _ h => ⟨sv, h⟩) (fun _ _ h => h)
      refine g_pair s10.v r10 fun tp bt r11 r12 => ?_
      dsimp only at r11
      have S10 := S9.trans s10
      refine s_set (R := IR) (x := 0) ev_int s10.v fun v G11 H11 s11 r13 => ?_
      obtain rfl := r13
      have S11 := S10.trans s11
      have tg : ∀ i, i < w.n → ((List.range w.n).map fun i => [sX w.n (at2 w.t) i])[i]? = some [sX w.n (at2 w.t) i] := fun i hi => by rw [List.getElem?_map, List.getElem?_range hi]; rfl
      refine s_for (I := fun k σ G' H' => Stp G H G' H' ∧ ∃ c10, σ = [some u, some tk, some (.int (w.n : Int)), some (.ref a), some (.ref b), c5, c6, some tp, some bt, some (.int (gcdL (sX w.n (at2 w.t)) k : Nat)), c10, none, none]) (ei_list (R := Ls IR) (xs := (List.range w.n).map fun i => [sX w.n (at2 w.t) i]) (ev_var rfl (Mono.up s11.g r11))) S11.v ?_ ?_ ?_
      · exact fun G12 H12 s12 => ⟨S11.trans s12, _, rfl⟩
      · rintro k v σ Gp' Hq' Gb Hb Gc hk f1 f2 ⟨S12, c10, rfl⟩ s13 ⟨y, hy, ry⟩
        rw [List.length_map, List.length_range] at hk
        rw [tg k hk] at hy
        cases hy
        have S13 := S12.trans s13
        refine s_set1 (R := IR) (x := ((Nat.gcd ((gcdL (sX w.n (at2 w.t)) k : Nat) : Int).natAbs (sX w.n (at2 w.t) k).natAbs : Nat) : Int)) (ev_gcd (ev_varI rfl) (ev_ixL (R := IR) (n := 0) (xs := [sX w.n (at2 w.t) k]) (ev_var rfl ry) ev_int rfl rfl)) s13.v fun v G14 H14 s14 r14 => ?_
        obtain rfl := r14
        rw [Int.natAbs_natCast]
        exact ⟨G14, f2.trans (s13.g.trans s14.g), s14.v, S13.trans s14, _, rfl⟩
      · rintro σ Gp' Hq' f1 f2 ⟨S12, c10, rfl⟩
        rw [List.length_map]; rw [List.length_range]
        have gp := gcdL_pos (by omega : 0 < w.n) px
        have gl := gcdL_le (by omega : 0 < w.n) px (sX_le n2 n4 hw.t0 (by omega : 0 < w.n))
        refine s_set (R := Ls IR) (x := (List.range w.n).map (wNum w)) ?_ S12.v fun nm G13 H13 s13 r13 => ?_
        · refine Ev.eq (ev_lcL (R := Ls IR) (S := IR) (f := fun x => (x.getD 0 0).fdiv (gcdL (sX w.n (at2 w.t)) w.n : Nat)) (ei_list (R := Ls IR) (xs := (List.range w.n).map fun i => [sX w.n (at2 w.t) i]) (ev_var rfl (Mono.up (s11.g.trans f1) r11))) (by rw [List.length_map, List.length_range]; omega) fun i x v G13 H13 hx s13 rx => ?_) (by rw [List.map_map]; rfl)
          obtain ⟨k, _, rfl⟩ := List.mem_map.mp (List.mem_of_getElem? hx)
          refine ev_I (ev_ixL (R := IR) (n := 0) (xs := [sX w.n (at2 w.t) k]) (ev_var rfl rx) ev_int rfl rfl) (ev_varI rfl) (fdivy (b := 200) (by omega) ?_)
          show Int.natAbs _ < 2 ^ 200
          rw [Int.natAbs_natCast]
          exact Nat.lt_of_le_of_lt gl (by decide +kernel)
        · have S13 := S12.trans s13
          refine s_ret (R := P2 (Ls IR) IR) (x := ((List.range w.n).map (wNum w), wWh w)) (ev_tup2 (R := Ls IR) (S := IR) (ev_var rfl r13) (Ev.eq (ev_sumL (ns := (List.range w.n).map (wNum w)) (ev_var rfl r13)) (rng_sum _ _))) s13.v fun v G14 H14 s14 r14 => q v G14 H14 (S13.trans s14) r14

end Cy
namespace Cy
open PySem PySem.Spec PyProof.Rows L2 He
local macro_rules | `(tactic| tm_at "ex") => `(tactic| first
  | exact Ex.refl _ | assumption | exact Stp.g (by assumption) | exact Stp.v (by assumption)
  | (refine Ex.trans (Stp.g (by assumption)) ?_; tm_at "ex")
  | (refine Ex.trans (by assumption) ?_; tm_at "ex"))
local macro_rules | `(tactic| tm_at "rl") => `(tactic| first
  | exact rfl | assumption | (apply Mono.up; rotate_left; assumption; tm_at "ex"))
local macro_rules | `(tactic| tm_at "sc") => `(tactic| first | assumption | omega)
local macro_rules | `(tactic| tm_at "ev") => `(tactic| first
  | exact ev_int | exact ev_bl | assumption
  | (apply ev_varI; exact rfl)
  | (apply ev_var; exact rfl; tm_at "rl")
  | (apply ev_I0; tm_at "ev"; tm_at "ev")
  | (apply ev_B0; tm_at "ev"; tm_at "ev")
  | (apply ev_I; tm_at "ev"; tm_at "ev"; tm_at "sc")
  | (apply ev_un; tm_at "ev")
  | (apply ev_eqI; tm_at "ev"; tm_at "ev")
  | (apply ev_neI; tm_at "ev"; tm_at "ev")
  | (apply ev_fstI; tm_at "ev")
  | (apply ev_sndI; tm_at "ev")
  | (apply ev_max2; tm_at "ev"; tm_at "ev")
  | (apply ev_min2; tm_at "ev"; tm_at "ev")
  | (apply ev_abs; tm_at "ev")
  | (apply ev_int1; tm_at "ev")
  | (apply ev_bits; tm_at "ev")
  | (apply ev_gcd; tm_at "ev"; tm_at "ev")
  | (apply ev_len; tm_at "ev")
  | (apply ev_tup2; tm_at "ev"; tm_at "ev"))
local macro_rules | `(tactic| tm_at "ea") => `(tactic| first
  | exact ea_nil
  | (apply ea_consI; tm_at "ev"; tm_at "ea")
  | (apply ea_cons; tm_at "ev"; tm_at "ea"))
local macro_rules | `(tactic| tm_at "et") => `(tactic| first
  | (apply et_test; tm_at "ev")
  | (apply et_B; tm_at "ev")
  | (apply et_not; tm_at "et"))

open Cr
abbrev N__rise_need : List Str := ["world"]
abbrev P__rise_need : List Str := ["world"]
theorem sc__rise_need : FnScope N__rise_need P__rise_need (defScope s__rise_need) := ⟨rfl, rfl, rfl, by decide +kernel, rfl, by decide +kernel, by decide +kernel⟩
def sp__rise_need (K : PySem.W.Frag) : Sp := Pu (fun (x : Wd) vs G => WOk x ∧ AC (WR K) x A0 vs G) (fun x G u => u = .non)
theorem len__rise_need {K : PySem.W.Frag} {vs : List V} {H : Hp} {Q : VK} {E : XK} (h : sp__rise_need K vs H Q E) : vs.length = P__rise_need.length := by
  obtain ⟨G, x, e, ⟨_, a⟩, _⟩ := h
  obtain ⟨_, rfl, _⟩ := ac1 a; rfl
theorem ok__rise_need {P : Program} {w : World} {K : PySem.W.Frag} {mg : Str → Option Value} {base : Heap} {k : Nat} (T : Tx K mg) (G_need_small : Ok P w K mg base k "need_small" P_need_small (sp_need_small K)) (G_need_linked : Ok P w K mg base k "need_linked" P_need_linked (sp_need_linked K)) : Ok P w K mg base (k + 1) "_rise_need" P__rise_need (sp__rise_need K) := by
  obtain ⟨fd_need_small, G_need_small, B_need_small, K_need_small⟩ := G_need_small
  obtain ⟨fd_need_linked, G_need_linked, B_need_linked, K_need_linked⟩ := G_need_linked
  refine ok_of T.d__rise_need sc__rise_need (fun _ _ _ _ _ _ us hl => match us, hl with | [_], _ => rfl) (fun vs H Q E h => ?_) (fun f cdv A outer s H vs Q E hr h => ?_)
  · exact len__rise_need h
  · refine ⟨_, (pss_cons (ps_expr (pe_call G_need_small hr (by rfl) T.g_need_small K_need_small B_need_small .nil pass0 (pa_cons (pv 0) (pa_cons pe_int pa_nil))))
      (pss_one (ps_expr (pe_call G_need_linked hr (by rfl) T.g_need_linked K_need_linked B_need_linked .nil pass0 (pa_cons (pv 0) pa_nil))))), ?_⟩
    obtain ⟨G, w, e, ⟨hw, hv⟩, q⟩ := h
    obtain ⟨u, rfl, hu⟩ := ac1 hv
    have n4 := hw.n4
    refine Ev.run (te := tCall (sp_need_small K) [] E0 (tCons (tVar 0) (tCons (tC (.int 5)) tNil))) (R := VR) (x := .non) (ev_call (w, 5) (ea_cons (R := WR K) (ev_var rfl hu) (ea_cons (R := IR) (x := 5) ev_int ea_nil)) (fun vs G' _ h => ⟨by show (w.n : Int) ≤ 5; omega, h⟩) (fun _ _ h => h)) e fun _ G1 H1 s1 _ => ?_
    refine Ev.run (te := tCall (sp_need_linked K) [] E0 (tCons (tVar 0) tNil)) (R := VR) (x := .non) (ev_call w (ea_cons (R := WR K) (ev_var rfl (Mono.up s1.g hu)) ea_nil) (fun vs G' _ h => ⟨hw, h⟩) (fun _ _ h => h)) s1.v fun _ G2 H2 s2 _ => ?_
    exact q _ G2 H2 (s1.trans s2) rfl
/-! the sides -/
theorem fm_getD {α β : Type} (l : List α) (d : α) (g : α → Option β) : (List.range l.length).filterMap (fun i => g (l.getD i d)) = l.filterMap g := by
  have e : (List.range l.length).filterMap (fun i => g (l.getD i d)) = ((List.range l.length).map (fun i => l.getD i d)).filterMap g := by rw [List.filterMap_map]; rfl
  have h2 : (List.range l.length).map (fun i => l.getD i d) = l := by
    have := map_getD l d id
    rw [List.map_id] at this
    exact this
  rw [e, h2]
def rsd (w : Wd) (S : Nat) : Int := sid w.n (at2 w.c) (wNum w) S
def tieG (w : Wd) (S : Nat) (p : Int × Int) : Option Int := if S.testBit p.2.toNat = true ∧ S.testBit p.1.toNat = false then some (at2 w.c p.1.toNat p.2.toNat * wNum w p.1.toNat) else none
theorem fmsum (n : Nat) (f : Nat → Option Int) : ((List.range n).filterMap f).sum = sm n fun i => (f i).getD 0 := by
  induction n with
  | zero => rfl
  | succ n ih =>
    rw [List.range_succ, List.filterMap_append, List.sum_append, ih]
    show _ = _ + (f n).getD 0
    cases h : f n <;> simp [h]
theorem tie_sum {w : Wd} (h : WOk w) (S : Nat) : ((tiesOf w.n w.c).filterMap (tieG w S)).sum = rsd w S := by
  unfold tiesOf
  have step : ∀ m, (((List.range m).flatMap fun i => (List.range w.n).filterMap fun j => if 0 < at2 w.c i j then some ((i : Int), (j : Int)) else none).filterMap (tieG w S)).sum = sm m fun i => sm w.n fun j => if 0 < at2 w.c i j then (tieG w S ((i : Int), (j : Int))).getD 0 else 0 := fun m => by
    induction m with
    | zero => rfl
    | succ m ih =>
      rw [List.range_succ, List.flatMap_append, List.filterMap_append, List.sum_append, ih]
      show _ = _ + _
      congr 1
      rw [List.flatMap_singleton, List.filterMap_filterMap, fmsum]
      refine sm_congr fun j _ => ?_
      by_cases z : 0 < at2 w.c m j
      · rw [if_pos z, if_pos z]; rfl
      · rw [if_neg z, if_neg z]; rfl
  rw [step]
  refine sm_congr fun i hi => sm_congr fun j hj => ?_
  have c0 := (h.c0 i j hi hj).1
  unfold tieG
  rw [Int.toNat_natCast, Int.toNat_natCast]
  by_cases z : S.testBit j = true ∧ S.testBit i = false
  · rw [if_pos z, if_pos z]
    by_cases y : 0 < at2 w.c i j
    · rw [if_pos y]; rfl
    · rw [if_neg y, show at2 w.c i j = 0 by omega]; omega
  · rw [if_neg z, if_neg z]; split <;> rfl
def rbs (w : Wd) : List Int := (List.range (2 ^ w.n - 2)).map fun r => rsd w (r + 1)
def rX (w : Wd) (i : Nat) : Int := svX (wMt w) (rbs w) (2 ^ w.n - 2) i
def rB0 (w : Wd) : Int := svB (wMt w) (rbs w) (2 ^ w.n - 2)
def rF (w : Wd) (S : Nat) : Int := lotF w.n (rX w) 0 S
def rB (w : Wd) : Int := rB0 w * wWh w
theorem rbs_get {w : Wd} {r : Nat} (hr : r < 2 ^ w.n - 2) : (rbs w).getD r 0 = rsd w (r + 1) := getD_of (get_rng _ hr)
theorem WOk.rsv {w : Wd} (h : WOk w) : SvOk (wMt w) (rbs w) (2 ^ w.n - 2) := h.svM (by unfold rbs; rw [List.length_map, List.length_range]) fun r hr => by
  rw [rbs_get hr]
  exact Nat.le_trans (sid_le h.n4 h.c0 h.say.le _) (by decide +kernel)
theorem WOk.rise_eq {w : Wd} (h : WOk w) {S : Nat} (h0 : 0 < S) (h1 : S < 2 ^ w.n - 1) : Lop w.n (at2 w.t) (at2 w.c) (rF w) S = rB0 w * rsd w S := by
  have e := h.rsv.eqs (r := S - 1) (by omega)
  rw [rbs_get (by omega), show S - 1 + 1 = S by omega] at e
  show Lop _ _ _ (lotF _ _ _) S = _
  rw [lop_in h.n2 h0 h1]
  show sm _ (fun c => at2 (wMt w) (S - 1) c * svX (wMt w) (rbs w) (2 ^ w.n - 2) c) + _ = _
  rw [e]
  show _ = svB _ _ _ * _
  grind
theorem rinner_get {w : Wd} (h : WOk w) {S : Nat} (hS : S < 2 ^ w.n) : (([0] ++ (List.range (2 ^ w.n - 2)).map (rX w)) ++ [0])[S]? = some (rF w S) := by
  obtain ⟨p1, p2⟩ := h.p
  show _ = some (lotF _ _ _ _)
  unfold lotF
  by_cases h0 : S = 0
  · subst h0; rw [if_pos rfl]; rfl
  · rw [if_neg h0]
    by_cases h1 : S = 2 ^ w.n - 1
    · have hl : ([0] ++ (List.range (2 ^ w.n - 2)).map (rX w)).length = 2 ^ w.n - 1 := by simp; omega
      rw [if_pos h1, List.getElem?_append_right (by omega), hl, h1, Nat.sub_self]; rfl
    · rw [if_neg h1, List.getElem?_append_left (by simp; omega), List.getElem?_append_right (by simp; omega)]
      exact get_rng _ (by show S - 1 < _; omega)
theorem WOk.wh {w : Wd} (h : WOk w) : 0 < wWh w ∧ pw 130 (wWh w) := by
  have p := h.say.pos
  have n2 := h.n2
  refine ⟨sm_pos (fun i hi => Int.le_of_lt (p i hi)) (by omega : 0 < w.n) (p 0 (by omega)), ?_⟩
  show Int.natAbs _ < _
  refine Nat.lt_of_le_of_lt (sm_abs (c := 2 ^ 120) w.n _ h.say.le) ?_
  exact Nat.lt_of_le_of_lt (Nat.mul_le_mul_right _ h.n4) (by decide +kernel)
theorem WOk.rb {w : Wd} (h : WOk w) : 0 < rB w ∧ pw 800 (rB w) := by
  have a := h.rsv.pos
  have b := h.rsv.bB
  obtain ⟨c, d⟩ := h.wh
  exact ⟨Int.mul_pos a c, pw_mono (pw_mul (show pw 600 (rB0 w) from b) d)⟩
theorem rows_len {w : Wd} : (wRows w).length = 2 ^ w.n - 2 := by unfold wRows; rw [List.length_map, List.length_range]
theorem rows_row {w : Wd} {r : List Int} (hr : r ∈ wRows w) : r.length = 2 ^ w.n := by
  obtain ⟨k, _, rfl⟩ := List.mem_map.mp hr
  rw [List.length_map]; rw [List.length_range]
abbrev N__rise_tops : List Str := ["world", "numbers", "whole", "rows", "ties", "sides", "state", "turned", "answers", "bottom", "i", "j", "row", "answer"]
abbrev P__rise_tops : List Str := ["world"]
theorem sc__rise_tops : FnScope N__rise_tops P__rise_tops (defScope s__rise_tops) := ⟨rfl, rfl, rfl, by decide +kernel, rfl, by decide +kernel, by decide +kernel⟩
def sp__rise_tops (K : PySem.W.Frag) : Sp := Pu (fun (x : Wd) vs G => WOk x ∧ AC (WR K) x A0 vs G) (fun x G u => P2 (Ls IR) IR G u (([0] ++ (List.range (2 ^ x.n - 2)).map (rX x)) ++ [0], rB x))
theorem len__rise_tops {K : PySem.W.Frag} {vs : List V} {H : Hp} {Q : VK} {E : XK} (h : sp__rise_tops K vs H Q E) : vs.length = P__rise_tops.length := by
  obtain ⟨G, x, e, ⟨_, a⟩, _⟩ := h
  obtain ⟨_, rfl, _⟩ := ac1 a; rfl
theorem ties_mem {w : Wd} {p : Int × Int} (hp : p ∈ tiesOf w.n w.c) : ∃ i j : Nat, i < w.n ∧ j < w.n ∧ p = ((i : Int), (j : Int)) := by
  obtain ⟨i, hi, h2⟩ := List.mem_flatMap.mp hp
  obtain ⟨j, hj, e⟩ := List.mem_filterMap.mp h2
  split at e
  · cases e; exact ⟨i, j, List.mem_range.mp hi, List.mem_range.mp hj, rfl⟩
  · cases e
theorem ties_len {w : Wd} (h : WOk w) : (tiesOf w.n w.c).length ≤ 16 := by
  have step : ∀ m, ((List.range m).flatMap fun i => (List.range w.n).filterMap fun j => if 0 < at2 w.c i j then some ((i : Int), (j : Int)) else none).length ≤ m * 4 := fun m => by
    induction m with
    | zero => simp
    | succ m ih =>
      rw [List.range_succ, List.flatMap_append, List.length_append, List.flatMap_singleton]
      have : ((List.range w.n).filterMap fun j => if 0 < at2 w.c m j then some ((m : Int), (j : Int)) else none).length ≤ 4 := Nat.le_trans (List.length_filterMap_le _ _) (by rw [List.length_range]; exact h.n4)
      omega
  have := step w.n
  have := h.n4
  unfold tiesOf
  omega
theorem ok__rise_tops {P : Program} {w : World} {K : PySem.W.Frag} {mg : Str → Option Value} {base : Heap} {k : Nat} (T : Tx K mg) (G_say_numbers : Ok P w K mg base k "say_numbers" P_say_numbers (sp_say_numbers K)) (G_win_equations : Ok P w K mg base k "win_equations" P_win_equations (sp_win_equations K)) (G_solved : Ok P w K mg base k "solved" P_solved (sp_solved K)) (G_calling : OkCalling P w K mg base k) : Ok P w K mg base (k + 1) "_rise_tops" P__rise_tops (sp__rise_tops K) := by
  obtain ⟨fd_say_numbers, G_say_numbers, B_say_numbers, K_say_numbers⟩ := G_say_numbers
  obtain ⟨fd_win_equations, G_win_equations, B_win_equations, K_win_equations⟩ := G_win_equations
  obtain ⟨fd_solved, G_solved, B_solved, K_solved⟩ := G_solved
  obtain ⟨fd_calling, G_calling, B_calling⟩ := G_calling
  refine ok_of T.d__rise_tops sc__rise_tops (fun _ _ _ _ _ _ us hl => match us, hl with | [_], _ => rfl) (fun vs H Q E h => ?_) (fun f cdv A outer s H vs Q E hr h => ?_)
  · exact len__rise_tops h
  · refine ⟨_, (pss_cons (ps_asg (pe_call G_say_numbers hr (by rfl) T.g_say_numbers K_say_numbers B_say_numbers .nil pass0 (pa_cons (pv 0) pa_nil)) (pg_tup (by rfl) (pgs_cons (pg_name (i := 1) sc__rise_tops.nd rfl (by first | exact Or.inl rfl | exact Or.inr rfl)) (pgs_cons (pg_name (i := 2) sc__rise_tops.nd rfl (by first | exact Or.inl rfl | exact Or.inr rfl)) pgs_nil))))
      (pss_cons (ps_set (i := 3) sc__rise_tops.nd rfl (by first | exact Or.inl rfl | exact Or.inr rfl) (pe_call G_win_equations hr (by rfl) T.g_win_equations K_win_equations B_win_equations .nil pass0 (pa_cons (pe_slotX (sclsX T.scls) (slotX T.sl_takes) (pv 0)) (pa_cons (pe_slotX (sclsX T.scls) (slotX T.sl_calls) (pv 0)) pa_nil))))
      (pss_cons (ps_set (i := 4) sc__rise_tops.nd rfl (by first | exact Or.inl rfl | exact Or.inr rfl) (pe_methX0 (pv 0) (sclsX T.scls) T.calling G_calling B_calling hr pass0))
      (pss_cons (ps_set (i := 5) sc__rise_tops.nd rfl (by first | exact Or.inl rfl | exact Or.inr rfl) (pe_lst pa_nil))
      (pss_cons (ps_for PassesOwn.never rfl (pi_range2 (by rfl) T.f_range (pa_cons pe_int (pa_cons (pe_op op_add (pe_callB call_len_seq (by rfl) T.f_len PySem.boot_len (pa_cons (pv 3) pa_nil)) pe_int) pa_nil))) (pg_name (i := 6) sc__rise_tops.nd rfl (by first | exact Or.inl rfl | exact Or.inr rfl)) (pss_cons (ps_setLc (i := 7) (own := [("i", 10), ("j", 11)]) (g := (gTup K 2 (gCons (gName 10) (gCons (gName 11) gNil)))) (tt := (tTru K (tOp qAnd (tOp qAnd (tOp qShr (tVar 6) (tVar 11)) (tUn qInv (tOp qShr (tVar 6) (tVar 10)))) (tC (.int 1))))) (te := (tOp qMul (tOp (rIxT K) (tOp (rIxT K) (tWd K "calls" (tVar 0)) (tVar 10)) (tVar 11)) (tOp (rIxL K) (tVar 1) (tVar 10)))) (by rfl) sc__rise_tops.nd rfl rfl (sw_true rfl rfl rfl (by kernel_rfl)) (pi_tup (pv 4)) (blkOk_by (by kernel_rfl)) (fun _ _ _ _ _ => (pg_tup (by rfl) (pgs_cons (pg_name (i := 10) sc__rise_tops.nd rfl (by first | exact Or.inl rfl | exact Or.inr rfl)) (pgs_cons (pg_name (i := 11) sc__rise_tops.nd rfl (by first | exact Or.inl rfl | exact Or.inr rfl)) pgs_nil)))) (fun _ _ _ _ _ => (pts_one (pt_truth (pe_op op_and (pe_op op_and (pe_op op_shr (pv 6) (pv 11)) (pe_un un_inv (pe_op op_shr (pv 6) (pv 10)))) pe_int) (by intro _; rfl)))) (fun _ _ _ _ _ => (pe_op op_mulX (pe_ix ix_tup (pe_ix ix_tup (pe_slotX (sclsX T.scls) (slotX T.sl_calls) (pv 0)) (pv 10) (fun _ _ => rfl)) (pv 11) (fun _ _ => rfl)) (pe_ix ix_list (pv 1) (pv 10) (fun _ _ => rfl)))))
      (pss_one (ps_expr (pe_bm PySem.F.plainAttrs_list PySem.F.slot_list_append PySem.F.type_list_append mt_append (pv 5) (pa_cons (pe_lst (pa_cons (pe_callB (cr_sum rfl) (by rfl) T.f_sum (by decide +kernel) (pa_cons (pv 7) pa_nil)) pa_nil)) pa_nil))))))
      (pss_cons (ps_asg (pe_call G_solved hr (by rfl) T.g_solved K_solved B_solved .nil pass0 (pa_cons (pe_lc (own := [("row", 12)]) (g := (gName 12)) (tt := tYes) (te := (tSl (rSlL K) (tVar 12) (tPart (tC (.int 1))) (tPart (tUn qNeg (tC (.int 1)))))) (by rfl) sc__rise_tops.nd (pi_list (pv 3)) (blkOk_by (by kernel_rfl)) (fun _ _ _ _ _ => (pg_name (i := 12) sc__rise_tops.nd rfl (by first | exact Or.inl rfl | exact Or.inr rfl))) (fun _ _ _ _ _ => pts_nil) (fun _ _ _ _ _ => (pe_slice sl_list (pv 12) (po_some pe_int) (po_some (pe_un un_neg pe_int))))) (pa_cons (pv 5) pa_nil))) (pg_tup (by rfl) (pgs_cons (pg_name (i := 8) sc__rise_tops.nd rfl (by first | exact Or.inl rfl | exact Or.inr rfl)) (pgs_cons (pg_name (i := 9) sc__rise_tops.nd rfl (by first | exact Or.inl rfl | exact Or.inr rfl)) pgs_nil))))
      (pss_one (ps_ret (pe_tup (pa_cons (pe_op op_cat (pe_op op_cat (pe_lst (pa_cons pe_int pa_nil)) (pe_lc (own := [("answer", 13)]) (g := (gName 13)) (tt := tYes) (te := (tOp (rIxL K) (tVar 13) (tC (.int 0)))) (by rfl) sc__rise_tops.nd (pi_list (pv 8)) (blkOk_by (by kernel_rfl)) (fun _ _ _ _ _ => (pg_name (i := 13) sc__rise_tops.nd rfl (by first | exact Or.inl rfl | exact Or.inr rfl))) (fun _ _ _ _ _ => pts_nil) (fun _ _ _ _ _ => (pe_ix ix_list (pv 13) pe_int (fun _ _ => rfl))))) (pe_lst (pa_cons pe_int pa_nil))) (pa_cons (pe_op op_mulX (pv 9) (pv 2)) pa_nil))))))))))), ?_⟩
    obtain ⟨G, w, e, ⟨hw, hv⟩, q⟩ := h
    obtain ⟨u, rfl, hu⟩ := ac1 hv
    obtain ⟨p1, p2⟩ := hw.p
    have n4 := hw.n4
    have n2 := hw.n2
    have mxs : ∀ {G v M}, MxT G v M → MxS G v M := fun {G v M} ⟨a, us, e1, e2, p⟩ => .inr ⟨a, us, e1, e2, paired_imp (fun _ _ h => .inr h) p⟩
    refine s_asg (R := P2 (Ls IR) IR) (x := ((List.range w.n).map (wNum w), wWh w)) ?_ e fun v G1 H1 s1 r1 => ?_
    · exact ev_call w (ea_cons (R := WR K) (ev_var rfl hu) ea_nil) (fun vs G' _ h => ⟨hw, h⟩) (fun _ _ h => h)
    refine g_pair s1.v r1 fun nm wh r2 r3 => ?_
    obtain rfl := r3
    dsimp only at r2
    have hu1 := Mono.up s1.g hu
    refine s_set (R := MxL) (x := wRows w) (ev_call w (ea_cons (R := MxS) (x := w.t) ((ev_takes (w := w) (ev_var rfl hu1)).imp fun _ _ h => mxs h) (ea_cons (R := MxS) (x := w.c) ((ev_calls (w := w) (ev_var rfl hu1)).imp fun _ _ h => mxs h) ea_nil)) (fun vs G' _ h => ⟨hw, h⟩) (fun _ _ h => h)) s1.v fun rw_ G2 H2 s2 r4 => ?_
    have S2 := s1.trans s2
    refine s_set (R := Tp FR) (x := tiesOf w.n w.c) (ev_calling rfl (Mono.up s2.g hu1) hw.sc n4) s2.v fun ti G3 H3 s3 r5 => ?_
    have S3 := S2.trans s3
    refine s_new s3.v fun a ha ga => ?_
    have ha0 : H a = none := S3.h.none ha
    have tl := ties_len hw
    refine s_for (I := fun i σ G' H' => Stp G H G' H' ∧ OL (Ls IR) G' H' a ((List.range i).map fun r => [rsd w (r + 1)]) ∧ ∃ c6 c7, σ = [some u, some nm, some (.int (wWh w)), some rw_, some ti, some (.ref a), c6, c7, none, none, none, none, none, none]) (ei_range2 (a := 1) (b := ((2 ^ w.n - 2 : Nat) : Int) + 1) (ea_consI ev_int (ea_consI (ev_I0 (f := fun i j => i + j) ((ev_lenL (R := Ls IR) (xs := wRows w) (ev_var rfl (Mono.up s3.g r4))).eq (by rw [rows_len])) ev_int) ea_nil)) ⟨by omega, by omega, by omega, by omega⟩) (s3.v.trans (Ex.new ha)) ?_ ?_ ?_
    · exact fun G4 H4 s4 => ⟨(S3.own ha).trans s4, (OL.new ga).step s4, _, _, rfl⟩
    · rintro i x σ Gp Hq G' H' G1' hi e1 e2 ⟨S4, A4, c6, c7, rfl⟩ s5 rfl
      rw [show (1 : Int) + (i : Int) = ((i + 1 : Nat) : Int) by omega]
      have hi : i < 2 ^ w.n - 2 := by omega
      have S5 := S4.trans s5
      have A5 := A4.step s5
      have e5 := e1.trans (e2.trans s5.g)
      have t5 := Mono.up e5 r5
      have n5 := Mono.up ((s2.g.trans s3.g).trans e5) r2
      have u5 := Mono.up ((s2.g.trans s3.g).trans e5) hu1
      have pm : ∀ t, t < (tiesOf w.n w.c).length → ∃ i j : Nat, i < w.n ∧ j < w.n ∧ (tiesOf w.n w.c).getD t (0, 0) = ((i : Int), (j : Int)) := fun t ht => by
        rw [getD_of (List.getElem?_eq_getElem ht)]
        exact ties_mem (List.getElem_mem ht)
      refine s_set (R := Ls IR) (x := (List.range (tiesOf w.n w.c).length).filterMap fun t => tieG w (i + 1) ((tiesOf w.n w.c).getD t (0, 0))) ?_ s5.v fun tu G6 H6 s6 r6 => ?_
      · refine ev_lcPF (U := IR) (T := IR) (S := IR) (by decide) (px := fun t => (tiesOf w.n w.c).getD t (0, 0)) ((ei_tup (R := FR) (xs := tiesOf w.n w.c) (ev_var rfl t5)).imp fun t G v ht ⟨y, hy, r⟩ => by rw [getD_of hy]; exact r) (by omega) (fun t w1 w2 G7 H7 ht s7 q1 q2 => ?_) (fun t w1 w2 y G7 H7 ht s7 q1 q2 hy => ?_)
        · obtain ⟨a', b', ha', hb', ep⟩ := pm t ht
          rw [ep] at q1 q2 ⊢
          obtain rfl := q1
          obtain rfl := q2
          refine EvT.eq (et_int (ev_andN (b := 1) (ev_andNot (a := (i + 1) >>> b') (b := (i + 1) >>> a') (ev_shrN (ev_varI rfl) (ev_varI rfl)) (ev_shrN (ev_varI rfl) (ev_varI rfl))) (ev_int (i := 1)))) ?_
          rw [and_bits (i + 1) (by omega) a' (by omega) b' (by omega)]
          unfold tieG
          rw [Int.toNat_natCast, Int.toNat_natCast]
          by_cases z : (i + 1).testBit b' = true ∧ (i + 1).testBit a' = false
          · rw [if_pos z, if_pos z]; rfl
          · rw [if_neg z, if_neg z]; rfl
        · obtain ⟨a', b', ha', hb', ep⟩ := pm t ht
          rw [ep] at q1 q2 hy
          obtain rfl := q1
          obtain rfl := q2
          unfold tieG at hy
          rw [Int.toNat_natCast, Int.toNat_natCast] at hy
          by_cases z : (i + 1).testBit b' = true ∧ (i + 1).testBit a' = false
          · rw [if_pos z] at hy
            cases hy
            obtain ⟨r, er, hl, hr⟩ := hw.sc.row ha'
            refine ev_I (ev_ixT (R := IR) (n := b') (xs := r) (ev_ixT (R := Tp IR) (n := a') (xs := w.c) (ev_calls (w := w) (ev_var rfl (Mono.up s7.g u5))) (ev_varI rfl) rfl er) (ev_varI rfl) rfl (hr b' hb')) (ev_ixL (R := IR) (n := a') (xs := (List.range w.n).map (wNum w)) (ev_var rfl (Mono.up s7.g n5)) (ev_varI rfl) rfl (get_rng _ ha')) (mulx (a := 20) (b := 130) ?_ ?_)
            · have := hw.c0 a' b' ha' hb'
              show Int.natAbs _ < 2 ^ 20
              omega
            · exact Nat.lt_of_le_of_lt (hw.say.le a' ha') (by decide +kernel)
          · rw [if_neg z] at hy; cases hy
      · rw [fm_getD] at r6
        refine s_appendO1 (R := Ls IR) (i := 5) (y := [rsd w (i + 1)]) rfl (A5.step s6) (by rw [List.length_map, List.length_range]; omega) (ev_lst (xs := [rsd w (i + 1)]) (.cons (Ev.eq (ev_sumL (ev_var rfl r6)) (tie_sum hw _)) .nil) (by show 1 ≤ 100000; decide)) s6.v fun G7 H7 o7 s7 g7 A7 => ?_
        refine ⟨G7, e2.trans (s5.g.trans (s6.g.trans s7.g)), s7.v.mut g7, (S5.trans (s6.trans s7)).mut ha0 g7, ?_, _, _, rfl⟩
        rw [List.range_succ, List.map_append]; exact A7
    · rintro σ Gp Hq e1 e2 ⟨S4, A4, c6, c7, rfl⟩
      rw [show (((2 ^ w.n - 2 : Nat) : Int) + 1 - 1).toNat = 2 ^ w.n - 2 by omega] at A4
      obtain ⟨us, S5, ra⟩ := A4.show_ S4 ha0
      have e5 := e1.trans (Ex.new (o := .lst us) A4.1)
      refine s_asg (R := P2 (Ls (Ls IR)) IR) (x := ((List.range (2 ^ w.n - 2)).map fun i => [rX w i], rB0 w)) ?_ S5.v fun v G6 H6 s6 r6 => ?_
      · refine ev_call ((wMt w, rbs w), 2 ^ w.n - 2) (ea_cons (R := Ls (Ls IR)) (x := wMt w) ?_ (ea_cons (R := Ls (Ls IR)) (x := (rbs w).map fun y => [y]) ?_ ea_nil)) (fun vs G' _ h => ⟨hw.rsv, h⟩) (fun _ _ h => h)
        · rw [← rows_mid hw]
          refine ev_lcL (R := Ls IR) (ei_list (R := Ls IR) (xs := wRows w) (ev_var rfl (Mono.up (s3.g.trans e5) r4))) (by rw [rows_len]; omega) fun i x v G6 H6 hx s6 rx => ?_
          exact ev_sl (ev_var rfl rx) (eo_some ev_int) (eo_some (ev_un (f := fun i => -i) ev_int))
        · unfold rbs
          rw [List.map_map]
          exact ev_var rfl ra
      refine g_pair s6.v r6 fun an bt r7 r8 => ?_
      obtain rfl := r8
      dsimp only at r7
      have S6 := S5.trans s6
      refine s_ret (R := P2 (Ls IR) IR) (x := (([0] ++ (List.range (2 ^ w.n - 2)).map (rX w)) ++ [0], rB w)) (ev_tup2 (R := Ls IR) (S := IR) ?_ ?_) s6.v fun v G7 H7 s7 r => q v G7 H7 (S6.trans s7) r
      · refine ev_cat (ev_cat (ev_lst (R := IR) (xs := [0]) (.cons ev_int .nil) (by show 1 ≤ 100000; decide)) (Ev.eq (ev_lcL (R := Ls IR) (S := IR) (f := fun x => x.getD 0 0) (ei_list (R := Ls IR) (xs := (List.range (2 ^ w.n - 2)).map fun i => [rX w i]) (ev_var rfl r7)) (by rw [List.length_map, List.length_range]; omega) fun i x v G7 H7 hx s7 rx => ?_) (by rw [List.map_map]; rfl)) ?_) (ev_lst (R := IR) (xs := [0]) (.cons ev_int .nil) (by show 1 ≤ 100000; decide)) ?_
        · obtain ⟨k, _, rfl⟩ := List.mem_map.mp (List.mem_of_getElem? hx)
          exact ev_ixL (R := IR) (n := 0) (xs := [rX w k]) (ev_var rfl rx) ev_int rfl rfl
        · simp; omega
        · simp; omega
      · exact ev_I (ev_varI rfl) (ev_varI rfl) (mulx (show pw 600 (rB0 w) from hw.rsv.bB) hw.wh.2)
abbrev N_call_worth : List Str := ["world", "lot", "number", "tops", "bottom"]
abbrev P_call_worth : List Str := ["world", "lot"]
theorem sc_call_worth : FnScope N_call_worth P_call_worth (defScope s_call_worth) := ⟨rfl, rfl, rfl, by decide +kernel, rfl, by decide +kernel, by decide +kernel⟩
def sp_call_worth (K : PySem.W.Frag) : Sp := Pu (fun (x : Wd × List Nat) vs G => (WOk x.1 ∧ x.2.Nodup ∧ ∀ p ∈ x.2, p < x.1.n) ∧ AC (WR K) x.1 (AC (Sq NR) x.2 A0) vs G) (fun x G u => FR G u (lowf (rF x.1 (msk x.2)) (rB x.1)))
theorem len_call_worth {K : PySem.W.Frag} {vs : List V} {H : Hp} {Q : VK} {E : XK} (h : sp_call_worth K vs H Q E) : vs.length = P_call_worth.length := by
  obtain ⟨G, x, e, ⟨_, a⟩, _⟩ := h
  obtain ⟨_, _, rfl, _⟩ := ac2 a; rfl
theorem ok_call_worth {P : Program} {w : World} {K : PySem.W.Frag} {mg : Str → Option Value} {base : Heap} {k : Nat} (T : Tx K mg) (G__rise_need : Ok P w K mg base k "_rise_need" P__rise_need (sp__rise_need K)) (G_number_of : Ok P w K mg base k "number_of" P_number_of (sp_number_of K)) (G__rise_tops : Ok P w K mg base k "_rise_tops" P__rise_tops (sp__rise_tops K)) (G_ratio : Ok P w K mg base k "ratio" P_ratio (sp_ratio K)) : Ok P w K mg base (k + 1) "call_worth" P_call_worth (sp_call_worth K) := by
  obtain ⟨fd__rise_need, G__rise_need, B__rise_need, K__rise_need⟩ := G__rise_need
  obtain ⟨fd_number_of, G_number_of, B_number_of, K_number_of⟩ := G_number_of
  obtain ⟨fd__rise_tops, G__rise_tops, B__rise_tops, K__rise_tops⟩ := G__rise_tops
  obtain ⟨fd_ratio, G_ratio, B_ratio, K_ratio⟩ := G_ratio
  refine ok_of T.d_call_worth sc_call_worth (fun _ _ _ _ _ _ us hl => match us, hl with | [_, _], _ => rfl) (fun vs H Q E h => ?_) (fun f cdv A outer s H vs Q E hr h => ?_)
  · exact len_call_worth h
  · refine ⟨_, (pss_cons (ps_expr (pe_call G__rise_need hr (by rfl) T.g__rise_need K__rise_need B__rise_need .nil pass0 (pa_cons (pv 0) pa_nil)))
      (pss_cons (ps_set (i := 2) sc_call_worth.nd rfl (by first | exact Or.inl rfl | exact Or.inr rfl) (pe_call G_number_of hr (by rfl) T.g_number_of K_number_of B_number_of .nil pass0 (pa_cons (pv 1) (pa_cons (pe_slotX (sclsX T.scls) (slotX T.sl_size) (pv 0)) pa_nil))))
      (pss_cons (ps_asg (pe_call G__rise_tops hr (by rfl) T.g__rise_tops K__rise_tops B__rise_tops .nil pass0 (pa_cons (pv 0) pa_nil)) (pg_tup (by rfl) (pgs_cons (pg_name (i := 3) sc_call_worth.nd rfl (by first | exact Or.inl rfl | exact Or.inr rfl)) (pgs_cons (pg_name (i := 4) sc_call_worth.nd rfl (by first | exact Or.inl rfl | exact Or.inr rfl)) pgs_nil))))
      (pss_one (ps_ret (pe_call G_ratio hr (by rfl) T.g_ratio K_ratio B_ratio .nil pass0 (pa_cons (pe_ix ix_list (pv 3) (pv 2) (fun _ _ => rfl)) (pa_cons (pv 4) pa_nil)))))))), ?_⟩
    obtain ⟨G, ⟨w, l⟩, e, ⟨⟨hw, hd, hl⟩, hv⟩, q⟩ := h
    dsimp only at hw hd hl hv q
    obtain ⟨u, v, rfl, hu, hvv⟩ := ac2 hv
    have n4 := hw.n4
    have n2 := hw.n2
    refine Ev.run (te := tCall (sp__rise_need K) [] E0 (tCons (tVar 0) tNil)) (R := VR) (x := .non) (ev_call w (ea_cons (R := WR K) (ev_var rfl hu) ea_nil) (fun vs G' _ h => ⟨hw, h⟩) (fun _ _ h => h)) e fun _ G1 H1 s1 _ => ?_
    have hu1 := Mono.up s1.g hu
    refine s_set (R := IR) (x := (msk l : Nat)) (ev_call (l, w.n) (ea_cons (R := Sq NR) (x := l) (ev_var rfl (Mono.up s1.g hvv)) (ea_cons (R := NR) (x := w.n) ((ev_size (w := w) (ev_var rfl hu1)).imp fun _ _ h => h) ea_nil)) (fun vs G' _ h => ⟨⟨hd, by show 1 ≤ w.n; omega, by show w.n ≤ 12; omega, hl⟩, h⟩) (fun _ _ h => h)) s1.v fun x G2 H2 s2 r2 => ?_
    obtain rfl := r2
    have S2 := s1.trans s2
    refine s_asg (R := P2 (Ls IR) IR) (x := (([0] ++ (List.range (2 ^ w.n - 2)).map (rX w)) ++ [0], rB w)) ?_ s2.v fun v G3 H3 s3 r3 => ?_
    · exact ev_call w (ea_cons (R := WR K) (ev_var rfl (Mono.up s2.g hu1)) ea_nil) (fun vs G' _ h => ⟨hw, h⟩) (fun _ _ h => h)
    refine g_pair s3.v r3 fun tp bt r4 r5 => ?_
    obtain rfl := r5
    dsimp only at r4
    obtain ⟨b1, b2⟩ := hw.rb
    refine s_ret (R := FR) (x := lowf (rF w (msk l)) (rB w)) ?_ s3.v fun v G4 H4 s4 r => q v G4 H4 (S2.trans (s3.trans s4)) r
    exact ev_call (rF w (msk l), rB w) (ea_consI (ev_ixL (R := IR) (n := msk l) (ev_var rfl r4) (ev_varI rfl) rfl (rinner_get hw (msk_lt hl))) (ea_consI (ev_varI rfl) ea_nil)) (fun vs G' _ h => ⟨⟨by show rB w ≠ 0; omega, pw_mono b2⟩, by exact h⟩) (fun _ _ h => h)

end Cy
/-! sorted(set(t)); own exceptions -/
namespace Cy
open PySem PySem.Spec PyProof.Rows L2 He
/-- set(t), t a tuple of ints -/
def rSetTI (K : PySem.W.Frag) (w : World) : List V → Hp → VK → Prop := fun vs H Q => ∃ (p : Addr) (ns : List Int), vs = [.ref p] ∧ SqT K H p (ns.map V.int) ∧ ns.length ≤ 60 ∧ ∀ (a : Addr) (c : Nat), H a = none → c ≤ ns.length → Q (.ref a) (upd H a (SetO w a (fun j => decide (j ∈ ns)) c))
theorem cr_setTI {X : Cx} (hc : X.calm = true) : CallR X (.type "set") (rSetTI X.K X.w) := by
  intro pn s σ H vs us Q I r h
  obtain ⟨p, ns, rfl, hS, hz, q⟩ := h
  obtain rfl := r.ref1
  obtain ⟨its, rv, pt, _⟩ := I.tuple hS
  have hi : IntsAre its.toArray.toList ns := (ints_of_vals rv)
  refine call_set_tupI ns (I.ok.hd hc) (show s.heap.IsTuple p its.toArray from pt) hi (by unfold scanBound; omega) fun h' tk c R1 hcn k => ?_
  exact ⟨.ref _, upd H s.heap.objs.size (SetO X.w s.heap.objs.size (fun j => decide (j ∈ ns)) c), I.laid (t' := tk) (fun b u e => k b u e) (Nat.le_refl _) (setO_new R1), rfl, q _ _ (I.hok.fresh (Nat.le_refl _)) hcn⟩
section
variable {K : PySem.W.Frag} {w : World} {σ : L2.St} {G H : Hp} {ta : TE} {u : TS} {D : Ends} {gs : List Int} {i : Nat}
theorem s_levels (ha : Ev ta σ G H (Tp IR) gs) (hl : gs.length ≤ 60) (e : Ex G H) (k : ∀ (lv : List Int) v G' H', Stp G H G' H' → lv.Pairwise (· < ·) → (∀ x, x ∈ lv ↔ x ∈ gs) → lv.length ≤ gs.length → Ls IR G' v lv → u D (σ.set i (some v)) H') :
    tSeq (tAsg (tCB (rSortedSet w) (tCons (tCB (rSetTI K w) (tCons ta tNil)) tNil)) (gName i)) u D σ H :=
  ha.run e fun v G1 H1 s1 r1 => by
    obtain ⟨p, us, rfl, hp, pr⟩ := r1
    rw [paired_ints pr] at hp
    refine ⟨p, gs, rfl, SqT.of (s1.v _ _ hp), hl, fun a c hn hc => ?_⟩
    refine ⟨a, _, c, rfl, upd_same, by omega, fun ns q hpw hmem hlen hq => ?_⟩
    have S1 := s1.own (o := SetO w a (fun j => decide (j ∈ gs)) c) hn
    have S2 := S1.trans (Stp.new (o := .lst (ns.map V.int)) S1.v hq)
    exact k ns (.ref q) _ _ S2 hpw (fun x => by rw [hmem x, decide_eq_true_eq]) (by omega) ⟨q, _, rfl, upd_same, ints_paired _ _⟩
end
end Cy
namespace Cy
open PySem PySem.Spec PyProof.Rows L2 He
local macro_rules | `(tactic| tm_at "ex") => `(tactic| first
  | exact Ex.refl _ | assumption | exact Stp.g (by assumption) | exact Stp.v (by assumption)
  | (refine Ex.trans (Stp.g (by assumption)) ?_; tm_at "ex")
  | (refine Ex.trans (by assumption) ?_; tm_at "ex"))
local macro_rules | `(tactic| tm_at "rl") => `(tactic| first
  | exact rfl | assumption | (apply Mono.up; rotate_left; assumption; tm_at "ex"))
local macro_rules | `(tactic| tm_at "sc") => `(tactic| first | assumption | omega)
local macro_rules | `(tactic| tm_at "ev") => `(tactic| first
  | exact ev_int | exact ev_bl | assumption
  | (apply ev_varI; exact rfl)
  | (apply ev_var; exact rfl; tm_at "rl")
  | (apply ev_I0; tm_at "ev"; tm_at "ev")
  | (apply ev_B0; tm_at "ev"; tm_at "ev")
  | (apply ev_I; tm_at "ev"; tm_at "ev"; tm_at "sc")
  | (apply ev_un; tm_at "ev")
  | (apply ev_eqI; tm_at "ev"; tm_at "ev")
  | (apply ev_neI; tm_at "ev"; tm_at "ev")
  | (apply ev_fstI; tm_at "ev")
  | (apply ev_sndI; tm_at "ev")
  | (apply ev_max2; tm_at "ev"; tm_at "ev")
  | (apply ev_min2; tm_at "ev"; tm_at "ev")
  | (apply ev_abs; tm_at "ev")
  | (apply ev_int1; tm_at "ev")
  | (apply ev_bits; tm_at "ev")
  | (apply ev_gcd; tm_at "ev"; tm_at "ev")
  | (apply ev_len; tm_at "ev")
  | (apply ev_tup2; tm_at "ev"; tm_at "ev"))
local macro_rules | `(tactic| tm_at "ea") => `(tactic| first
  | exact ea_nil
  | (apply ea_consI; tm_at "ev"; tm_at "ea")
  | (apply ea_cons; tm_at "ev"; tm_at "ea"))
local macro_rules | `(tactic| tm_at "et") => `(tactic| first
  | (apply et_test; tm_at "ev")
  | (apply et_B; tm_at "ev")
  | (apply et_not; tm_at "et"))

open Cr
abbrev N_BadGrades___init__ : List Str := ["self", "at"]
abbrev P_BadGrades___init__ : List Str := ["self", "at"]
theorem sc_BadGrades___init__ : FnScope N_BadGrades___init__ P_BadGrades___init__ (defScope s_BadGrades___init__) := ⟨rfl, rfl, rfl, by decide +kernel, rfl, by decide +kernel, by decide +kernel⟩
def sp_bg (K : PySem.W.Frag) : Sp := fun vs H Q _ => ∃ (a : Addr) (v : V), vs = [.ref a, v] ∧ H a = some (exo a (ga K "BadGrades") none) ∧ ∀ dx, H dx = none → dx ≠ a → Q .non (upd (upd H dx (exd dx [("at", v)])) a (exo a (ga K "BadGrades") (some dx)))
def OkBG (P : Program) (w : World) (K : PySem.W.Frag) (mg : Str → Option Value) (base : Heap) (k : Nat) : Prop := ∃ fd, FnOk P w K mg base CX0 k (ma K (ga K "BadGrades") "__init__") fd P_BadGrades___init__ (sp_bg K) ∧ Binds K fd P_BadGrades___init__ []
theorem ok_BadGrades___init__ {P : Program} {w : World} {K : PySem.W.Frag} {mg : Str → Option Value} {base : Heap} {k : Nat} (T : Tx K mg) : OkBG P w K mg base (k + 1) := by
  obtain ⟨fd, F⟩ := T.d_BadGrades___init__
  refine ⟨fd, F.ok sc_BadGrades___init__ (fun vs H Q E h => ?_) (fun cdv A outer s H vs Q E hr h => ?_), F.bindsN (fun _ _ _ _ _ _ us hl => match us, hl with | [_, _], _ => rfl)⟩
  · obtain ⟨a, v, rfl, _⟩ := h; rfl
  · suffices h' : ∃ t, PSs (cxOf CX0 P w K mg base N_BadGrades___init__ _ (defScope s_BadGrades___init__) _ cdv A outer s H E).nox (defBody s_BadGrades___init__) t ∧ t { nx := fun _ H' => Q .non H', rt := Q } (start N_BadGrades___init__ vs) H by
      obtain ⟨t, a, b⟩ := h'
      exact ⟨t, a.nox, b⟩
    refine ⟨_, (pss_one (ps_ost (pv 0) (pv 1))), ?_⟩
    obtain ⟨a, v, rfl, hH, q⟩ := h
    exact ⟨v, rfl, .ref a, rfl, a, ga K "BadGrades", rfl, T.oex, T.bg.2.2.1, .inl ⟨hH, fun dx h1 h2 => q dx h1 h2⟩⟩
/-! ### defs that may raise -/
section
variable (P : Program) (w : World) (K : PySem.W.Frag) (mg : Str → Option Value) (base : Heap)
def OkE (k : Nat) (x : Str) (ps : List Str) (sp : Sp) : Prop := ∃ fd, FnOk P w K mg base (L2.CX P w) k (ga K x) fd ps sp ∧ Binds K fd ps [] ∧ PySem.W.keepIn K (.ref (ga K x)) = true
end
section
variable {K : PySem.W.Frag} {mg : Str → Option Value} {base : Heap} {P : Program} {w : World}
theorem okE_of {x : Str} {st : Stmt} {N ps : List Str} {k : Nat} {sp : Sp} (F : ∃ fd, FunD K x x (defArgs st) (defBody st) (defScope st) [] [] (ga K x) fd) (S : FnScope N ps (defScope st))
    (bi : ∀ (kV doc pm : Value) (an : Option Addr) (cdv ct : Value) (us : List Value), us.length = ps.length → bindArgs (PySem.W.fnOf x x (defArgs st) (defBody st) (defScope st) .none kV doc pm an cdv ct) ⟨us, []⟩ = pure (ps.zip us))
    (len : ∀ xs J Q E, sp xs J Q E → xs.length = ps.length)
    (hbody : ∀ (f : Addr) (cdv : Value) (A : Around) (outer : List Env) (s : Shared) (H : Hp) (vs : List V) (Q : VK) (E : XK), Room k (A.deeper (envOfC x (defScope st) s.heap.objs.size f cdv)) → sp vs H Q E →
      ∃ t, PSs (cxOf (L2.CX P w) P w K mg base N x (defScope st) f cdv A outer s H E) (defBody st) t ∧ t { nx := fun _ H' => Q .non H', rt := Q } (start N vs) H) : OkE P w K mg base (k + 1) x ps sp := by
  obtain ⟨fd, F⟩ := F
  exact ⟨fd, F.ok S len fun cdv A outer s H vs Q E hr h => hbody _ cdv A outer s H vs Q E hr h, F.bindsN bi, F.kp⟩
theorem OkE.mono {x : Str} {ps : List Str} {sp : Sp} {j k : Nat} (h : OkE P w K mg base j x ps sp) (hjk : j ≤ k) : OkE P w K mg base k x ps sp := by
  obtain ⟨fd, a, b⟩ := h
  exact ⟨fd, a.mono hjk, b⟩
end
/-- raise BadGrades(i): its own dict, new, tells i -/
theorem raise_bg {K : PySem.W.Frag} {σ : L2.St} {G H : Hp} {te : TE} {i : Int} {E : XK} (h : Ev te σ G H IR i) (e : Ex G H) (k : ∀ G' H' d, Stp G H G' H' → H' d = some (.xd [("at", .int i)]) → E (.ref (ga K "BadGrades")) (some d) H') :
    tMkO (ga K "BadGrades") (sp_bg K) [] (tCons te tNil) σ H fun cls d H' => E cls d H' :=
  h.run e fun v G1 H1 s1 r1 => by
    obtain rfl : v = .int i := r1
    refine ⟨by show 1 ≤ 1000; decide, fun a ha => ⟨a, .int i, rfl, upd_same, fun dx hd ne => ⟨rfl, dx, _, upd_same, by rw [upd_ne ne, upd_same], ?_, ?_⟩⟩⟩
    · rw [upd_ne ne] at hd; exact hd
    · rw [upd_ne ne] at hd
      have e1 : upd (del (upd (upd (upd H1 a (exo a (ga K "BadGrades") none)) dx (exd dx [("at", .int i)])) a (exo a (ga K "BadGrades") (some dx))) a) dx (.xd [("at", .int i)]) = upd H1 dx (.xd [("at", .int i)]) := by
        funext b
        by_cases z : b = dx
        · rw [z, upd_same, upd_same]
        · rw [upd_ne z, upd_ne z]
          by_cases y : b = a
          · rw [y, del_same, ha]
          · rw [del_ne y, upd_ne y, upd_ne z, upd_ne y]
      rw [e1]
      exact k G1 _ dx (s1.own hd) upd_same
/-- what is wrong with grades -/
def BadAt (Ts : List String) (n : Nat) (i : Int) : Prop := (Ts.length ≠ n ∧ i = -1) ∨ (Ts.length = n ∧ ∃ (k : Nat) (T : String), i = (k : Int) ∧ Ts[k]? = some T ∧ T ≠ "int" ∧ ∀ j, j < k → Ts[j]? = some "int")
def KnT (T : String) : Prop := T = "int" ∨ T = "bool" ∨ T = "NoneType" ∨ T = "str" ∨ T = "tuple"
abbrev N_grades_of : List Str := ["value", "size", "at", "grade"]
abbrev P_grades_of : List Str := ["value", "size"]
theorem sc_grades_of : FnScope N_grades_of P_grades_of (defScope s_grades_of) := ⟨rfl, rfl, rfl, by decide +kernel, rfl, by decide +kernel, by decide +kernel⟩
def sp_grades_of (K : PySem.W.Frag) : Sp := fun vs H Q E =>
  (∃ (G : Hp) (v : V) (gs : List Int), Ex G H ∧ Ls IR G v gs ∧ gs.length ≤ 1000 ∧ vs = [v, .int (gs.length : Int)] ∧ ∀ u G' H', Stp G H G' H' → Tp IR G' u gs → Q u H') ∨
  (∃ (G : Hp) (v : V) (Ts : List String) (n : Nat) (i : Int), Ex G H ∧ Ls TR G v Ts ∧ Ts.length ≤ 1000 ∧ (∀ T ∈ Ts, KnT T) ∧ vs = [v, .int (n : Int)] ∧ BadAt Ts n i ∧ ∀ G' H' d, Stp G H G' H' → H' d = some (.xd [("at", .int i)]) → E (.ref (ga K "BadGrades")) (some d) H')
theorem ok_grades_of {P : Program} {w : World} {K : PySem.W.Frag} {mg : Str → Option Value} {base : Heap} {k : Nat} (T : Tx K mg) (G_bg : OkBG P w K mg base k) (G_is_whole : Ok P w K mg base (k + 1) "is_whole" P_is_whole (sp_is_whole K)) : OkE P w K mg base (k + 1 + 1) "grades_of" P_grades_of (sp_grades_of K) := by
  obtain ⟨fd_bg, G_bg, B_bg⟩ := G_bg
  obtain ⟨fd_is_whole, G_is_whole, B_is_whole, K_is_whole⟩ := G_is_whole
  refine okE_of T.d_grades_of sc_grades_of (fun _ _ _ _ _ _ us hl => match us, hl with | [_, _], _ => rfl) (fun vs H Q E h => ?_) (fun f cdv A outer s H vs Q E hr h => ?_)
  · rcases h with ⟨_, _, _, _, _, _, rfl, _⟩ | ⟨_, _, _, _, _, _, _, _, _, rfl, _⟩ <;> rfl
  · refine ⟨_, (pss_cons (ps_if (PW.pt (pw_or (pt_not (pt_val (pe_callB call_isiT (by rfl) T.f_isinstance (by decide +kernel) (pa_cons (pv 0) (pa_cons (pe_tup (pa_cons (pe_bltn (v := .ty "tuple") (by rfl) T.f_tuple (by decide +kernel) rfl) (pa_cons (pe_bltn (v := .ty "list") (by rfl) T.f_list (by decide +kernel) rfl) pa_nil))) pa_nil))))) (pw_or1 (pt_cmpR op_ne (pe_callB call_len_seq (by rfl) T.f_len PySem.boot_len (pa_cons (pv 0) pa_nil)) (pv 1) (nomark _))))) (pss_one (ps_raise rfl (takes_of rfl rfl rfl rfl) (pmk_oex T.oex T.bg.1 T.bg.2.1 G_bg hr B_bg .nil pass0 (by rfl) T.g_BadGrades (pa_cons (pe_un un_neg pe_int) pa_nil)))) pss_nil)
      (pss_cons (ps_for (passes_of rfl) rfl (pi_enum (by rfl) T.f_enumerate (pa_cons (pv 0) pa_nil)) (pg_tup (by rfl) (pgs_cons (pg_name (i := 2) sc_grades_of.nd rfl (by first | exact Or.inl rfl | exact Or.inr rfl)) (pgs_cons (pg_name (i := 3) sc_grades_of.nd rfl (by first | exact Or.inl rfl | exact Or.inr rfl)) pgs_nil))) (pss_one (ps_if (pt_not (pt_val (pe_call G_is_whole hr (by rfl) T.g_is_whole K_is_whole B_is_whole .nil pass0 (pa_cons (pv 3) pa_nil)))) (pss_one (ps_raise rfl (takes_of rfl rfl rfl rfl) (pmk_oex T.oex T.bg.1 T.bg.2.1 G_bg hr B_bg .nil pass0 (by rfl) T.g_BadGrades (pa_cons (pv 2) pa_nil)))) pss_nil)))
      (pss_one (ps_ret (pe_callTy call_tuple_of (by rfl) T.f_tuple (by decide +kernel) (pa_cons (pv 0) pa_nil)))))), ?_⟩
    rcases h with ⟨G, v, gs, e, hv, hl, rfl, q⟩ | ⟨G, v, Ts, n, i, e, hv, hl, hk, rfl, hb, q⟩
    · refine s_chk (et_or (b := false) (c := false) (et_not (b := true) (et_B (ev_isiTL (ev_tysL (R := IR) (xs := gs) (ev_var rfl hv)) (.inl rfl)))) fun _ => et_test ((ev_neI (ev_lenL (R := IR) (xs := gs) (ev_var rfl hv)) (ev_varI rfl)).eq (by rw [decide_eq_true rfl]; rfl))) e fun G1 H1 s1 => ?_
      refine s_for (I := fun i σ G' H' => Stp G H G' H' ∧ ∃ c d, σ = [some v, some (.int (gs.length : Int)), c, d]) (ei_enum (R := IR) (xs := gs) (ea_cons (ev_var rfl (Mono.up s1.g hv)) ea_nil)) s1.v ?_ ?_ ?_
      · exact fun G2 H2 s2 => ⟨s1.trans s2, none, none, rfl⟩
      · rintro i w' σ Gp Hq G' H' G1' hi e1 e2 ⟨S2, c, d, rfl⟩ s3 ⟨y, hy, rp⟩
        refine g_pair s3.v rp fun w1 w2 r1 r2 => ?_
        obtain rfl := r1
        obtain rfl := r2
        refine s_if (b := false) (et_not (b := true) (et_whole (ev_varI rfl))) s3.v (fun _ _ _ z => by cases z) fun G4 H4 s4 _ => ⟨G4, e2.trans (s3.g.trans s4.g), s4.v, S2.trans (s3.trans s4), _, _, rfl⟩
      · rintro σ G' H' e1 e2 ⟨S2, c, d, rfl⟩
        exact s_ret (R := Tp IR) (x := gs) (ev_tupleOf (ev_var rfl (Mono.up S2.g hv))) S2.v fun u G3 H3 s3 r => q u G3 H3 (S2.trans s3) r
    · have lenEv : ∀ {G' H'}, Stp G H G' H' → Ev (tCB (qLen K) (tCons (tVar 0) tNil)) (start N_grades_of [v, .int (n : Int)]) G' H' IR (Ts.length : Int) := fun s => ev_lenL (R := TR) (xs := Ts) (ev_var rfl (Mono.up s.g hv))
      rcases hb with ⟨hne, rfl⟩ | ⟨heq, k', T', rfl, hT, hTn, hpre⟩
      · refine s_ifn (b := true) (et_or (b := false) (c := true) (et_not (b := true) (et_B (ev_isiTL (ev_tysL (R := TR) (xs := Ts) (ev_var rfl hv)) (.inl rfl)))) fun _ => et_test ((ev_neI (lenEv (Stp.refl e)) (ev_varI rfl)).eq (by rw [decide_eq_false (by omega)]; rfl))) e (fun G1 H1 s1 _ => ?_) (fun _ _ _ z => by cases z)
        exact raise_bg (i := -1) (ev_un (f := fun i => -i) ev_int) s1.v fun G' H' d s2 hd => q G' H' d (s1.trans s2) hd
      · refine s_chk (et_or (b := false) (c := false) (et_not (b := true) (et_B (ev_isiTL (ev_tysL (R := TR) (xs := Ts) (ev_var rfl hv)) (.inl rfl)))) fun _ => et_test ((ev_neI (lenEv (Stp.refl e)) (ev_varI rfl)).eq (by rw [decide_eq_true (by omega)]; rfl))) e fun G1 H1 s1 => ?_
        have kl := (List.getElem?_eq_some_iff.mp hT).1
        refine s_for (I := fun i σ G' H' => i ≤ k' ∧ Stp G H G' H' ∧ ∃ c d, σ = [some v, some (.int (n : Int)), c, d]) (ei_enum (R := TR) (xs := Ts) (ea_cons (ev_var rfl (Mono.up s1.g hv)) ea_nil)) s1.v ?_ ?_ ?_
        · exact fun G2 H2 s2 => ⟨Nat.zero_le _, s1.trans s2, none, none, rfl⟩
        · rintro i w' σ Gp Hq G' H' G1' hi e1 e2 ⟨hik, S2, c, d, rfl⟩ s3 ⟨y, hy, rp⟩
          refine g_pair s3.v rp fun w1 w2 r1 r2 => ?_
          obtain rfl := r1
          refine s_if (b := !(y == "int")) (et_not (et_B (ev_call y (ea_cons (R := TR) (x := y) (ev_var rfl r2) ea_nil) (fun vs G' _ h => ⟨hk y (List.mem_of_getElem? hy), h⟩) (fun _ _ h => h)))) s3.v (fun G4 H4 s4 hb => ?_) (fun G4 H4 s4 hb => ?_)
          · have : i = k' := by
              refine Classical.byContradiction fun z => ?_
              rw [hpre i (by omega)] at hy
              cases hy
              exact absurd hb (by decide)
            subst this
            exact raise_bg (i := (i : Int)) (ev_varI rfl) s4.v fun G' H' d s5 hd => q G' H' d (S2.trans (s3.trans (s4.trans s5))) hd
          · refine ⟨G4, e2.trans (s3.g.trans s4.g), s4.v, ?_, S2.trans (s3.trans s4), _, _, rfl⟩
            refine Nat.lt_of_le_of_ne hik fun z => ?_
            subst z
            rw [hT] at hy
            cases hy
            have : (T' == "int") = true := by
              cases h : (T' == "int")
              · rw [h] at hb; cases hb
              · rfl
            exact hTn (eq_of_beq this)
        · rintro σ G' H' e1 e2 ⟨hik, _⟩
          omega

end Cy
namespace Cy
open PySem PySem.Spec PyProof.Rows L2 He
local macro_rules | `(tactic| tm_at "ex") => `(tactic| first
  | exact Ex.refl _ | assumption | exact Stp.g (by assumption) | exact Stp.v (by assumption)
  | (refine Ex.trans (Stp.g (by assumption)) ?_; tm_at "ex")
  | (refine Ex.trans (by assumption) ?_; tm_at "ex"))
local macro_rules | `(tactic| tm_at "rl") => `(tactic| first
  | exact rfl | assumption | (apply Mono.up; rotate_left; assumption; tm_at "ex"))
local macro_rules | `(tactic| tm_at "sc") => `(tactic| first | assumption | omega)
local macro_rules | `(tactic| tm_at "ev") => `(tactic| first
  | exact ev_int | exact ev_bl | assumption
  | (apply ev_varI; exact rfl)
  | (apply ev_var; exact rfl; tm_at "rl")
  | (apply ev_I0; tm_at "ev"; tm_at "ev")
  | (apply ev_B0; tm_at "ev"; tm_at "ev")
  | (apply ev_I; tm_at "ev"; tm_at "ev"; tm_at "sc")
  | (apply ev_un; tm_at "ev")
  | (apply ev_eqI; tm_at "ev"; tm_at "ev")
  | (apply ev_neI; tm_at "ev"; tm_at "ev")
  | (apply ev_fstI; tm_at "ev")
  | (apply ev_sndI; tm_at "ev")
  | (apply ev_max2; tm_at "ev"; tm_at "ev")
  | (apply ev_min2; tm_at "ev"; tm_at "ev")
  | (apply ev_abs; tm_at "ev")
  | (apply ev_int1; tm_at "ev")
  | (apply ev_bits; tm_at "ev")
  | (apply ev_gcd; tm_at "ev"; tm_at "ev")
  | (apply ev_len; tm_at "ev")
  | (apply ev_tup2; tm_at "ev"; tm_at "ev"))
local macro_rules | `(tactic| tm_at "ea") => `(tactic| first
  | exact ea_nil
  | (apply ea_consI; tm_at "ev"; tm_at "ea")
  | (apply ea_cons; tm_at "ev"; tm_at "ea"))
local macro_rules | `(tactic| tm_at "et") => `(tactic| first
  | (apply et_test; tm_at "ev")
  | (apply et_B; tm_at "ev")
  | (apply et_not; tm_at "et"))

open Cr
theorem ea_run {ta : TA} {σ : L2.St} {G H : Hp} {A : List V → Hp → Prop} {Q : List V → Hp → Prop} (h : EvA ta σ G H A) (e : Ex G H) (q : ∀ vs G' H', Stp G H G' H' → A vs G' → Q vs H') : ta σ H Q := h G H (Stp.refl e) Q q
theorem s_setCall {ta : TA} {σ : L2.St} {G H : Hp} {A : List V → Hp → Prop} {sp : Sp} {E : XK} {i : Nat} {u : TS} {D : Ends} (h : EvA ta σ G H A) (e : Ex G H) (k : ∀ vs G' H', Stp G H G' H' → A vs G' → sp vs H' (fun v H2 => u D (σ.set i (some v)) H2) E) : tSeq (tAsg (tCall sp [] E ta) (gName i)) u D σ H :=
  ea_run h e fun vs G' H' s a => by
    show sp (vs ++ []) H' _ E
    rw [List.append_nil]
    exact k vs G' H' s a
theorem s_aug1 {σ : L2.St} {G H : Hp} {te : TE} {D : Ends} {i : Nat} {x y : Int} {f : Int → Int → Int} (hi : σ[i]? = some (some (.int x))) (h : Ev te σ G H IR y) (e : Ex G H) (k : ∀ G' H', Stp G H G' H' → D.nx (σ.set i (some (.int (f x y)))) H') : tAug i te (ipI f) D σ H :=
  ⟨_, hi, h.run e fun v G' H' s r => ⟨x, y, rfl, r, k G' H' s⟩⟩
abbrev N_rise_worth : List Str := ["world", "grades", "row", "tops", "bottom", "levels", "total", "low", "high", "start", "i", "grade"]
abbrev P_rise_worth : List Str := ["world", "grades"]
theorem sc_rise_worth : FnScope N_rise_worth P_rise_worth (defScope s_rise_worth) := ⟨rfl, rfl, rfl, by decide +kernel, rfl, by decide +kernel, by decide +kernel⟩
/-- the lot of the places with at least h -/
def ups (gs : List Int) (h : Int) : Nat := msk ((List.range gs.length).filterMap fun i => if h ≤ gs.getD i 0 then some i else none)
def riseT (w : Wd) (gs lv : List Int) : Int := sm (lv.length - 1) fun k => (lv.getD (k + 1) 0 - lv.getD k 0) * rF w (ups gs (lv.getD (k + 1) 0))
theorem ups_test {gs : List Int} {h : Int} {i : Nat} : (ups gs h).testBit i = true ↔ i < gs.length ∧ h ≤ gs.getD i 0 := by
  unfold ups
  rw [msk_test, decide_eq_true_eq, List.mem_filterMap]
  constructor
  · rintro ⟨j, hj, e⟩
    split at e
    · rename_i hh
      cases e
      exact ⟨List.mem_range.mp hj, hh⟩
    · cases e
  · rintro ⟨h1, h2⟩
    exact ⟨i, List.mem_range.mpr h1, by rw [if_pos h2]⟩
theorem ups_lt (gs : List Int) (h : Int) : ups gs h < 2 ^ gs.length := msk_lt fun p hp => by
  obtain ⟨j, hj, e⟩ := List.mem_filterMap.mp hp
  split at e
  · cases e; exact List.mem_range.mp hj
  · cases e
def sp_rise_worth (K : PySem.W.Frag) : Sp := fun vs H Q E =>
  (∃ (G : Hp) (w : Wd) (u v : V) (gs : List Int), Ex G H ∧ WOk w ∧ WR K G u w ∧ Ls IR G v gs ∧ gs.length = w.n ∧ (∀ x ∈ gs, pw 50 x) ∧ vs = [u, v] ∧ ∀ r G' H', Stp G H G' H' → (∃ lv : List Int, lv.Pairwise (· < ·) ∧ (∀ x, x ∈ lv ↔ x ∈ gs) ∧ FR G' r (lowf (riseT w gs lv) (rB w))) → Q r H') ∨
  (∃ (G : Hp) (w : Wd) (u v : V) (Ts : List String) (i : Int), Ex G H ∧ WOk w ∧ WR K G u w ∧ Ls TR G v Ts ∧ Ts.length ≤ 1000 ∧ (∀ T ∈ Ts, KnT T) ∧ vs = [u, v] ∧ BadAt Ts w.n i ∧ ∀ G' H' d, Stp G H G' H' → H' d = some (.xd [("at", .int i)]) → E (.ref (ga K "BadGrades")) (some d) H')
theorem ok_rise_worth {P : Program} {w : World} {K : PySem.W.Frag} {mg : Str → Option Value} {base : Heap} {k : Nat} (T : Tx K mg) (G__rise_need : Ok P w K mg base k "_rise_need" P__rise_need (sp__rise_need K)) (G_grades_of : OkE P w K mg base k "grades_of" P_grades_of (sp_grades_of K))
    (G__rise_tops : Ok P w K mg base k "_rise_tops" P__rise_tops (sp__rise_tops K)) (G_bits_of : Ok P w K mg base k "bits_of" P_bits_of (sp_bits_of K)) (G_ratio : Ok P w K mg base k "ratio" P_ratio (sp_ratio K)) : OkE P w K mg base (k + 1) "rise_worth" P_rise_worth (sp_rise_worth K) := by
  obtain ⟨fd__rise_need, G__rise_need, B__rise_need, K__rise_need⟩ := G__rise_need
  obtain ⟨fd_grades_of, G_grades_of, B_grades_of, K_grades_of⟩ := G_grades_of
  obtain ⟨fd__rise_tops, G__rise_tops, B__rise_tops, K__rise_tops⟩ := G__rise_tops
  obtain ⟨fd_bits_of, G_bits_of, B_bits_of, K_bits_of⟩ := G_bits_of
  obtain ⟨fd_ratio, G_ratio, B_ratio, K_ratio⟩ := G_ratio
  refine okE_of T.d_rise_worth sc_rise_worth (fun _ _ _ _ _ _ us hl => match us, hl with | [_, _], _ => rfl) (fun vs H Q E h => ?_) (fun f cdv A outer s H vs Q E hr h => ?_)
  · rcases h with ⟨_, _, _, _, _, _, _, _, _, _, _, rfl, _⟩ | ⟨_, _, _, _, _, _, _, _, _, _, _, _, rfl, _⟩ <;> rfl
  · refine ⟨_, (pss_cons (ps_expr (pe_call G__rise_need hr (by rfl) T.g__rise_need K__rise_need B__rise_need .nil pass0 (pa_cons (pv 0) pa_nil)))
      (pss_cons (ps_set (i := 2) sc_rise_worth.nd rfl (by first | exact Or.inl rfl | exact Or.inr rfl) (pe_call G_grades_of hr (by rfl) T.g_grades_of K_grades_of B_grades_of .nil (passes_call (takes_of rfl rfl rfl rfl) (fun _ _ _ _ h => h)) (pa_cons (pv 1) (pa_cons (pe_slotX (sclsX T.scls) (slotX T.sl_size) (pv 0)) pa_nil))))
      (pss_cons (ps_asg (pe_call G__rise_tops hr (by rfl) T.g__rise_tops K__rise_tops B__rise_tops .nil pass0 (pa_cons (pv 0) pa_nil)) (pg_tup (by rfl) (pgs_cons (pg_name (i := 3) sc_rise_worth.nd rfl (by first | exact Or.inl rfl | exact Or.inr rfl)) (pgs_cons (pg_name (i := 4) sc_rise_worth.nd rfl (by first | exact Or.inl rfl | exact Or.inr rfl)) pgs_nil))))
      (pss_cons (ps_set (i := 5) sc_rise_worth.nd rfl (by first | exact Or.inl rfl | exact Or.inr rfl) (pe_callB (cr_sortedSet rfl) (by rfl) T.f_sorted (by decide +kernel) (pa_cons (pe_callTy (cr_setTI rfl) (by rfl) T.f_set (by decide +kernel) (pa_cons (pv 2) pa_nil)) pa_nil)))
      (pss_cons (ps_set (i := 6) sc_rise_worth.nd rfl (by first | exact Or.inl rfl | exact Or.inr rfl) pe_int)
      (pss_cons (ps_for (passes_of rfl) rfl (pi_zip (by rfl) T.f_zip (pa_cons (pv 5) (pa_cons (pe_slice sl_list (pv 5) (po_some pe_int) po_none) pa_nil))) (pg_tup (by rfl) (pgs_cons (pg_name (i := 7) sc_rise_worth.nd rfl (by first | exact Or.inl rfl | exact Or.inr rfl)) (pgs_cons (pg_name (i := 8) sc_rise_worth.nd rfl (by first | exact Or.inl rfl | exact Or.inr rfl)) pgs_nil))) (pss_cons (ps_set (i := 9) sc_rise_worth.nd rfl (by first | exact Or.inl rfl | exact Or.inr rfl) (pe_call G_bits_of hr (by rfl) T.g_bits_of K_bits_of B_bits_of .nil pass0 (pa_cons (pe_lc (own := [("i", 10), ("grade", 11)]) (g := (gTup K 2 (gCons (gName 10) (gCons (gName 11) gNil)))) (tt := (tTest (tOp qGe (tVar 11) (tVar 8)))) (te := (tVar 10)) (by rfl) sc_rise_worth.nd (pi_enumT (by rfl) T.f_enumerate (pa_cons (pv 2) pa_nil)) (blkOk_by (by kernel_rfl)) (fun _ _ _ _ _ => (pg_tup (by rfl) (pgs_cons (pg_name (i := 10) sc_rise_worth.nd rfl (by first | exact Or.inl rfl | exact Or.inr rfl)) (pgs_cons (pg_name (i := 11) sc_rise_worth.nd rfl (by first | exact Or.inl rfl | exact Or.inr rfl)) pgs_nil)))) (fun _ _ _ _ _ => (pts_one (pt_cmpR op_ge (pv 11) (pv 8) (nomark _)))) (fun _ _ _ _ _ => (pv 10))) pa_nil)))
      (pss_one (ps_aug (i := 6) sc_rise_worth.nd rfl (by first | exact Or.inl rfl | exact Or.inr rfl) (pe_op op_mulX (pe_op op_sub (pv 8) (pv 7)) (pe_ix ix_list (pv 3) (pv 9) (fun _ _ => rfl))) ip_add))))
      (pss_one (ps_ret (pe_call G_ratio hr (by rfl) T.g_ratio K_ratio B_ratio .nil pass0 (pa_cons (pv 6) (pa_cons (pv 4) pa_nil))))))))))), ?_⟩
    rcases h with ⟨G, w', u, v, gs, e, hw, hu, hv, hl, hp, rfl, q⟩ | ⟨G, w', u, v, Ts, i, e, hw, hu, hv, hl, hk, rfl, hb, q⟩
    · have n4 := hw.n4
      have n2 := hw.n2
      obtain ⟨p1, p2⟩ := hw.p
      refine Ev.run (te := tCall (sp__rise_need K) [] E0 (tCons (tVar 0) tNil)) (R := VR) (x := .non) (ev_call w' (ea_cons (R := WR K) (ev_var rfl hu) ea_nil) (fun vs G' _ h => ⟨hw, h⟩) (fun _ _ h => h)) e fun _ G1 H1 s1 _ => ?_
      have hu1 := Mono.up s1.g hu
      dsimp only
      refine s_setCall (A := AC (Ls IR) gs (AC IR (w'.n : Int) A0)) ?_ s1.v fun vs G2 H2 s2 a2 => ?_
      · exact ea_cons (R := Ls IR) (x := gs) (ev_var rfl (Mono.up s1.g hv)) (ea_cons (R := IR) (x := (w'.n : Int)) (ev_size (w := w') (ev_var rfl hu1)) ea_nil)
      obtain ⟨v', n', rfl, rv', rfl⟩ := ac2 a2
      refine .inl ⟨G2, v', gs, s2.v, rv', by omega, by rw [hl], fun rw_ G3 H3 s3 r3 => ?_⟩
      have S3 := s1.trans (s2.trans s3)
      refine s_asg (R := P2 (Ls IR) IR) (x := (([0] ++ (List.range (2 ^ w'.n - 2)).map (rX w')) ++ [0], rB w')) ?_ s3.v fun x G4 H4 s4 r4 => ?_
      · exact ev_call w' (ea_cons (R := WR K) (ev_var rfl (Mono.up (s2.g.trans s3.g) hu1)) ea_nil) (fun vs G' _ h => ⟨hw, h⟩) (fun _ _ h => h)
      refine g_pair s4.v r4 fun tp bt r5 r6 => ?_
      obtain rfl := r6
      dsimp only at r5
      have S4 := S3.trans s4
      refine s_levels (gs := gs) (ev_var rfl (Mono.up s4.g r3)) (by omega) s4.v fun lv lvv G5 H5 s5 hpw hmem hll r7 => ?_
      have S5 := S4.trans s5
      refine s_set (R := IR) (x := 0) ev_int s5.v fun x G6 H6 s6 r8 => ?_
      obtain rfl := r8
      have S6 := S5.trans s6
      have bnd : ∀ k, k < lv.length → pw 50 (lv.getD k 0) := fun k hk => by
        rw [getD_of (List.getElem?_eq_getElem hk)]
        exact hp _ ((hmem _).mp (List.getElem_mem hk))
      have cl : cutL lv (some 1) none = lv.drop 1 := by
        by_cases z : 1 ≤ lv.length
        · exact cut_from lv 1 z
        · have : lv = [] := List.eq_nil_of_length_eq_zero (by omega)
          subst this; rfl
      have iz := ei_zip (K := K) (R := IR) (S := IR) (xs := lv) (ys := cutL lv (some 1) none) (ea_cons (ev_var (σ := [some u, some v, some rw_, some tp, some (.int (rB w')), some lvv, some (.int 0), none, none, none, none, none]) (i := 5) (H := H6) rfl (Mono.up s6.g r7)) (ea_cons (ev_sl (K := K) (ev_var (i := 5) rfl (Mono.up s6.g r7)) (eo_some ev_int) eo_none) ea_nil))
      rw [cl, List.length_drop, show min lv.length (lv.length - 1) = lv.length - 1 by omega] at iz
      refine s_for (I := fun i σ G' H' => Stp G H G' H' ∧ ∃ c7 c8 c9, σ = [some u, some v, some rw_, some tp, some (.int (rB w')), some lvv, some (.int (sm i fun k => (lv.getD (k + 1) 0 - lv.getD k 0) * rF w' (ups gs (lv.getD (k + 1) 0)))), c7, c8, c9, none, none]) iz s6.v ?_ ?_ ?_
      · exact fun G7 H7 s7 => ⟨S6.trans s7, _, _, _, rfl⟩
      · rintro i x σ Gp Hq G' H' G1' hi e1 e2 ⟨S7, c7, c8, c9, rfl⟩ s8 ⟨x1, x2, hx1, hx2, rp⟩
        rw [List.getElem?_drop, Nat.add_comm 1 i] at hx2
        refine g_pair s8.v rp fun w1 w2 q1 q2 => ?_
        obtain rfl := q1
        obtain rfl := q2
        have S8 := S7.trans s8
        have g8 := s6.g.trans (e1.trans (e2.trans s8.g))
        have row8 := Mono.up ((s4.g.trans s5.g).trans g8) r3
        have tp8 := Mono.up (s5.g.trans g8) r5
        have ll : ((List.range gs.length).filterMap fun i => if x2 ≤ gs.getD i 0 then some i else none).length ≤ 4 := Nat.le_trans (List.length_filterMap_le _ _) (by rw [List.length_range]; omega)
        refine s_set (R := IR) (x := (ups gs x2 : Nat)) ?_ s8.v fun x G9 H9 s9 r9 => ?_
        · refine ev_call ((List.range gs.length).filterMap fun i => if x2 ≤ gs.getD i 0 then some i else none) (ea_cons (R := Ls NR) (x := (List.range gs.length).filterMap fun i => if x2 ≤ gs.getD i 0 then some i else none) ?_ ea_nil) (fun vs G' _ h => ⟨⟨by omega, fun p hp => ?_⟩, by
              obtain ⟨a, b, h1, h2, h3⟩ := h
              exact ⟨a, b, h1, h2.sq, h3⟩⟩) (fun _ _ h => h)
          · refine ev_lcPF (U := NR) (T := IR) (S := NR) (by decide) (px := fun k => (k, gs.getD k 0)) ((ei_enumT (R := IR) (xs := gs) (ea_cons (ev_var rfl row8) ea_nil)).imp fun k G v hk ⟨y, hy, r⟩ => by rw [getD_of hy]; exact r) (by omega) (fun k w1 w2 G10 H10 hk s10 z1 z2 => ?_) (fun k w1 w2 y G10 H10 hk s10 z1 z2 hy => ?_)
            · obtain rfl := z2
              refine EvT.eq (et_test (ev_B0 (f := fun i j => decide (j ≤ i)) (ev_varI rfl) (ev_varI rfl))) ?_
              dsimp only
              by_cases z : x2 ≤ gs.getD k 0
              · rw [if_pos z, decide_eq_true z]; rfl
              · rw [if_neg z, decide_eq_false z]; rfl
            · obtain rfl := z1
              by_cases z : x2 ≤ gs.getD k 0
              · rw [if_pos z] at hy; cases hy; exact ev_var rfl rfl
              · rw [if_neg z] at hy; cases hy
          · obtain ⟨j, hj, e⟩ := List.mem_filterMap.mp hp
            split at e
            · cases e
              have := List.mem_range.mp hj
              omega
            · cases e
        · obtain rfl := r9
          have ul : ups gs x2 < 2 ^ w'.n := by rw [← hl]; exact ups_lt _ _
          have b1 := bnd i (by omega)
          have b2 := bnd (i + 1) (by omega)
          rw [getD_of hx1] at b1
          rw [getD_of hx2] at b2
          have bt : pw 600 (rF w' (ups gs x2)) := by
            show pw 600 (lotF _ _ _ _)
            unfold lotF
            split
            · show (0 : Nat) < _; exact Nat.two_pow_pos _
            · split
              · show (0 : Nat) < _; exact Nat.two_pow_pos _
              · exact hw.rsv.bX (by omega)
          refine s_aug1 (f := fun i j => i + j) (x := sm i fun k => (lv.getD (k + 1) 0 - lv.getD k 0) * rF w' (ups gs (lv.getD (k + 1) 0))) (y := (x2 - x1) * rF w' (ups gs x2)) rfl ?_ s9.v fun G10 H10 s10 => ?_
          · exact ev_I (ev_I0 (ev_varI rfl) (ev_varI rfl)) (ev_ixL (R := IR) (n := ups gs x2) (ev_var rfl (Mono.up s9.g tp8)) (ev_varI rfl) rfl (rinner_get hw ul)) (mulx (pws b2 b1) bt)
          · refine ⟨G10, e2.trans (s8.g.trans (s9.g.trans s10.g)), s10.v, S8.trans (s9.trans s10), some (.int x1), some (.int x2), some (.int (ups gs x2 : Nat)), ?_⟩
            show _ = [_, _, _, _, _, _, some (V.int (_ + (lv.getD (i + 1) 0 - lv.getD i 0) * rF w' (ups gs (lv.getD (i + 1) 0)))), _, _, _, _, _]
            rw [getD_of hx1, getD_of hx2]
            rfl
      · rintro σ G' H' e1 e2 ⟨S7, c7, c8, c9, rfl⟩
        obtain ⟨b1, b2⟩ := hw.rb
        refine s_ret (R := FR) (x := lowf (riseT w' gs lv) (rB w')) ?_ S7.v fun x G8 H8 s8 r => q x G8 H8 (S7.trans s8) ⟨lv, hpw, hmem, r⟩
        exact ev_call (riseT w' gs lv, rB w') (ea_consI (ev_varI rfl) (ea_consI (ev_varI rfl) ea_nil)) (fun vs G' _ h => ⟨⟨by show rB w' ≠ 0; omega, pw_mono b2⟩, by exact h⟩) (fun _ _ h => h)
    · refine Ev.run (te := tCall (sp__rise_need K) [] E0 (tCons (tVar 0) tNil)) (R := VR) (x := .non) (ev_call w' (ea_cons (R := WR K) (ev_var rfl hu) ea_nil) (fun vs G' _ h => ⟨hw, h⟩) (fun _ _ h => h)) e fun _ G1 H1 s1 _ => ?_
      have hu1 := Mono.up s1.g hu
      dsimp only
      refine s_setCall (A := AC (Ls TR) Ts (AC IR (w'.n : Int) A0)) ?_ s1.v fun vs G2 H2 s2 a2 => ?_
      · exact ea_cons (R := Ls TR) (x := Ts) (ev_var rfl (Mono.up s1.g hv)) (ea_cons (R := IR) (x := (w'.n : Int)) (ev_size (w := w') (ev_var rfl hu1)) ea_nil)
      obtain ⟨v', n', rfl, rv', rfl⟩ := ac2 a2
      exact .inr ⟨G2, v', Ts, w'.n, i, s2.v, rv', hl, hk, rfl, hb, fun G' H' d s3 hd => q G' H' d (s1.trans (s2.trans s3)) hd⟩

end Cy
namespace Cy
open PySem PySem.Spec PyProof.Rows L2 He
local macro_rules | `(tactic| tm_at "ex") => `(tactic| first
  | exact Ex.refl _ | assumption | exact Stp.g (by assumption) | exact Stp.v (by assumption)
  | (refine Ex.trans (Stp.g (by assumption)) ?_; tm_at "ex")
  | (refine Ex.trans (by assumption) ?_; tm_at "ex"))
local macro_rules | `(tactic| tm_at "rl") => `(tactic| first
  | exact rfl | assumption | (apply Mono.up; rotate_left; assumption; tm_at "ex"))
local macro_rules | `(tactic| tm_at "sc") => `(tactic| first | assumption | omega)
local macro_rules | `(tactic| tm_at "ev") => `(tactic| first
  | exact ev_int | exact ev_bl | assumption
  | (apply ev_varI; exact rfl)
  | (apply ev_var; exact rfl; tm_at "rl")
  | (apply ev_I0; tm_at "ev"; tm_at "ev")
  | (apply ev_B0; tm_at "ev"; tm_at "ev")
  | (apply ev_I; tm_at "ev"; tm_at "ev"; tm_at "sc")
  | (apply ev_un; tm_at "ev")
  | (apply ev_eqI; tm_at "ev"; tm_at "ev")
  | (apply ev_neI; tm_at "ev"; tm_at "ev")
  | (apply ev_fstI; tm_at "ev")
  | (apply ev_sndI; tm_at "ev")
  | (apply ev_max2; tm_at "ev"; tm_at "ev")
  | (apply ev_min2; tm_at "ev"; tm_at "ev")
  | (apply ev_abs; tm_at "ev")
  | (apply ev_int1; tm_at "ev")
  | (apply ev_bits; tm_at "ev")
  | (apply ev_gcd; tm_at "ev"; tm_at "ev")
  | (apply ev_len; tm_at "ev")
  | (apply ev_tup2; tm_at "ev"; tm_at "ev"))
local macro_rules | `(tactic| tm_at "ea") => `(tactic| first
  | exact ea_nil
  | (apply ea_consI; tm_at "ev"; tm_at "ea")
  | (apply ea_cons; tm_at "ev"; tm_at "ea"))
local macro_rules | `(tactic| tm_at "et") => `(tactic| first
  | (apply et_test; tm_at "ev")
  | (apply et_B; tm_at "ev")
  | (apply et_not; tm_at "et"))

open Cr
/-- isinstance(e, c), e the exception that the suite holds, its own dict at dd -/
def rIsED (K : PySem.W.Frag) (D a : Addr) (cls : Value) (d : Option Addr) : List V → Hp → VK → Prop := fun xs H Q => ∃ (c : V) (cv : Value) (b : Bool) (dd : Addr) (fs : List (Str × V)), xs = [.ref a, c] ∧ cls = .ref D ∧ d = some dd ∧ H dd = some (.xd fs) ∧ (∀ u, RelV c u → u = cv) ∧ PySem.W.kitOne K (.ref D) cv = some b ∧ Q (.bl b) H
theorem call_isED {X : Cx} {a D : Addr} {oe : Obj} {cls : Value} {d : Option Addr} {pn : List (Addr × Obj)} (C : ExcC X.K D) (hz : Zc cls d oe) (hf : ∃ vs, oe.data = .fields vs) : CallR (X.suite a ((a, oe) :: pn)) (.builtin "isinstance") (rIsED X.K D a cls d) := by
  intro pins s σ H xs us Q I r ⟨c, cv, b, dd, fs, ex, e1, e2, e3, hcv, e, q⟩
  subst ex e1 e2
  match us, r with
  | [_, t], .cons rx (.cons rt .nil) =>
    cases rx
    obtain rfl := hcv _ rt
    have pin := (I.pin (a, oe) (List.mem_append.mpr (.inl List.mem_cons_self))).1
    obtain ⟨mA, hns, _⟩ : ObjOk X.prog X.w H s.heap dd (.xd fs) := I.hok dd _ e3
    obtain ⟨od, ho, _⟩ := lookIn_ns hns
    have J : PySem.W.InstAt s.heap a oe D (some od) := ⟨pin, hz.1, by obtain ⟨vs, hv⟩ := hf; unfold PySem.W.notCls; rw [hv] <;> rfl, by rw [hz.2]; exact ho⟩
    have cl : (PySem.W.clsIn X.K D).isSome = true := by
      have h := C.hd
      unfold PySem.W.hasDictIn at h
      cases z : PySem.W.clsIn X.K D with
      | none => rw [z] at h; cases h
      | some _ => rfl
    exact PySem.W.kia_one (PySem.W.kitx_exc cl C.hg C.hk C.hs C.ha C.hn C.ht C.hm) I.kIn J e (fun z => nomatch z) fun tk => ⟨.bl b, H, I.kept (t' := tk) fun _ _ z => z, rfl, q⟩
abbrev N__law_refused : List Str := ["_law_world", "_law_asked", "error"]
abbrev P__law_refused : List Str := ["_law_world", "_law_asked"]
theorem sc__law_refused : FnScope N__law_refused P__law_refused (defScope s__law_refused) := ⟨rfl, rfl, rfl, by decide +kernel, rfl, by decide +kernel, by decide +kernel⟩
def RfR (i : Int) (G : Hp) (v : V) : Prop := ∃ a, v = .ref a ∧ G a = some (.tup [.str "at", .int i, .bl true])
def sp__law_refused (K : PySem.W.Frag) : Sp := fun vs H Q _ => ∃ (G : Hp) (w : Wd) (u v : V) (Ts : List String) (i : Int), Ex G H ∧ WOk w ∧ WR K G u w ∧ Ls TR G v Ts ∧ Ts.length ≤ 1000 ∧ (∀ T ∈ Ts, KnT T) ∧ vs = [u, v] ∧ BadAt Ts w.n i ∧ ∀ r G' H', Stp G H G' H' → RfR i G' r → Q r H'
theorem ok__law_refused {P : Program} {w : World} {K : PySem.W.Frag} {mg : Str → Option Value} {base : Heap} {k : Nat} (T : Tx K mg) (G_rise_worth : OkE P w K mg base k "rise_worth" P_rise_worth (sp_rise_worth K)) : Ok P w K mg base (k + 1) "_law_refused" P__law_refused (sp__law_refused K) := by
  obtain ⟨fd_rise_worth, G_rise_worth, B_rise_worth, K_rise_worth⟩ := G_rise_worth
  refine ok_of T.d__law_refused sc__law_refused (fun _ _ _ _ _ _ us hl => match us, hl with | [_, _], _ => rfl) (fun vs H Q E h => ?_) (fun f cdv A outer s H vs Q E hr h => ?_)
  · obtain ⟨_, _, _, _, _, _, _, _, _, _, _, _, rfl, _⟩ := h; rfl
  · refine ⟨_, (pss_cons (ps_try_as rfl rfl sc__law_refused.nd (i := 2) rfl rfl ⟨by rfl, by decide, .inl T.g_BadGrades⟩ takes0
      (fun W pn xe tk po => pss_one (ps_expr (pe_callS G_rise_worth hr (by rfl) T.g_rise_worth K_rise_worth B_rise_worth (fun σ => passAt tk σ) (pa_cons (pv 0) (pa_cons (pv 1) pa_nil)))))
      (fun a oe cls d pn hz hf => pss_one (ps_ret (pe_tup (pa_cons pe_str (pa_cons (pe_xf T.exc.1 T.bg.2.2.1 hz hf (pv 2)) (pa_cons (pe_and (pe_callB (call_isED T.exc.2 hz hf) (by rfl) T.f_isinstance (by decide +kernel) (pa_cons (pv 2) (pa_cons (pe_glob (v := .ref (ga K "RatesError")) (by rfl) T.g_RatesError rfl) pa_nil))) (pe_one (pe_not (pe_callB (call_isED T.exc.2 hz hf) (by rfl) T.f_isinstance (by decide +kernel) (pa_cons (pv 2) (pa_cons (pe_glob (v := .ref (ga K "BadLot")) (by rfl) T.g_BadLot rfl) pa_nil)))))) pa_nil)))))))
      (pss_one (ps_ret (pe_tup (pa_cons pe_str (pa_cons pe_int (pa_cons pe_bl pa_nil))))))), ?_⟩
    obtain ⟨G, w', u, v, Ts, i, e, hw, hu, hv, hl, hk, rfl, hb, q⟩ := h
    refine ⟨u, rfl, v, rfl, .inr ⟨G, w', u, v, Ts, i, e, hw, hu, hv, hl, hk, rfl, hb, fun G' H' d s1 hd => ?_⟩⟩
    refine ⟨true, T.bg.2.2.2.1, fun _ a ha => ?_, fun z => by cases z⟩
    have S := s1
    have el : (ga K "BadGrades", d) = (ga K "BadGrades", d) := rfl
    refine ⟨.ref a, rfl, rfl, rfl, d, _, .int i, rfl, hd, rfl, ?_⟩
    refine ⟨.ref a, rfl, .ref (ga K "RatesError"), .ref (ga K "RatesError"), true, d, _, rfl, rfl, rfl, hd, fun _ h => h, T.bg.2.2.2.2.1, true, rfl, iteT ?_⟩
    refine ⟨.ref a, rfl, .ref (ga K "BadLot"), .ref (ga K "BadLot"), false, d, _, rfl, rfl, rfl, hd, fun _ h => h, T.bg.2.2.2.2.2, false, rfl, ?_⟩
    refine ⟨by show 3 ≤ sizeLine; decide, fun p hp => ?_⟩
    exact q (.ref p) _ _ (s1.trans (Stp.new s1.v hp)) ⟨p, rfl, upd_same⟩

end Cy
/-! the law's pool: an own list of the caller that shrinks; own tables -/
namespace Cy
open PySem PySem.Spec PyProof.Rows L2 He Cr
/-- as Stp, but what stands at X may change -/
structure XS (X : Addr → Prop) (G H G' H' : Hp) : Prop where
  h : ∀ b o, ¬ X b → H b = some o → H' b = some o
  g : Ex G G'
  v : Ex G' H'
  n : ∀ b o, H b = some o → G b = none → G' b = none
/-- the pool at pl, not shown -/
def PL (H : Hp) (pl : Addr) : Prop := ∃ ns : List Int, H pl = some (.lst (ns.map V.int)) ∧ ns.length ≤ 10000
structure PS (pl : Addr) (G H G' H' : Hp) : Prop where
  x : XS (fun b => b = pl) G H G' H'
  a : G pl = none
  b : PL H pl
  c : PL H' pl
section
variable {X Y : Addr → Prop} {pl p : Addr} {o : HO} {G H G1 H1 G2 H2 : Hp}
theorem XS.refl (e : Ex G H) : XS X G H G H := ⟨fun _ _ _ h => h, Ex.refl G, e, fun _ _ _ h => h⟩
theorem Stp.xs (s : Stp G H G1 H1) : XS X G H G1 H1 := ⟨fun b o _ h => s.h b o h, s.g, s.v, s.n⟩
theorem XS.stp (a : XS X G H G1 H1) (b : Stp G1 H1 G2 H2) (hx : ∀ b o, H b = some o → X b → G b = none → G2 b = none) : XS X G H G2 H2 :=
  ⟨fun x o nx h => b.h x o (a.h x o nx h), a.g.trans b.g, b.v, fun x o h g => by
    by_cases q : X x
    · exact hx x o h q g
    · exact b.n x o (a.h x o q h) (a.n x o h g)⟩
/-- a wider change of what is not of the start -/
theorem XS.wide (a : XS X G H G1 H1) (b : XS Y G1 H1 G2 H2) (hy : ∀ b, Y b → ¬ X b → H b = none) (hx : ∀ b o, H b = some o → X b → G b = none → G2 b = none) : XS X G H G2 H2 :=
  ⟨fun x o nx h => by
    exact b.h x o (fun y => by rw [hy x y nx] at h; cases h) (a.h x o nx h), a.g.trans b.g, b.v, fun x o h g => by
    by_cases q : X x
    · exact hx x o h q g
    · exact b.n x o (a.h x o q h) (a.n x o h g)⟩
theorem PL.some (h : PL H pl) : ∃ o, H pl = some o := let ⟨_, e, _⟩ := h; ⟨_, e⟩
theorem PL.ne (h : PL H pl) (hp : H p = none) : p ≠ pl := fun z => by obtain ⟨o, e⟩ := h.some; rw [← z, hp] at e; cases e
theorem PL.stp (h : PL H pl) (s : Stp G H G1 H1) : PL H1 pl := let ⟨ns, e, l⟩ := h; ⟨ns, s.h _ _ e, l⟩
theorem PL.mut (h : PL H pl) (ne : p ≠ pl) : PL (upd H p o) pl := let ⟨ns, e, l⟩ := h; ⟨ns, by rw [upd_ne ne.symm]; exact e, l⟩
theorem PS.refl (e : Ex G H) (a : G pl = none) (b : PL H pl) : PS pl G H G H := ⟨.refl e, a, b, b⟩
theorem PS.a1 (s : PS pl G H G1 H1) : G1 pl = none := let ⟨o, e⟩ := s.b.some; s.x.n _ _ e s.a
theorem PS.stp (a : PS pl G H G1 H1) (b : Stp G1 H1 G2 H2) : PS pl G H G2 H2 := by
  obtain ⟨o, e⟩ := a.c.some
  have g2 := b.n _ _ e a.a1
  exact ⟨a.x.stp b (fun x _ _ q _ => by rw [q]; exact g2), a.a, a.b, a.c.stp b⟩
theorem PS.trans (a : PS pl G H G1 H1) (b : PS pl G1 H1 G2 H2) : PS pl G H G2 H2 := by
  exact ⟨a.x.wide b.x (fun x q nq => absurd q nq) (fun x _ _ q _ => by rw [q]; exact b.a1), a.a, a.b, b.c⟩
theorem Stp.ps (s : Stp G H G1 H1) (e : Ex G H) (a : G pl = none) (b : PL H pl) : PS pl G H G1 H1 := (PS.refl e a b).stp s
theorem PS.own (a : PS pl G H G1 H1) (h : H1 p = none) : PS pl G H G1 (upd H1 p o) := by
  have ne := a.c.ne h
  exact ⟨⟨fun b u nb hb => by rw [upd_ne (ne_of_none (a.x.h b u nb hb) h)]; exact a.x.h b u nb hb, a.x.g, a.x.v.trans (Ex.new h), a.x.n⟩, a.a, a.b, a.c.mut ne⟩
/-- an own object changes -/
theorem PS.mut (a : PS pl G H G1 H1) (h : H p = none) (g : G1 p = none) : PS pl G H G1 (upd H1 p o) := by
  have ne := a.b.ne h
  exact ⟨⟨fun b u nb hb => by rw [upd_ne (ne_of_none hb h)]; exact a.x.h b u nb hb, a.x.g, a.x.v.mut g, a.x.n⟩, a.a, a.b, a.c.mut ne⟩
/-- an own object is shown -/
theorem PS.add (a : PS pl G H G1 H1) (h : H p = none) (g : G1 p = none) (e : H1 p = some o) : PS pl G H (upd G1 p o) H1 :=
  ⟨⟨a.x.h, a.x.g.trans (Ex.new g), a.x.v.add e, fun b u hb z => by rw [upd_ne (ne_of_none hb h)]; exact a.x.n b u hb z⟩, a.a, a.b, a.c⟩
theorem PS.e (a : PS pl G H G1 H1) : Ex G1 H1 := a.x.v
theorem PS.eg (a : PS pl G H G1 H1) : Ex G G1 := a.x.g
end
/-! own tables -/
structure OM (H0 G H : Hp) (a : Addr) (bs : List Addr) (M : Mx) : Prop where
  a0 : H0 a = none
  ga : G a = none
  ea : H a = some (.lst (bs.map V.ref))
  nd : (a :: bs).Nodup
  rows : Paired (fun b r => H b = some (.lst (r.map V.int)) ∧ G b = none ∧ H0 b = none) bs M
def put2 (M : Mx) (i j : Nat) (x : Int) : Mx := M.set i ((M.getD i []).set j x)
section
variable {H0 G H G1 H1 : Hp} {a b pl p : Addr} {bs : List Addr} {M : Mx} {i j : Nat} {x : Int} {r : List Int}
theorem paired_all {α β : Type} {F : α → β → Prop} {F' : α → β → Prop} : ∀ {l : List α} {l' : List β}, Paired F l l' → (∀ a b, a ∈ l → F a b → F' a b) → Paired F' l l'
  | _, _, .nil, _ => .nil
  | _, _, .cons a r, h => .cons (h _ _ List.mem_cons_self a) (paired_all r fun x y hx => h x y (List.mem_cons_of_mem _ hx))
theorem OM.stp (h : OM H0 G H a bs M) (s : Stp G H G1 H1) : OM H0 G1 H1 a bs M :=
  ⟨h.a0, s.n _ _ h.ea h.ga, s.h _ _ h.ea, h.nd, paired_imp (fun b r ⟨e, g, z⟩ => ⟨s.h _ _ e, s.n _ _ e g, z⟩) h.rows⟩
theorem OM.ps (h : OM H0 G H a bs M) (s : PS pl G H G1 H1) (h0 : PL H0 pl) : OM H0 G1 H1 a bs M :=
  ⟨h.a0, s.x.n _ _ h.ea h.ga, s.x.h _ _ (h0.ne h.a0) h.ea, h.nd, paired_imp (fun b r ⟨e, g, z⟩ => ⟨s.x.h _ _ (h0.ne z) e, s.x.n _ _ e g, z⟩) h.rows⟩
theorem OM.row (h : OM H0 G H a bs M) (hr : M[i]? = some r) : ∃ b, bs[i]? = some b ∧ (bs.map V.ref)[i]? = some (.ref b) ∧ H b = some (.lst (r.map V.int)) ∧ G b = none ∧ H0 b = none := by
  obtain ⟨b, e, f⟩ := paired_get1 h.rows hr
  exact ⟨b, e, by rw [List.getElem?_map, e]; rfl, f⟩
theorem OM.len (h : OM H0 G H a bs M) : bs.length = M.length := paired_len h.rows
/-- another own object changes -/
theorem OM.mut {o : HO} (h : OM H0 G H a bs M) (ne : p ∉ a :: bs) : OM H0 G (upd H p o) a bs M := by
  have na : a ≠ p := fun z => ne (by rw [z]; exact List.mem_cons_self)
  refine ⟨h.a0, h.ga, by rw [upd_ne na]; exact h.ea, h.nd, paired_all h.rows fun b r hb ⟨e, g, z⟩ => ⟨?_, g, z⟩⟩
  have nb : b ≠ p := fun z => ne (by rw [← z]; exact List.mem_cons_of_mem _ hb)
  rw [upd_ne nb]; exact e
/-- an entry stored -/
theorem OM.put (h : OM H0 G H a bs M) (hr : M[i]? = some r) (hb : bs[i]? = some b) : OM H0 G (upd H b (.lst ((r.set j x).map V.int))) a bs (put2 M i j x) := by
  have mb : b ∈ bs := List.mem_of_getElem? hb
  have nd := List.nodup_cons.mp h.nd
  have na : a ≠ b := fun z => nd.1 (z ▸ mb)
  refine ⟨h.a0, h.ga, by rw [upd_ne na]; exact h.ea, h.nd, paired_of ?_ fun k hk => ?_⟩
  · unfold put2; rw [List.length_set]; exact h.len
  · obtain ⟨c, hc⟩ : ∃ c, bs[k]? = some c := ⟨_, List.getElem?_eq_getElem hk⟩
    obtain ⟨y, hy, e, g, z⟩ := paired_get2 h.rows hc
    unfold put2
    rw [getD_of hr]
    by_cases ei : k = i
    · subst ei
      rw [hb] at hc
      cases hc
      exact ⟨b, r.set j x, hb, by rw [List.getElem?_set_self (by rw [← h.len]; exact hk)], upd_same, g, z⟩
    · refine ⟨c, y, hc, by rw [List.getElem?_set_ne (Ne.symm ei)]; exact hy, ?_, g, z⟩
      have nc : c ≠ b := fun q => by
        subst q
        have := nd_ix nd.2 hc hb
        exact ei this
      rw [upd_ne nc]; exact e
theorem put2_at {n : Nat} (hS : Sqm n M) (hi : i < n) (hj : j < n) (i' j' : Nat) : at2 (put2 M i j x) i' j' = if i' = i ∧ j' = j then x else at2 M i' j' := by
  obtain ⟨r, er, hl, _⟩ := hS.row hi
  have li : i < M.length := by rw [hS.l]; exact hi
  unfold at2 put2
  rw [getD_of er]
  by_cases ei : i' = i
  · subst ei
    rw [getD_of (List.getElem?_set_self li), getD_of er]
    by_cases ej : j' = j
    · subst ej
      rw [if_pos ⟨rfl, rfl⟩, getD_of (List.getElem?_set_self (by omega))]
    · rw [if_neg (fun z => ej z.2), List.getD_eq_getElem?_getD, List.getD_eq_getElem?_getD, List.getElem?_set_ne (Ne.symm ej)]
  · have e : (M.set i (r.set j x)).getD i' [] = M.getD i' [] := by rw [List.getD_eq_getElem?_getD, List.getElem?_set_ne (Ne.symm ei), ← List.getD_eq_getElem?_getD]
    rw [if_neg (fun z => ei z.1), e]
theorem put2_sq {n : Nat} (hS : Sqm n M) (hi : i < n) : Sqm n (put2 M i j x) := by
  obtain ⟨r, er, hl, _⟩ := hS.row hi
  unfold put2
  rw [getD_of er]
  refine ⟨by rw [List.length_set, hS.l], fun y hy => ?_⟩
  rcases List.mem_or_eq_of_mem_set hy with h | h
  · exact hS.r y h
  · rw [h, List.length_set, hl]
end
end Cy
namespace Cy
open PySem PySem.Spec PyProof.Rows L2 He
local macro_rules | `(tactic| tm_at "ex") => `(tactic| first
  | exact Ex.refl _ | assumption | exact Stp.g (by assumption) | exact Stp.v (by assumption)
  | (refine Ex.trans (Stp.g (by assumption)) ?_; tm_at "ex")
  | (refine Ex.trans (by assumption) ?_; tm_at "ex"))
local macro_rules | `(tactic| tm_at "rl") => `(tactic| first
  | exact rfl | assumption | (apply Mono.up; rotate_left; assumption; tm_at "ex"))
local macro_rules | `(tactic| tm_at "sc") => `(tactic| first | assumption | omega)
local macro_rules | `(tactic| tm_at "ev") => `(tactic| first
  | exact ev_int | exact ev_bl | assumption
  | (apply ev_varI; exact rfl)
  | (apply ev_var; exact rfl; tm_at "rl")
  | (apply ev_I0; tm_at "ev"; tm_at "ev")
  | (apply ev_B0; tm_at "ev"; tm_at "ev")
  | (apply ev_I; tm_at "ev"; tm_at "ev"; tm_at "sc")
  | (apply ev_un; tm_at "ev")
  | (apply ev_eqI; tm_at "ev"; tm_at "ev")
  | (apply ev_neI; tm_at "ev"; tm_at "ev")
  | (apply ev_fstI; tm_at "ev")
  | (apply ev_sndI; tm_at "ev")
  | (apply ev_max2; tm_at "ev"; tm_at "ev")
  | (apply ev_min2; tm_at "ev"; tm_at "ev")
  | (apply ev_abs; tm_at "ev")
  | (apply ev_int1; tm_at "ev")
  | (apply ev_bits; tm_at "ev")
  | (apply ev_gcd; tm_at "ev"; tm_at "ev")
  | (apply ev_len; tm_at "ev")
  | (apply ev_tup2; tm_at "ev"; tm_at "ev"))
local macro_rules | `(tactic| tm_at "ea") => `(tactic| first
  | exact ea_nil
  | (apply ea_consI; tm_at "ev"; tm_at "ea")
  | (apply ea_cons; tm_at "ev"; tm_at "ea"))
local macro_rules | `(tactic| tm_at "et") => `(tactic| first
  | (apply et_test; tm_at "ev")
  | (apply et_B; tm_at "ev")
  | (apply et_not; tm_at "et"))

open Cr
/-! ### draws -/
def Pl (G H : Hp) (pl : Addr) : Prop := G pl = none ∧ PL H pl
theorem Pl.ps {G H G1 H1 : Hp} {pl : Addr} (s : PS pl G H G1 H1) : Pl G1 H1 pl := ⟨s.a1, s.c⟩
theorem Pl.stp {G H G1 H1 : Hp} {pl : Addr} (h : Pl G H pl) (s : Stp G H G1 H1) : Pl G1 H1 pl := ⟨let ⟨_, e⟩ := h.2.some; s.n _ _ e h.1, h.2.stp s⟩
theorem Pl.refl {G H : Hp} {pl : Addr} (h : Pl G H pl) (e : Ex G H) : PS pl G H G H := PS.refl e h.1 h.2
theorem PS.upd_pl {G H G1 H1 : Hp} {pl : Addr} {ns : List Int} (s : PS pl G H G1 H1) (hl : ns.length ≤ 10000) : PS pl G H G1 (upd H1 pl (.lst (ns.map V.int))) :=
  ⟨⟨fun b o nb hb => by rw [upd_ne nb]; exact s.x.h b o nb hb, s.x.g, s.x.v.mut s.a1, s.x.n⟩, s.a, s.b, ns, upd_same, hl⟩
abbrev N__law_pick : List Str := ["_law_pool_here", "_law_many"]
abbrev P__law_pick : List Str := ["_law_pool_here", "_law_many"]
theorem sc__law_pick : FnScope N__law_pick P__law_pick (defScope s__law_pick) := ⟨rfl, rfl, rfl, by decide +kernel, rfl, by decide +kernel, by decide +kernel⟩
def sp__law_pick (K : PySem.W.Frag) : Sp := fun vs H Q _ => ∃ (G : Hp) (pl : Addr) (m : Nat), Ex G H ∧ Pl G H pl ∧ 0 < m ∧ vs = [.ref pl, .int (m : Int)] ∧ ∀ (v : Nat) G' H', v < m → PS pl G H G' H' → Q (.int (v : Int)) H'
theorem len__law_pick {K : PySem.W.Frag} {vs : List V} {H : Hp} {Q : VK} {E : XK} (h : sp__law_pick K vs H Q E) : vs.length = P__law_pick.length := by
  obtain ⟨_, _, _, _, _, _, rfl, _⟩ := h; rfl
theorem ok__law_pick {P : Program} {w : World} {K : PySem.W.Frag} {mg : Str → Option Value} {base : Heap} {k : Nat} (T : Tx K mg)  : Ok P w K mg base (k + 1) "_law_pick" P__law_pick (sp__law_pick K) := by
  refine ok_of T.d__law_pick sc__law_pick (fun _ _ _ _ _ _ us hl => match us, hl with | [_, _], _ => rfl) (fun vs H Q E h => ?_) (fun f cdv A outer s H vs Q E hr h => ?_)
  · exact len__law_pick h
  · refine ⟨_, (pss_cons (ps_if (pt_cmpR op_eq (pe_callB call_len_seq (by rfl) T.f_len PySem.boot_len (pa_cons (pv 0) pa_nil)) pe_int (nomark _)) (pss_one (ps_ret pe_int)) pss_nil)
      (pss_one (ps_ret (pe_op op_mod (pe_callTy call_int1 (by rfl) T.f_int (by decide +kernel) (pa_cons (pe_bm0 PySem.F.plainAttrs_list PySem.F.slot_list_pop PySem.F.type_list_pop mt_pop (pv 0)) pa_nil)) (pv 1))))), ?_⟩
    obtain ⟨G, pl, m, e, hp, hm, rfl, q⟩ := h
    obtain ⟨g, ns, hns, hl⟩ := hp
    refine s_ifn (b := decide (((ns.map V.int).length : Int) = 0)) (et_test (ev_eqI (ev_lenOwn rfl hns) ev_int)) e (fun G1 H1 s1 hb => ?_) (fun G1 H1 s1 hb => ?_)
    · refine s_ret (R := IR) (x := 0) ev_int s1.v fun v G2 H2 s2 r2 => ?_
      obtain rfl := r2
      exact q 0 G2 H2 hm ((PS.refl e g ⟨ns, hns, hl⟩).stp (s1.trans s2))
    · have hne := of_decide_eq_false hb
      have h1 := s1.h _ _ hns
      have ps1 := (PS.refl e g ⟨ns, hns, hl⟩).stp s1
      rcases List.eq_nil_or_concat ns with rfl | ⟨ns', y, rfl⟩
      · exact absurd rfl hne
      · rw [List.concat_eq_append] at *
        refine ⟨_, rfl, .inl ⟨rfl, _, SqL.of h1⟩, ⟨pl, _, .int y, rfl, rfl, h1, by simp, ?_⟩⟩
        refine .inl ⟨y, rfl, _, rfl, y, (m : Int), rfl, rfl, by omega, ?_⟩
        have e1 : ((ns' ++ [y]).map V.int).dropLast = ns'.map V.int := by simp
        rw [e1]
        have m0 : (m : Int) ≠ 0 := by omega
        have r0 := Int.emod_nonneg y m0
        have r1 := Int.emod_lt_of_pos y (by omega : (0 : Int) < m)
        have := q (y % (m : Int)).toNat G1 (upd H1 pl (.lst (ns'.map V.int))) (by omega) (ps1.upd_pl (by rw [List.length_append] at hl; omega))
        rw [Int.toNat_of_nonneg r0] at this
        exact this
section
variable {K : PySem.W.Frag} {σ : L2.St} {G H : Hp} {te : TE} {pl : Addr} {p m i : Nat} {E : XK} {u : TS} {D : Ends}
/-- _law_pick(pool, m) -/
theorem pick_run {Q : VK} (hp : σ[p]? = some (some (.ref pl))) (h : Ev te σ G H IR (m : Int)) (hm : 0 < m) (e : Ex G H) (a : Pl G H pl) (q : ∀ (v : Nat) G' H', v < m → PS pl G H G' H' → Q (.int (v : Int)) H') : tCall (sp__law_pick K) [] E (tCons (tVar p) (tCons te tNil)) σ H Q :=
  ⟨_, hp, h.run e fun v G1 H1 s1 r1 => by
    obtain rfl : v = .int (m : Int) := r1
    exact ⟨G1, pl, m, s1.v, a.stp s1, hm, rfl, fun v G' H' hv ps => q v G' H' hv (((a.refl e).stp s1).trans ps)⟩⟩
theorem s_pick (hp : σ[p]? = some (some (.ref pl))) (h : Ev te σ G H IR (m : Int)) (hm : 0 < m) (e : Ex G H) (a : Pl G H pl) (q : ∀ (v : Nat) G' H', v < m → PS pl G H G' H' → u D (σ.set i (some (.int (v : Int)))) H') : tSeq (tAsg (tCall (sp__law_pick K) [] E (tCons (tVar p) (tCons te tNil))) (gName i)) u D σ H :=
  pick_run hp h hm e a q
end
abbrev N__law_size : List Str := ["_law_pool_here", "_law_most"]
abbrev P__law_size : List Str := ["_law_pool_here", "_law_most"]
theorem sc__law_size : FnScope N__law_size P__law_size (defScope s__law_size) := ⟨rfl, rfl, rfl, by decide +kernel, rfl, by decide +kernel, by decide +kernel⟩
def sp__law_size (K : PySem.W.Frag) : Sp := fun vs H Q _ => ∃ (G : Hp) (pl : Addr), Ex G H ∧ Pl G H pl ∧ vs = [.ref pl, .int 4] ∧ ∀ (n : Nat) G' H', 2 ≤ n → n ≤ 4 → PS pl G H G' H' → Q (.int (n : Int)) H'
theorem len__law_size {K : PySem.W.Frag} {vs : List V} {H : Hp} {Q : VK} {E : XK} (h : sp__law_size K vs H Q E) : vs.length = P__law_size.length := by
  obtain ⟨_, _, _, _, rfl, _⟩ := h; rfl
/-- [..][_law_pick(pool, m)] -/
theorem choose_run {K : PySem.W.Frag} {σ : L2.St} {G H : Hp} {te : TE} {tr : TA} {pl : Addr} {p m : Nat} {E : XK} {xs : List Int} {Q : VK} (hl : AL IR σ G H tr xs) (hz : xs.length ≤ 100000) (hp : σ[p]? = some (some (.ref pl))) (h : ∀ G' H', Stp G H G' H' → Ev te σ G' H' IR (m : Int)) (hm : 0 < m) (hmx : m ≤ xs.length) (e : Ex G H) (a : Pl G H pl)
    (q : ∀ (v : Int) G' H', v ∈ xs → PS pl G H G' H' → Q (.int v) H') : tOp (rIxL K) (tLst tr) (tCall (sp__law_pick K) [] E (tCons (tVar p) (tCons te tNil))) σ H Q :=
  (ev_lst hl hz).run e fun v G1 H1 s1 r1 => by
    obtain ⟨b, us, rfl, hb, pr⟩ := r1
    rw [paired_ints pr] at hb
    refine pick_run hp (h G1 H1 s1) hm s1.v (a.stp s1) fun k G2 H2 hk ps => ?_
    have PSa := ((a.refl e).stp s1).trans ps
    have hb2 : H2 b = some (.lst (xs.map V.int)) := ps.x.v _ _ (ps.x.g _ _ hb)
    obtain ⟨x, hx⟩ : ∃ x, xs[k]? = some x := ⟨_, List.getElem?_eq_getElem (by omega)⟩
    exact ⟨b, _, (k : Int), .int x, rfl, rfl, SqL.of hb2, atI_nat (by rw [List.getElem?_map, hx]; rfl), q x G2 H2 (List.mem_of_getElem? hx) PSa⟩
theorem ok__law_size {P : Program} {w : World} {K : PySem.W.Frag} {mg : Str → Option Value} {base : Heap} {k : Nat} (T : Tx K mg) (G__law_pick : Ok P w K mg base k "_law_pick" P__law_pick (sp__law_pick K)) : Ok P w K mg base (k + 1) "_law_size" P__law_size (sp__law_size K) := by
  obtain ⟨fd__law_pick, G__law_pick, B__law_pick, K__law_pick⟩ := G__law_pick
  refine ok_of T.d__law_size sc__law_size (fun _ _ _ _ _ _ us hl => match us, hl with | [_, _], _ => rfl) (fun vs H Q E h => ?_) (fun f cdv A outer s H vs Q E hr h => ?_)
  · exact len__law_size h
  · refine ⟨_, (pss_one (ps_ret (pe_callB (call_min2 rfl) (by rfl) T.f_min (by decide +kernel) (pa_cons (pv 1) (pa_cons (pe_ix ix_list (pe_lst (pa_cons pe_int (pa_cons pe_int (pa_cons pe_int (pa_cons pe_int (pa_cons pe_int (pa_cons pe_int (pa_cons pe_int (pa_cons pe_int pa_nil))))))))) (pe_call G__law_pick hr (by rfl) T.g__law_pick K__law_pick B__law_pick .nil pass0 (pa_cons (pv 0) (pa_cons pe_int pa_nil))) (fun _ _ => rfl)) pa_nil))))), ?_⟩
    obtain ⟨G, pl, e, hp, rfl, q⟩ := h
    refine ⟨_, rfl, ?_⟩
    refine choose_run (xs := [3, 2, 3, 4, 3, 4, 5, 3]) (m := 8) (.cons ev_int (.cons ev_int (.cons ev_int (.cons ev_int (.cons ev_int (.cons ev_int (.cons ev_int (.cons ev_int .nil)))))))) (by decide) rfl (fun _ _ _ => ev_int) (by decide) (by decide) e hp fun v G1 H1 hv ps => ?_
    refine ⟨4, v, rfl, ?_⟩
    have : v = 2 ∨ v = 3 ∨ v = 4 ∨ v = 5 := by
      simp only [List.mem_cons, List.not_mem_nil, or_false] at hv
      omega
    rcases this with rfl | rfl | rfl | rfl
    · exact q 2 G1 H1 (by decide) (by decide) ps
    · exact q 3 G1 H1 (by decide) (by decide) ps
    · exact q 4 G1 H1 (by decide) (by decide) ps
    · exact q 4 G1 H1 (by decide) (by decide) ps
abbrev N__law_rate : List Str := ["_law_pool_here", "_law_word"]
abbrev P__law_rate : List Str := ["_law_pool_here"]
theorem sc__law_rate : FnScope N__law_rate P__law_rate (defScope s__law_rate) := ⟨rfl, rfl, rfl, by decide +kernel, rfl, by decide +kernel, by decide +kernel⟩
def sp__law_rate (K : PySem.W.Frag) : Sp := fun vs H Q _ => ∃ (G : Hp) (pl : Addr), Ex G H ∧ Pl G H pl ∧ vs = [.ref pl] ∧ ∀ (r : Int) G' H', 1 ≤ r → r ≤ 968 → PS pl G H G' H' → Q (.int r) H'
theorem len__law_rate {K : PySem.W.Frag} {vs : List V} {H : Hp} {Q : VK} {E : XK} (h : sp__law_rate K vs H Q E) : vs.length = P__law_rate.length := by
  obtain ⟨_, _, _, _, rfl, _⟩ := h; rfl
theorem ok__law_rate {P : Program} {w : World} {K : PySem.W.Frag} {mg : Str → Option Value} {base : Heap} {k : Nat} (T : Tx K mg) (G__law_pick : Ok P w K mg base k "_law_pick" P__law_pick (sp__law_pick K)) : Ok P w K mg base (k + 1) "_law_rate" P__law_rate (sp__law_rate K) := by
  obtain ⟨fd__law_pick, G__law_pick, B__law_pick, K__law_pick⟩ := G__law_pick
  refine ok_of T.d__law_rate sc__law_rate (fun _ _ _ _ _ _ us hl => match us, hl with | [_], _ => rfl) (fun vs H Q E h => ?_) (fun f cdv A outer s H vs Q E hr h => ?_)
  · exact len__law_rate h
  · refine ⟨_, (pss_cons (ps_set (i := 1) sc__law_rate.nd rfl (by first | exact Or.inl rfl | exact Or.inr rfl) (pe_call G__law_pick hr (by rfl) T.g__law_pick K__law_pick B__law_pick .nil pass0 (pa_cons (pv 0) (pa_cons pe_int pa_nil))))
      (pss_cons (ps_if (pt_cmpR op_eq (pv 1) pe_int (nomark _)) (pss_one (ps_ret (pe_op op_add pe_int (pe_op op_mulX pe_int (pe_call G__law_pick hr (by rfl) T.g__law_pick K__law_pick B__law_pick .nil pass0 (pa_cons (pv 0) (pa_cons pe_int pa_nil))))))) pss_nil)
      (pss_one (ps_ret (pe_ix ix_list (pe_lst (pa_cons pe_int (pa_cons pe_int (pa_cons pe_int (pa_cons pe_int (pa_cons pe_int (pa_cons pe_int (pa_cons pe_int (pa_cons pe_int (pa_cons pe_int (pa_cons pe_int (pa_cons pe_int pa_nil)))))))))))) (pv 1) (fun _ _ => rfl)))))), ?_⟩
    obtain ⟨G, pl, e, hp, rfl, q⟩ := h
    refine s_pick (m := 12) rfl ev_int (by decide) e hp fun v G1 H1 hv ps => ?_
    refine s_ifn (b := decide ((v : Int) = 11)) (et_test (ev_eqI (ev_varI rfl) ev_int)) ps.e (fun G2 H2 s2 hb => ?_) (fun G2 H2 s2 hb => ?_)
    · have ps2 := ps.stp s2
      refine pick_run (m := 29) (p := 0) rfl ev_int (by decide) s2.v (Pl.ps ps2) fun k G3 H3 hk ps3 => ?_
      refine ⟨31, (k : Int), rfl, rfl, mulx (a := 5) (b := 5) (by show Int.natAbs 31 < 2 ^ 5; decide) (by show Int.natAbs _ < 2 ^ 5; omega), 100, 31 * (k : Int), rfl, rfl, ?_⟩
      exact q _ G3 H3 (by omega) (by omega) (ps2.trans ps3)
    · have ps2 := ps.stp s2
      have hv2 := of_decide_eq_false hb
      have hv3 : v < 11 := by omega
      obtain ⟨x, hx⟩ : ∃ x, ([1, 2, 1, 3, 1, 5, 2, 7, 9, 4, 1] : List Int)[v]? = some x := ⟨_, List.getElem?_eq_getElem (by show v < 11; exact hv3)⟩
      have hx2 : 1 ≤ x ∧ x ≤ 968 := by
        have := List.mem_of_getElem? hx
        simp only [List.mem_cons, List.not_mem_nil, or_false] at this
        omega
      refine s_ret (R := IR) (x := x) (ev_ixL (R := IR) (n := v) (ev_lst (xs := [1, 2, 1, 3, 1, 5, 2, 7, 9, 4, 1]) (.cons ev_int (.cons ev_int (.cons ev_int (.cons ev_int (.cons ev_int (.cons ev_int (.cons ev_int (.cons ev_int (.cons ev_int (.cons ev_int (.cons ev_int .nil))))))))))) (by decide)) (ev_varI rfl) rfl hx) s2.v fun y G3 H3 s3 r3 => ?_
      obtain rfl := r3
      exact q x G3 H3 hx2.1 hx2.2 (ps2.stp s3)

end Cy
namespace Cy
open PySem PySem.Spec PyProof.Rows L2 He
local macro_rules | `(tactic| tm_at "ex") => `(tactic| first
  | exact Ex.refl _ | assumption | exact Stp.g (by assumption) | exact Stp.v (by assumption)
  | (refine Ex.trans (Stp.g (by assumption)) ?_; tm_at "ex")
  | (refine Ex.trans (by assumption) ?_; tm_at "ex"))
local macro_rules | `(tactic| tm_at "rl") => `(tactic| first
  | exact rfl | assumption | (apply Mono.up; rotate_left; assumption; tm_at "ex"))
local macro_rules | `(tactic| tm_at "sc") => `(tactic| first | assumption | omega)
local macro_rules | `(tactic| tm_at "ev") => `(tactic| first
  | exact ev_int | exact ev_bl | assumption
  | (apply ev_varI; exact rfl)
  | (apply ev_var; exact rfl; tm_at "rl")
  | (apply ev_I0; tm_at "ev"; tm_at "ev")
  | (apply ev_B0; tm_at "ev"; tm_at "ev")
  | (apply ev_I; tm_at "ev"; tm_at "ev"; tm_at "sc")
  | (apply ev_un; tm_at "ev")
  | (apply ev_eqI; tm_at "ev"; tm_at "ev")
  | (apply ev_neI; tm_at "ev"; tm_at "ev")
  | (apply ev_fstI; tm_at "ev")
  | (apply ev_sndI; tm_at "ev")
  | (apply ev_max2; tm_at "ev"; tm_at "ev")
  | (apply ev_min2; tm_at "ev"; tm_at "ev")
  | (apply ev_abs; tm_at "ev")
  | (apply ev_int1; tm_at "ev")
  | (apply ev_bits; tm_at "ev")
  | (apply ev_gcd; tm_at "ev"; tm_at "ev")
  | (apply ev_len; tm_at "ev")
  | (apply ev_tup2; tm_at "ev"; tm_at "ev"))
local macro_rules | `(tactic| tm_at "ea") => `(tactic| first
  | exact ea_nil
  | (apply ea_consI; tm_at "ev"; tm_at "ea")
  | (apply ea_cons; tm_at "ev"; tm_at "ea"))
local macro_rules | `(tactic| tm_at "et") => `(tactic| first
  | (apply et_test; tm_at "ev")
  | (apply et_B; tm_at "ev")
  | (apply et_not; tm_at "et"))

open Cr
section
variable {α : Type} {K : PySem.W.Frag} {σ : L2.St} {G H : Hp} {te ti : TE} {u : TS} {R : Rel α} {ys : List α} {D : Ends} {i : Nat} {a : Addr} {us : List V}
/-- xs.append(a new list), xs an own list in slot i -/
theorem s_appendN1 (hi : σ[i]? = some (some (.ref a))) (ha : H a = some (.lst us)) (hz : us.length < 100000) (h : EvN te σ G H R ys) (e : Ex G H) (k : ∀ p us' G' H', LcI G H p R ys G' H' us' → H p = none → D.nx σ (upd H' a (.lst (us ++ [.ref p])))) :
    tDrop (tBM K "list" rAppend (tVar i) (tCons te tNil)) D σ H :=
  ⟨_, hi, .inl ⟨rfl, _, SqL.of ha⟩, h G H (Stp.refl e) _ fun p us' G' H' I h0 => ⟨a, us, .ref p, rfl, rfl, I.s.h _ _ ha, small_lt hz, k p us' G' H' I h0⟩⟩
end
theorem OM.push {H0 G H : Hp} {a p : Addr} {bs : List Addr} {M : Mx} {r : List Int} (h : OM H0 G H a bs M) (hp : H p = some (.lst (r.map V.int))) (gp : G p = none) (p0 : H0 p = none) (np : p ∉ a :: bs) : OM H0 G (upd H a (.lst ((bs ++ [p]).map V.ref))) a (bs ++ [p]) (M ++ [r]) := by
  have na : p ≠ a := fun z => np (by rw [z]; exact List.mem_cons_self)
  have nd := List.nodup_cons.mp h.nd
  refine ⟨h.a0, h.ga, upd_same, ?_, paired_app (paired_all h.rows fun b r hb ⟨e, g, z⟩ => ⟨?_, g, z⟩) (.cons ⟨by rw [upd_ne na]; exact hp, gp, p0⟩ .nil)⟩
  · rw [List.nodup_cons, List.nodup_append]
    refine ⟨fun z => ?_, nd.2, by simp, fun x hx y hy => ?_⟩
    · rcases List.mem_append.mp z with z | z
      · exact nd.1 z
      · exact na (List.mem_singleton.mp z).symm
    · rw [List.mem_singleton.mp hy]
      exact fun z => np (by rw [← z]; exact List.mem_cons_of_mem _ hx)
  · have nb : b ≠ a := fun z => nd.1 (z ▸ hb)
    rw [upd_ne nb]; exact e
theorem OM.fresh {H0 G H : Hp} {a p : Addr} {bs : List Addr} {M : Mx} (h : OM H0 G H a bs M) (hp : H p = none) : p ∉ a :: bs := fun z => by
  rcases (List.mem_cons.mp z) with z | z
  · rw [z, h.ea] at hp; cases hp
  · obtain ⟨i, hi⟩ := List.mem_iff_getElem?.mp z
    obtain ⟨y, _, e, _⟩ := paired_get2 h.rows hi
    rw [e] at hp; cases hp
/-- an own table is shown -/
theorem OM.show_ {H0 G H G0 Hs : Hp} {pl a : Addr} {bs : List Addr} {M : Mx} (h : OM H0 G H a bs M) (s : PS pl G0 Hs G H) (hb : ∀ b, H0 b = none → Hs b = none) : ∃ G', PS pl G0 Hs G' H ∧ Ex G G' ∧ MxL G' (.ref a) M := by
  have key : ∀ (bs' : List Addr) (M' : Mx) (G1 : Hp), Paired (fun b r => H b = some (.lst (r.map V.int)) ∧ G b = none ∧ H0 b = none) bs' M' → bs'.Nodup → (∀ b, b ∈ bs' → G1 b = none) → PS pl G0 Hs G1 H → Ex G G1 →
      ∃ G', PS pl G0 Hs G' H ∧ Ex G1 G' ∧ (∀ c, c ∉ bs' → G' c = G1 c) ∧ Paired (Ls IR G') (bs'.map V.ref) M' := fun bs' M' => by
    intro G1 hp
    induction hp generalizing G1 with
    | nil => exact fun _ _ s _ => ⟨G1, s, Ex.refl _, fun _ _ => rfl, .nil⟩
    | @cons b r bt Mt hb1 hr ih =>
      intro nd hg s eg
      obtain ⟨e, g, z⟩ := hb1
      have nd := List.nodup_cons.mp nd
      have g1 := hg b List.mem_cons_self
      have s2 := s.add (hb b z) g1 e
      have ex := Ex.new (o := .lst (r.map V.int)) g1
      obtain ⟨G', s3, e3, f3, p3⟩ := ih (upd G1 b (.lst (r.map V.int))) nd.2 (fun c hc => by rw [upd_ne (fun z => nd.1 (by rw [← z]; exact hc))]; exact hg c (List.mem_cons_of_mem _ hc)) s2 (eg.trans ex)
      refine ⟨G', s3, ex.trans e3, fun c hc => ?_, .cons ⟨b, _, rfl, e3 _ _ upd_same, ints_paired _ _⟩ p3⟩
      rw [f3 c (fun z => hc (List.mem_cons_of_mem _ z)), upd_ne (fun z => hc (by rw [z]; exact List.mem_cons_self))]
  have nd := List.nodup_cons.mp h.nd
  have hg : ∀ b, b ∈ bs → G b = none := fun b hb => by
    obtain ⟨i, hi⟩ := List.mem_iff_getElem?.mp hb
    obtain ⟨y, _, _, g, _⟩ := paired_get2 h.rows hi
    exact g
  obtain ⟨G', s3, e3, f3, p3⟩ := key bs M G h.rows nd.2 hg s (Ex.refl _)
  have ga : G' a = none := by rw [f3 a nd.1]; exact h.ga
  refine ⟨upd G' a (.lst (bs.map V.ref)), s3.add (hb a h.a0) ga h.ea, e3.trans (Ex.new ga), a, _, rfl, upd_same, paired_imp (fun _ _ => Mono.up (Ex.new ga)) p3⟩
abbrev N__law_blank : List Str := ["_law_size_here", "_law_rows", "_law_place"]
abbrev P__law_blank : List Str := ["_law_size_here"]
theorem sc__law_blank : FnScope N__law_blank P__law_blank (defScope s__law_blank) := ⟨rfl, rfl, rfl, by decide +kernel, rfl, by decide +kernel, by decide +kernel⟩
def zeroM (n : Nat) : Mx := List.replicate n (List.replicate n 0)
def sp__law_blank (K : PySem.W.Frag) : Sp := fun vs H Q _ => ∃ (G : Hp) (n : Nat), Ex G H ∧ n ≤ 100 ∧ vs = [.int (n : Int)] ∧ ∀ a bs G' H', Stp G H G' H' → OM H G' H' a bs (zeroM n) → Q (.ref a) H'
theorem len__law_blank {K : PySem.W.Frag} {vs : List V} {H : Hp} {Q : VK} {E : XK} (h : sp__law_blank K vs H Q E) : vs.length = P__law_blank.length := by
  obtain ⟨_, _, _, _, rfl, _⟩ := h; rfl
theorem ok__law_blank {P : Program} {w : World} {K : PySem.W.Frag} {mg : Str → Option Value} {base : Heap} {k : Nat} (T : Tx K mg)  : Ok P w K mg base (k + 1) "_law_blank" P__law_blank (sp__law_blank K) := by
  refine ok_of T.d__law_blank sc__law_blank (fun _ _ _ _ _ _ us hl => match us, hl with | [_], _ => rfl) (fun vs H Q E h => ?_) (fun f cdv A outer s H vs Q E hr h => ?_)
  · exact len__law_blank h
  · refine ⟨_, (pss_cons (ps_set (i := 1) sc__law_blank.nd rfl (by first | exact Or.inl rfl | exact Or.inr rfl) (pe_lst pa_nil))
      (pss_cons (ps_for PassesOwn.never rfl (pi_range1 (by rfl) T.f_range (pa_cons (pv 0) pa_nil)) (pg_name (i := 2) sc__law_blank.nd rfl (by first | exact Or.inl rfl | exact Or.inr rfl)) (pss_one (ps_expr (pe_bm PySem.F.plainAttrs_list PySem.F.slot_list_append PySem.F.type_list_append mt_append (pv 1) (pa_cons (pe_op op_rep (pe_lst (pa_cons pe_int pa_nil)) (pv 0)) pa_nil)))))
      (pss_one (ps_ret (pv 1))))), ?_⟩
    obtain ⟨G, n, e, hn, rfl, q⟩ := h
    refine s_new e fun a ha ga => ?_
    refine s_for (I := fun i σ G' H' => Stp G H G' H' ∧ (∃ bs, OM H G' H' a bs (List.replicate i (List.replicate n 0))) ∧ ∃ c, σ = [some (.int (n : Int)), some (.ref a), c]) (ei_range1 (m := (n : Int)) (ea_consI (ev_varI rfl) ea_nil) (by omega) (by omega)) (e.trans (Ex.new ha)) ?_ ?_ ?_
    · refine fun G1 H1 s1 => ⟨((Stp.refl e).own ha).trans s1, ⟨[], ⟨ha, s1.n _ _ upd_same ga, s1.h _ _ upd_same, by simp, .nil⟩⟩, none, rfl⟩
    · rintro i v σ Gp Hq G' H' G1 hi e1 e2 ⟨S2, ⟨bs, O2⟩, c, rfl⟩ s3 rfl
      have S3 := S2.trans s3
      have O3 := O2.stp s3
      refine s_appendN1 (R := IR) (ys := List.replicate (n : Int).toNat 0) rfl O3.ea (by rw [List.length_map, O3.len, List.length_replicate]; omega) (en_rep ev_int (ev_varI rfl) (by omega) (by omega)) s3.v fun p us' G4 H4 I4 hp => ?_
      have O4 := O3.stp I4.s
      have np := O3.fresh hp
      have d4 := I4.d
      rw [paired_ints I4.p, Int.toNat_natCast] at d4
      have O5 := O4.push d4 I4.g (S3.h.none hp) np
      have hm : bs.map V.ref ++ [.ref p] = (bs ++ [p]).map V.ref := by rw [List.map_append]; rfl
      rw [hm]
      refine ⟨G4, e2.trans (s3.g.trans I4.s.g), I4.s.v.mut O4.ga, (S3.trans I4.s).mut ha O4.ga, ⟨bs ++ [p], ?_⟩, _, rfl⟩
      rw [List.replicate_succ']
      exact O5
    · rintro σ G' H' e1 e2 ⟨S2, ⟨bs, O2⟩, c, rfl⟩
      rw [Int.toNat_natCast] at O2
      refine s_ret (R := VR) (x := .ref a) (ev_var rfl rfl) S2.v fun v G3 H3 s3 r3 => ?_
      obtain rfl := r3
      exact q a bs G3 H3 (S2.trans s3) (O2.stp s3)
theorem zeroM_sq (n : Nat) : Sqm n (zeroM n) := ⟨by unfold zeroM; rw [List.length_replicate], fun x hx => by
  rw [List.eq_of_mem_replicate hx, List.length_replicate]⟩
theorem zeroM_at {n i j : Nat} : at2 (zeroM n) i j = 0 := by
  unfold at2 zeroM
  rw [List.getD_eq_getElem?_getD, List.getD_eq_getElem?_getD]
  by_cases h : i < n
  · rw [List.getElem?_replicate, if_pos h]
    show (List.replicate n (0 : Int))[j]?.getD 0 = 0
    rw [List.getElem?_replicate]
    split <;> rfl
  · rw [List.getElem?_replicate, if_neg h]; rfl
/-! orders -/
theorem en_rg {σ : L2.St} {G H : Hp} {te : TE} {n : Nat} (h : Ev te σ G H IR (n : Int)) (hn : n ≤ 1000) : EvN (tLstRg (tRg1 te)) σ G H NR (List.range n) := fun G1 H1 s Q q =>
  h G1 H1 s _ fun v G2 H2 s2 r => ⟨(n : Int), r, RgOk.of_le (by omega) (by omega) (by omega) (by omega), fun p hp => by
    have e : rgV 0 (n : Int) = (List.range n).map fun i => V.int ((i : Nat) : Int) := by
      unfold rgV
      rw [show ((n : Int) - 0).toNat = n by omega]
      refine (List.map_congr_left fun i _ => ?_)
      show V.int _ = V.int _
      rw [Int.zero_add]
    refine q p (rgV 0 n) G2 _ ⟨s2.own hp, upd_same, s2.v.none hp, ?_⟩ (s2.h.none hp)
    rw [e]
    exact paired_of (by rw [List.length_map]) fun i hi => by
      rw [List.length_map, List.length_range] at hi
      exact ⟨_, i, by rw [List.getElem?_map, List.getElem?_range hi]; rfl, List.getElem?_range hi, rfl⟩⟩
theorem erase_perm {α : Type} : ∀ {l : List α} {k : Nat} {x : α}, l[k]? = some x → (x :: l.eraseIdx k).Perm l
  | [], _, _, h => by simp at h
  | a :: r, 0, x, h => by
    cases h
    exact .refl _
  | a :: r, k + 1, x, h => (List.Perm.swap a x _).trans (.cons a (erase_perm (l := r) h))
theorem erase_map {α β : Type} (f : α → β) : ∀ (l : List α) (k : Nat), (l.map f).eraseIdx k = (l.eraseIdx k).map f
  | [], _ => rfl
  | _ :: _, 0 => rfl
  | a :: r, k + 1 => congrArg (f a :: ·) (erase_map f r k)
theorem nv_paired (G : Hp) : ∀ ps : List Nat, Paired (NR G) (nv ps) ps
  | [] => .nil
  | _ :: r => .cons rfl (nv_paired G r)
theorem paired_nv {G : Hp} : ∀ {us : List V} {ns : List Nat}, Paired (NR G) us ns → us = nv ns
  | _, _, .nil => rfl
  | _, _, .cons a r => by rw [show _ = V.int _ from a, paired_nv r]; rfl
abbrev N__law_order : List Str := ["_law_pool_here", "_law_size_here", "_law_left", "_law_order_here", "_law_turn"]
abbrev P__law_order : List Str := ["_law_pool_here", "_law_size_here"]
theorem sc__law_order : FnScope N__law_order P__law_order (defScope s__law_order) := ⟨rfl, rfl, rfl, by decide +kernel, rfl, by decide +kernel, by decide +kernel⟩
def sp__law_order (K : PySem.W.Frag) : Sp := fun vs H Q _ => ∃ (G : Hp) (pl : Addr) (n : Nat), Ex G H ∧ Pl G H pl ∧ n ≤ 4 ∧ vs = [.ref pl, .int (n : Int)] ∧ ∀ u (os : List Nat) G' H', os.Perm (List.range n) → PS pl G H G' H' → Ls NR G' u os → Q u H'
theorem len__law_order {K : PySem.W.Frag} {vs : List V} {H : Hp} {Q : VK} {E : XK} (h : sp__law_order K vs H Q E) : vs.length = P__law_order.length := by
  obtain ⟨_, _, _, _, _, _, rfl, _⟩ := h; rfl
theorem ok__law_order {P : Program} {w : World} {K : PySem.W.Frag} {mg : Str → Option Value} {base : Heap} {k : Nat} (T : Tx K mg) (G__law_pick : Ok P w K mg base k "_law_pick" P__law_pick (sp__law_pick K)) : Ok P w K mg base (k + 1) "_law_order" P__law_order (sp__law_order K) := by
  obtain ⟨fd__law_pick, G__law_pick, B__law_pick, K__law_pick⟩ := G__law_pick
  refine ok_of T.d__law_order sc__law_order (fun _ _ _ _ _ _ us hl => match us, hl with | [_, _], _ => rfl) (fun vs H Q E h => ?_) (fun f cdv A outer s H vs Q E hr h => ?_)
  · exact len__law_order h
  · refine ⟨_, (pss_cons (ps_set (i := 2) sc__law_order.nd rfl (by first | exact Or.inl rfl | exact Or.inr rfl) (pe_listRg rfl (by rfl) T.f_list (prg_1 (by rfl) T.f_range (pv 1))))
      (pss_cons (ps_set (i := 3) sc__law_order.nd rfl (by first | exact Or.inl rfl | exact Or.inr rfl) (pe_lst pa_nil))
      (pss_cons (ps_for PassesOwn.never rfl (pi_range1 (by rfl) T.f_range (pa_cons (pv 1) pa_nil)) (pg_name (i := 4) sc__law_order.nd rfl (by first | exact Or.inl rfl | exact Or.inr rfl)) (pss_one (ps_expr (pe_bm PySem.F.plainAttrs_list PySem.F.slot_list_append PySem.F.type_list_append mt_append (pv 3) (pa_cons (pe_bm PySem.F.plainAttrs_list PySem.F.slot_list_pop PySem.F.type_list_pop mt_popAt (pv 2) (pa_cons (pe_call G__law_pick hr (by rfl) T.g__law_pick K__law_pick B__law_pick .nil pass0 (pa_cons (pv 0) (pa_cons (pe_callB call_len_seq (by rfl) T.f_len PySem.boot_len (pa_cons (pv 2) pa_nil)) pa_nil))) pa_nil)) pa_nil)))))
      (pss_one (ps_ret (pv 3)))))), ?_⟩
    obtain ⟨G, pl, n, e, hp, hn, rfl, q⟩ := h
    refine s_setN (S := NR) (ys := List.range n) (en_rg (ev_varI rfl) (by omega)) e fun lf us G1 H1 I1 hlf => ?_
    have d1 := I1.d
    rw [paired_nv I1.p] at d1
    refine s_new I1.s.v fun od hod god => ?_
    have hod0 : H od = none := I1.s.h.none hod
    have nlo : lf ≠ od := fun z => by rw [z, hod] at d1; cases d1
    have P1 := ((hp.refl e).stp I1.s).own (o := .lst []) hod
    refine s_for (I := fun i σ G' H' => PS pl G H G' H' ∧ (∃ ls os : List Nat, (os ++ ls).Perm (List.range n) ∧ os.length = i ∧ G' lf = none ∧ H' lf = some (.lst (nv ls)) ∧ G' od = none ∧ H' od = some (.lst (nv os))) ∧ ∃ c, σ = [some (.ref pl), some (.int (n : Int)), some (.ref lf), some (.ref od), c]) (ei_range1 (m := (n : Int)) (ea_consI (ev_varI rfl) ea_nil) (by omega) (by omega)) P1.e ?_ ?_ ?_
    · refine fun G2 H2 s2 => ⟨P1.stp s2, ⟨List.range n, [], .refl _, rfl, s2.n _ _ (by rw [upd_ne nlo]; exact d1) I1.g, s2.h _ _ (by rw [upd_ne nlo]; exact d1), s2.n _ _ upd_same god, s2.h _ _ upd_same⟩, none, rfl⟩
    · rintro i v σ Gp Hq G' H' G1' hi e1 e2 ⟨P2, ⟨ls, os, hpm, hol, glf, hlf2, god2, hod2⟩, c, rfl⟩ s3 rfl
      rw [Int.toNat_natCast] at hi
      have P3 := P2.stp s3
      have lf3 := s3.h _ _ hlf2
      have od3 := s3.h _ _ hod2
      have glf3 := s3.n _ _ hlf2 glf
      have god3 := s3.n _ _ hod2 god2
      have lsl : 0 < ls.length := by
        have := hpm.length_eq
        rw [List.length_append, List.length_range] at this
        omega
      have ls4 : ls.length ≤ 4 := by
        have := hpm.length_eq
        rw [List.length_append, List.length_range] at this
        omega
      -- order.append(left.pop(pick(pool, len(left))))
      refine ⟨_, rfl, .inl ⟨rfl, _, SqL.of od3⟩, ?_⟩
      refine ⟨_, rfl, .inl ⟨rfl, _, SqL.of lf3⟩, ?_⟩
      refine pick_run (p := 0) (m := ls.length) rfl (Ev.eq (ev_lenOwn rfl lf3) (by unfold nv; rw [List.length_map])) lsl P3.e (Pl.ps P3) fun k G4 H4 hk P4 => ?_
      have P34 := P3.trans P4
      have npl : ∀ {b : Addr}, H b = none → b ≠ pl := fun h => hp.2.ne h
      have lf4 := P4.x.h _ _ (npl hlf) lf3
      have od4 := P4.x.h _ _ (npl hod0) od3
      have glf4 := P4.x.n _ _ lf3 glf3
      have god4 := P4.x.n _ _ od3 god3
      obtain ⟨x, hx⟩ : ∃ x, ls[k]? = some x := ⟨_, List.getElem?_eq_getElem hk⟩
      have lnv : (nv ls).length = ls.length := by unfold nv; rw [List.length_map]
      refine ⟨lf, _, (k : Int), k, .int (x : Int), rfl, rfl, lf4, by omega, by omega, ?_, by unfold nv; rw [List.getElem?_map, hx]; rfl, ?_⟩
      · unfold seqIndex?
        have hk2 : (k : Int) < ((nv ls).length : Int) := by rw [lnv]; exact Int.ofNat_lt.mpr hk
        simp [hk2, show ¬ ((k : Int) < 0) by omega, show (0 : Int) ≤ k by omega]
      · have P5 := P34.mut (o := .lst ((nv ls).eraseIdx k)) hlf glf4
        have od5 : (upd H4 lf (.lst ((nv ls).eraseIdx k))) od = some (.lst (nv os)) := by rw [upd_ne nlo.symm]; exact od4
        refine ⟨od, _, .int (x : Int), rfl, rfl, od5, small_lt (by unfold nv; rw [List.length_map]; omega), ?_⟩
        refine ⟨G4, e2.trans (s3.g.trans P4.eg), P5.e.mut god4, P5.mut hod0 god4, ⟨ls.eraseIdx k, os ++ [x], ?_, by rw [List.length_append, hol]; rfl, glf4, ?_, god4, ?_⟩, _, rfl⟩
        · rw [List.append_assoc]
          refine List.Perm.trans ?_ hpm
          refine List.Perm.append_left os ?_
          exact erase_perm hx
        · rw [upd_ne nlo, upd_same]
          unfold nv
          rw [erase_map]
        · rw [upd_same]
          unfold nv
          rw [List.map_append]; rfl
    · rintro σ G' H' e1 e2 ⟨P2, ⟨ls, os, hpm, hol, glf, hlf2, god2, hod2⟩, c, rfl⟩
      rw [Int.toNat_natCast] at hol
      have : ls = [] := by
        have := hpm.length_eq
        rw [List.length_append, List.length_range] at this
        exact List.eq_nil_of_length_eq_zero (by omega)
      subst this
      rw [List.append_nil] at hpm
      have P3 := P2.add hod0 god2 hod2
      refine s_ret (R := Ls NR) (x := os) (ev_var rfl ⟨od, _, rfl, upd_same, nv_paired _ _⟩) P3.e fun v G3 H3 s3 r3 => q v os G3 H3 hpm (P3.stp s3) r3

end Cy
namespace Cy
open PySem PySem.Spec PyProof.Rows L2 He
local macro_rules | `(tactic| tm_at "ex") => `(tactic| first
  | exact Ex.refl _ | assumption | exact Stp.g (by assumption) | exact Stp.v (by assumption)
  | (refine Ex.trans (Stp.g (by assumption)) ?_; tm_at "ex")
  | (refine Ex.trans (by assumption) ?_; tm_at "ex"))
local macro_rules | `(tactic| tm_at "rl") => `(tactic| first
  | exact rfl | assumption | (apply Mono.up; rotate_left; assumption; tm_at "ex"))
local macro_rules | `(tactic| tm_at "sc") => `(tactic| first | assumption | omega)
local macro_rules | `(tactic| tm_at "ev") => `(tactic| first
  | exact ev_int | exact ev_bl | assumption
  | (apply ev_varI; exact rfl)
  | (apply ev_var; exact rfl; tm_at "rl")
  | (apply ev_I0; tm_at "ev"; tm_at "ev")
  | (apply ev_B0; tm_at "ev"; tm_at "ev")
  | (apply ev_I; tm_at "ev"; tm_at "ev"; tm_at "sc")
  | (apply ev_un; tm_at "ev")
  | (apply ev_eqI; tm_at "ev"; tm_at "ev")
  | (apply ev_neI; tm_at "ev"; tm_at "ev")
  | (apply ev_fstI; tm_at "ev")
  | (apply ev_sndI; tm_at "ev")
  | (apply ev_max2; tm_at "ev"; tm_at "ev")
  | (apply ev_min2; tm_at "ev"; tm_at "ev")
  | (apply ev_abs; tm_at "ev")
  | (apply ev_int1; tm_at "ev")
  | (apply ev_bits; tm_at "ev")
  | (apply ev_gcd; tm_at "ev"; tm_at "ev")
  | (apply ev_len; tm_at "ev")
  | (apply ev_tup2; tm_at "ev"; tm_at "ev"))
local macro_rules | `(tactic| tm_at "ea") => `(tactic| first
  | exact ea_nil
  | (apply ea_consI; tm_at "ev"; tm_at "ea")
  | (apply ea_cons; tm_at "ev"; tm_at "ea"))
local macro_rules | `(tactic| tm_at "et") => `(tactic| first
  | (apply et_test; tm_at "ev")
  | (apply et_B; tm_at "ev")
  | (apply et_not; tm_at "et"))

open Cr
section
variable {K : PySem.W.Frag} {σ : L2.St} {G H : Hp} {pl b : Addr} {p x y j : Nat} {E : XK} {u : TS} {D : Ends}
/-- row[j] = _law_rate(pool) -/
theorem s_rate (hp : σ[p]? = some (some (.ref pl))) (a : Pl G H pl) (e : Ex G H) (hx : σ[x]? = some (some (.ref b))) (hy : σ[y]? = some (some (.int (j : Int)))) (k : ∀ (r : Int) G' H', 1 ≤ r → r ≤ 968 → PS pl G H G' H' → ∃ us, H' b = some (.lst us) ∧ j < us.length ∧ u D σ (upd H' b (.lst (us.set j (.int r))))) :
    tSeq (tAsg (tCall (sp__law_rate K) [] E (tCons (tVar p) tNil)) (gSub (tVar x) (tVar y) rSetL)) u D σ H :=
  ⟨_, hp, G, pl, e, a, rfl, fun r G' H' h1 h2 ps => by
    obtain ⟨us, e1, hj, q⟩ := k r G' H' h1 h2 ps
    exact ⟨_, hx, _, hy, b, us, (j : Int), j, rfl, rfl, e1, ixN_nat hj, q⟩⟩
theorem s_rate1 (hp : σ[p]? = some (some (.ref pl))) (a : Pl G H pl) (e : Ex G H) (hx : σ[x]? = some (some (.ref b))) (hy : σ[y]? = some (some (.int (j : Int)))) (k : ∀ (r : Int) G' H', 1 ≤ r → r ≤ 968 → PS pl G H G' H' → ∃ us, H' b = some (.lst us) ∧ j < us.length ∧ D.nx σ (upd H' b (.lst (us.set j (.int r))))) :
    tAsg (tCall (sp__law_rate K) [] E (tCons (tVar p) tNil)) (gSub (tVar x) (tVar y) rSetL) D σ H :=
  ⟨_, hp, G, pl, e, a, rfl, fun r G' H' h1 h2 ps => by
    obtain ⟨us, e1, hj, q⟩ := k r G' H' h1 h2 ps
    exact ⟨_, hx, _, hy, b, us, (j : Int), j, rfl, rfl, e1, ixN_nat hj, q⟩⟩
end
/-- a row of an own table, by its number -/
theorem ev_rowOwn {K : PySem.W.Frag} {σ : L2.St} {H0 G H : Hp} {a b : Addr} {bs : List Addr} {M : Mx} {x i : Nat} {te : TE} (O : OM H0 G H a bs M) (hx : σ[x]? = some (some (.ref a))) (hb : bs[i]? = some b) (h : Ev te σ G H IR (i : Int)) : Ev (tOp (rIxL K) (tVar x) te) σ G H VR (.ref b) :=
  ev_ixOwn (R := VR) hx O.ea h rfl (by rw [List.getElem?_map, hb]; rfl) rfl
/-- an entry put, along the steps -/
theorem OM.putS {H0 G0 G H : Hp} {pl a b : Addr} {bs : List Addr} {M : Mx} {n i j : Nat} {x : Int} (O : OM H0 G H a bs M) (s : PS pl G0 H0 G H) (hS : Sqm n M) (hi : i < n) (hj : j < n) (hb : bs[i]? = some b) :
    ∃ us, H b = some (.lst us) ∧ j < us.length ∧ G b = none ∧ PS pl G0 H0 G (upd H b (.lst (us.set j (.int x)))) ∧ OM H0 G (upd H b (.lst (us.set j (.int x)))) a bs (put2 M i j x) := by
  obtain ⟨r, er, hl, _⟩ := hS.row hi
  obtain ⟨b', hb', _, e, g, z⟩ := O.row er
  rw [hb] at hb'
  cases hb'
  have em : (r.map V.int).set j (.int x) = (r.set j x).map V.int := List.map_set.symm
  refine ⟨r.map V.int, e, by rw [List.length_map, hl]; exact hj, g, s.mut z g, ?_⟩
  rw [em]
  exact O.put er hb
abbrev N__law_both : List Str := ["_law_pool_here", "_law_takes", "_law_i", "_law_j", "_law_row", "_law_other"]
abbrev P__law_both : List Str := ["_law_pool_here", "_law_takes", "_law_i", "_law_j"]
theorem sc__law_both : FnScope N__law_both P__law_both (defScope s__law_both) := ⟨rfl, rfl, rfl, by decide +kernel, rfl, by decide +kernel, by decide +kernel⟩
def sp__law_both (K : PySem.W.Frag) : Sp := fun vs H Q _ => ∃ (G0 H0 G : Hp) (pl a : Addr) (bs : List Addr) (M : Mx) (n i j : Nat), PS pl G0 H0 G H ∧ OM H0 G H a bs M ∧ Sqm n M ∧ i < n ∧ j < n ∧ i ≠ j ∧ vs = [.ref pl, .ref a, .int (i : Int), .int (j : Int)] ∧
  ∀ (x y : Int) G' H', 1 ≤ x → x ≤ 968 → 1 ≤ y → y ≤ 968 → PS pl G0 H0 G' H' → Ex G G' → OM H0 G' H' a bs (put2 (put2 M i j x) j i y) → Q .non H'
theorem len__law_both {K : PySem.W.Frag} {vs : List V} {H : Hp} {Q : VK} {E : XK} (h : sp__law_both K vs H Q E) : vs.length = P__law_both.length := by
  obtain ⟨_, _, _, _, _, _, _, _, _, _, _, _, _, _, _, _, rfl, _⟩ := h; rfl
theorem ok__law_both {P : Program} {w : World} {K : PySem.W.Frag} {mg : Str → Option Value} {base : Heap} {k : Nat} (T : Tx K mg) (G__law_rate : Ok P w K mg base k "_law_rate" P__law_rate (sp__law_rate K)) : Ok P w K mg base (k + 1) "_law_both" P__law_both (sp__law_both K) := by
  obtain ⟨fd__law_rate, G__law_rate, B__law_rate, K__law_rate⟩ := G__law_rate
  refine ok_of T.d__law_both sc__law_both (fun _ _ _ _ _ _ us hl => match us, hl with | [_, _, _, _], _ => rfl) (fun vs H Q E h => ?_) (fun f cdv A outer s H vs Q E hr h => ?_)
  · exact len__law_both h
  · refine ⟨_, (pss_cons (ps_set (i := 4) sc__law_both.nd rfl (by first | exact Or.inl rfl | exact Or.inr rfl) (pe_ix ix_list (pv 1) (pv 2) (fun _ _ => rfl)))
      (pss_cons (ps_asg (pe_call G__law_rate hr (by rfl) T.g__law_rate K__law_rate B__law_rate .nil pass0 (pa_cons (pv 0) pa_nil)) (pg_sub (pv 4) (pv 3) set_list))
      (pss_cons (ps_set (i := 5) sc__law_both.nd rfl (by first | exact Or.inl rfl | exact Or.inr rfl) (pe_ix ix_list (pv 1) (pv 3) (fun _ _ => rfl)))
      (pss_one (ps_asg (pe_call G__law_rate hr (by rfl) T.g__law_rate K__law_rate B__law_rate .nil pass0 (pa_cons (pv 0) pa_nil)) (pg_sub (pv 5) (pv 2) set_list)))))), ?_⟩
    obtain ⟨G0, H0, G, pl, a, bs, M, n, i, j, ps, O, hS, hi, hj, hij, rfl, q⟩ := h
    have ln : bs.length = n := by rw [O.len, hS.l]
    obtain ⟨bi, hbi⟩ : ∃ b, bs[i]? = some b := ⟨_, List.getElem?_eq_getElem (by omega)⟩
    obtain ⟨bj, hbj⟩ : ∃ b, bs[j]? = some b := ⟨_, List.getElem?_eq_getElem (by omega)⟩
    refine s_set (R := VR) (x := .ref bi) (ev_rowOwn O rfl hbi (ev_varI rfl)) ps.e fun v G1 H1 s1 r1 => ?_
    obtain rfl := r1
    have ps1 := ps.stp s1
    have O1 := O.stp s1
    refine s_rate (p := 0) (x := 4) (y := 3) (j := j) rfl (Pl.ps ps1) ps1.e rfl rfl fun x G2 H2 x1 x2 ps2 => ?_
    have ps12 := ps1.trans ps2
    have O2 := O1.ps ps2 ps.b
    obtain ⟨us, e2, hl2, g2, ps3, O3⟩ := O2.putS (x := x) ps12 hS hi hj hbi
    refine ⟨us, e2, hl2, ?_⟩
    have hS2 := put2_sq (j := j) (x := x) hS hi
    refine s_set (R := VR) (x := .ref bj) (ev_rowOwn O3 rfl hbj (ev_varI rfl)) ps3.e fun v G4 H4 s4 r4 => ?_
    obtain rfl := r4
    have ps4 := ps3.stp s4
    have O4 := O3.stp s4
    refine s_rate1 (p := 0) (x := 5) (y := 2) (j := i) rfl (Pl.ps ps4) ps4.e rfl rfl fun y G5 H5 y1 y2 ps5 => ?_
    have ps45 := ps4.trans ps5
    have O5 := O4.ps ps5 ps.b
    obtain ⟨us', e5, hl5, g5, ps6, O6⟩ := O5.putS (x := y) ps45 hS2 hj hi hbj
    exact ⟨us', e5, hl5, q x y G5 _ x1 x2 y1 y2 ps6 (s1.g.trans (ps2.eg.trans (s4.g.trans ps5.eg))) O6⟩
/-! what the webs keep -/
structure Wb (n : Nat) (M : Mx) : Prop where
  s : Sqm n M
  b : ∀ i j, i < n → j < n → 0 ≤ at2 M i j ∧ at2 M i j < 4000
  d : ∀ i, i < n → at2 M i i = 0
theorem Wb.zero (n : Nat) : Wb n (zeroM n) := ⟨zeroM_sq n, fun i j _ _ => by rw [zeroM_at]; omega, fun i _ => zeroM_at⟩
theorem Wb.put {n : Nat} {M : Mx} {i j : Nat} {x : Int} (h : Wb n M) (hi : i < n) (hj : j < n) (ne : i ≠ j) (x0 : 0 ≤ x) (x1 : x < 4000) : Wb n (put2 M i j x) := by
  refine ⟨put2_sq h.s hi, fun a b ha hb => ?_, fun a ha => ?_⟩
  · rw [put2_at h.s hi hj]
    split
    · exact ⟨x0, x1⟩
    · exact h.b a b ha hb
  · rw [put2_at h.s hi hj, if_neg (fun z => ne (z.1.symm.trans z.2))]
    exact h.d a ha
theorem put2_pos {n : Nat} {M : Mx} {i j a b : Nat} {x : Int} (hS : Sqm n M) (hi : i < n) (hj : j < n) (hx : 0 < x) (h : 0 < at2 M a b) : 0 < at2 (put2 M i j x) a b := by
  rw [put2_at hS hi hj]
  split
  · exact hx
  · exact h
theorem put2_here {n : Nat} {M : Mx} {i j : Nat} {x : Int} (hS : Sqm n M) (hi : i < n) (hj : j < n) : at2 (put2 M i j x) i j = x := by
  rw [put2_at hS hi hj, if_pos ⟨rfl, rfl⟩]
/-- a ring links -/
theorem ring_lkd {n : Nat} {T : Nat → Nat → Int} (h : ∀ i, i < n → 0 < T i ((i + 1) % n)) : Lkd n T := by
  rintro P ⟨i0, hi0, p0⟩ ⟨j0, hj0, q0⟩
  refine Classical.byContradiction fun z => ?_
  have step : ∀ i, i < n → P i = true → P ((i + 1) % n) = true := fun i hi pi => by
    refine Classical.byContradiction fun y => z ⟨i, (i + 1) % n, hi, Nat.mod_lt _ (by omega), pi, Bool.eq_false_iff.mpr y, h i hi⟩
  have all : ∀ k, P ((i0 + k) % n) = true := fun k => by
    induction k with
    | zero => rw [Nat.add_zero, Nat.mod_eq_of_lt hi0]; exact p0
    | succ k ih =>
      have := step _ (Nat.mod_lt _ (by omega)) ih
      rw [Nat.mod_add_mod] at this
      exact this
  have := all (j0 + n - i0)
  rw [show i0 + (j0 + n - i0) = j0 + n by omega, Nat.add_mod_right, Nat.mod_eq_of_lt hj0, q0] at this
  cases this
/-- a tree, both ways, links -/
theorem tree_lkd {n : Nat} {T : Nat → Nat → Int} (h : ∀ j, 0 < j → j < n → ∃ i, i < j ∧ 0 < T i j ∧ 0 < T j i) : Lkd n T := by
  rintro P ⟨i0, hi0, p0⟩ ⟨j0, hj0, q0⟩
  refine Classical.byContradiction fun z => ?_
  have step : ∀ a b, a < n → b < n → 0 < T a b → P a = true → P b = true := fun a b ha hb t pa => Classical.byContradiction fun y => z ⟨a, b, ha, hb, pa, Bool.eq_false_iff.mpr y, t⟩
  have key : ∀ j, j < n → (P j = true ↔ P 0 = true) := fun j => by
    induction j using Nat.strongRecOn with
    | _ j ih =>
      intro hj
      by_cases e : j = 0
      · rw [e]
      · obtain ⟨i, hi, t1, t2⟩ := h j (by omega) hj
        have ii := ih i hi (by omega)
        exact ⟨fun pj => ii.mp (step j i hj (by omega) t2 pj), fun p => step i j (by omega) hj t1 (ii.mpr p)⟩
  have a := (key i0 hi0).mp p0
  have b := (key j0 hj0).mpr a
  rw [q0] at b
  cases b
abbrev N__law_ring : List Str := ["_law_pool_here", "_law_size_here", "_law_takes", "_law_i", "_law_row", "_law_j"]
abbrev P__law_ring : List Str := ["_law_pool_here", "_law_size_here"]
theorem sc__law_ring : FnScope N__law_ring P__law_ring (defScope s__law_ring) := ⟨rfl, rfl, rfl, by decide +kernel, rfl, by decide +kernel, by decide +kernel⟩
def sp__law_ring (K : PySem.W.Frag) : Sp := fun vs H Q _ => ∃ (G : Hp) (pl : Addr) (n : Nat), Ex G H ∧ Pl G H pl ∧ 2 ≤ n ∧ n ≤ 4 ∧ vs = [.ref pl, .int (n : Int)] ∧ ∀ u M G' H', Wb n M → Lkd n (at2 M) → PS pl G H G' H' → MxL G' u M → Q u H'
theorem len__law_ring {K : PySem.W.Frag} {vs : List V} {H : Hp} {Q : VK} {E : XK} (h : sp__law_ring K vs H Q E) : vs.length = P__law_ring.length := by
  obtain ⟨_, _, _, _, _, _, _, rfl, _⟩ := h; rfl
theorem s_blank {K : PySem.W.Frag} {σ : L2.St} {G H : Hp} {te : TE} {n i : Nat} {E : XK} {u : TS} {D : Ends} (h : Ev te σ G H IR (n : Int)) (hn : n ≤ 100) (e : Ex G H) (k : ∀ a bs G' H', Stp G H G' H' → OM H G' H' a bs (zeroM n) → u D (σ.set i (some (.ref a))) H') : tSeq (tAsg (tCall (sp__law_blank K) [] E (tCons te tNil)) (gName i)) u D σ H :=
  h.run e fun v G1 H1 s1 r1 => by
    obtain rfl : v = .int (n : Int) := r1
    exact ⟨G1, n, s1.v, hn, rfl, fun a bs G' H' s2 O => k a bs G' H' (s1.trans s2) ⟨s1.h.none O.a0, O.ga, O.ea, O.nd, paired_imp (fun _ _ ⟨e, g, z⟩ => ⟨e, g, s1.h.none z⟩) O.rows⟩⟩
theorem ok__law_ring {P : Program} {w : World} {K : PySem.W.Frag} {mg : Str → Option Value} {base : Heap} {k : Nat} (T : Tx K mg) (G__law_blank : Ok P w K mg base k "_law_blank" P__law_blank (sp__law_blank K)) (G__law_rate : Ok P w K mg base k "_law_rate" P__law_rate (sp__law_rate K)) (G__law_pick : Ok P w K mg base k "_law_pick" P__law_pick (sp__law_pick K)) : Ok P w K mg base (k + 1) "_law_ring" P__law_ring (sp__law_ring K) := by
  obtain ⟨fd__law_blank, G__law_blank, B__law_blank, K__law_blank⟩ := G__law_blank
  obtain ⟨fd__law_rate, G__law_rate, B__law_rate, K__law_rate⟩ := G__law_rate
  obtain ⟨fd__law_pick, G__law_pick, B__law_pick, K__law_pick⟩ := G__law_pick
  refine ok_of T.d__law_ring sc__law_ring (fun _ _ _ _ _ _ us hl => match us, hl with | [_, _], _ => rfl) (fun vs H Q E h => ?_) (fun f cdv A outer s H vs Q E hr h => ?_)
  · exact len__law_ring h
  · refine ⟨_, (pss_cons (ps_set (i := 2) sc__law_ring.nd rfl (by first | exact Or.inl rfl | exact Or.inr rfl) (pe_call G__law_blank hr (by rfl) T.g__law_blank K__law_blank B__law_blank .nil pass0 (pa_cons (pv 1) pa_nil)))
      (pss_cons (ps_for PassesOwn.never rfl (pi_range1 (by rfl) T.f_range (pa_cons (pv 1) pa_nil)) (pg_name (i := 3) sc__law_ring.nd rfl (by first | exact Or.inl rfl | exact Or.inr rfl)) (pss_cons (ps_set (i := 4) sc__law_ring.nd rfl (by first | exact Or.inl rfl | exact Or.inr rfl) (pe_ix ix_list (pv 2) (pv 3) (fun _ _ => rfl)))
      (pss_one (ps_for PassesOwn.never rfl (pi_range1 (by rfl) T.f_range (pa_cons (pv 1) pa_nil)) (pg_name (i := 5) sc__law_ring.nd rfl (by first | exact Or.inl rfl | exact Or.inr rfl)) (pss_one (ps_if (pt_cmpR op_eq (pv 5) (pe_op op_mod (pe_callTy call_int1 (by rfl) T.f_int (by decide +kernel) (pa_cons (pe_op op_add (pv 3) pe_int) pa_nil)) (pv 1)) (nomark _)) (pss_one (ps_asg (pe_call G__law_rate hr (by rfl) T.g__law_rate K__law_rate B__law_rate .nil pass0 (pa_cons (pv 0) pa_nil)) (pg_sub (pv 4) (pv 5) set_list))) (pss_one (ps_if (PW.pt (pw_and (pt_cmpR op_ne (pv 5) (pv 3) (nomark _)) (pw_and1 (pt_cmpR op_eq (pe_call G__law_pick hr (by rfl) T.g__law_pick K__law_pick B__law_pick .nil pass0 (pa_cons (pv 0) (pa_cons pe_int pa_nil))) pe_int (nomark _))))) (pss_one (ps_asg (pe_call G__law_rate hr (by rfl) T.g__law_rate K__law_rate B__law_rate .nil pass0 (pa_cons (pv 0) pa_nil)) (pg_sub (pv 4) (pv 5) set_list))) pss_nil))))))))
      (pss_one (ps_ret (pv 2))))), ?_⟩
    obtain ⟨G, pl, n, e, hp, hn2, hn4, rfl, q⟩ := h
    refine s_blank (ev_varI rfl) (by omega) e fun a bs G1 H1 s1 O1 => ?_
    have P1 := (hp.refl e).stp s1
    refine s_for (I := fun i σ G' H' => PS pl G H G' H' ∧ (∃ M, OM H G' H' a bs M ∧ Wb n M ∧ ∀ k, k < i → 0 < at2 M k ((k + 1) % n)) ∧ ∃ c3 c4 c5, σ = [some (.ref pl), some (.int (n : Int)), some (.ref a), c3, c4, c5]) (ei_range1 (m := (n : Int)) (ea_consI (ev_varI rfl) ea_nil) (by omega) (by omega)) P1.e ?_ ?_ ?_
    · exact fun G2 H2 s2 => ⟨P1.stp s2, ⟨_, O1.stp s2, .zero n, fun k hk => by omega⟩, none, none, none, rfl⟩
    · rintro i v σ Gp Hq G' H' G1' hi e1 e2 ⟨P2, ⟨M, O2, W2, R2⟩, c3, c4, c5, rfl⟩ s3 rfl
      rw [Int.toNat_natCast] at hi
      have P3 := P2.stp s3
      have O3 := O2.stp s3
      obtain ⟨b, hb⟩ : ∃ b, bs[i]? = some b := ⟨_, List.getElem?_eq_getElem (by rw [O3.len, W2.s.l]; exact hi)⟩
      refine s_set (R := VR) (x := .ref b) (ev_rowOwn O3 rfl hb (ev_varI rfl)) P3.e fun v G4 H4 s4 r4 => ?_
      obtain rfl := r4
      have P4 := P3.stp s4
      have O4 := O3.stp s4
      have ni : (i + 1) % n < n := Nat.mod_lt _ (by omega)
      refine s_for' (I := fun j σ G' H' => PS pl G H G' H' ∧ (∃ M, OM H G' H' a bs M ∧ Wb n M ∧ (∀ k, k < i → 0 < at2 M k ((k + 1) % n)) ∧ ((i + 1) % n < j → 0 < at2 M i ((i + 1) % n))) ∧ ∃ c5, σ = [some (.ref pl), some (.int (n : Int)), some (.ref a), some (.int (i : Int)), some (.ref b), c5]) (ei_range1 (m := (n : Int)) (ea_consI (ev_varI rfl) ea_nil) (by omega) (by omega)) P4.e ?_ ?_ ?_
      · exact fun G5 H5 s5 => ⟨P4.stp s5, ⟨_, O4.stp s5, W2, R2, fun z => by omega⟩, _, rfl⟩
      · rintro j v σ Gs Hs Gt Ht Gu hj f1 f2 ⟨P5, ⟨M5, O5, W5, R5, T5⟩, c5', rfl⟩ s6 rfl
        rw [Int.toNat_natCast] at hj
        have P6 := P5.stp s6
        have O6 := O5.stp s6
        -- storing at (i, j)
        have fin : ∀ (r : Int) G' H', 1 ≤ r → r ≤ 968 → i ≠ j → PS pl G H G' H' → OM H G' H' a bs M5 → Ex Gt G' → ∃ us, H' b = some (.lst us) ∧ j < us.length ∧ ∃ G'', Ex Gu G'' ∧ Ex G'' (upd H' b (.lst (us.set j (.int r)))) ∧ PS pl G H G'' (upd H' b (.lst (us.set j (.int r)))) ∧ (∃ M, OM H G'' (upd H' b (.lst (us.set j (.int r)))) a bs M ∧ Wb n M ∧ (∀ k, k < i → 0 < at2 M k ((k + 1) % n)) ∧ ((i + 1) % n < j + 1 → 0 < at2 M i ((i + 1) % n))) ∧ ∃ c5, ([some (.ref pl), some (.int (n : Int)), some (.ref a), some (.int (i : Int)), some (.ref b), some (.int (j : Int))] : L2.St) = [some (.ref pl), some (.int (n : Int)), some (.ref a), some (.int (i : Int)), some (.ref b), c5] := fun r G' H' r1 r2 hij P O ex => by
          obtain ⟨us, e6, hl6, g6, P7, O7⟩ := O.putS (x := r) P W5.s hi hj hb
          refine ⟨us, e6, hl6, G', f2.trans (s6.g.trans ex), P7.e, P7, ⟨_, O7, W5.put hi hj hij (by omega) (by omega), fun k hk => put2_pos W5.s hi hj (by omega) (R5 k hk), fun z => ?_⟩, _, rfl⟩
          by_cases ej : (i + 1) % n = j
          · subst ej
            rw [put2_here W5.s hi hj]; omega
          · exact put2_pos W5.s hi hj (by omega) (T5 (by omega))
        have emod : ((i : Int) + 1) % (n : Int) = (((i + 1) % n : Nat) : Int) := by push_cast; rfl
        refine s_if (b := decide (j = (i + 1) % n)) (EvT.eq (et_test (ev_eqI (ev_varI rfl) (ev_I (ev_int1 (ev_I0 (ev_varI rfl) ev_int)) (ev_varI rfl) (by show (0 : Int) < n; omega)))) ?_) P6.e (fun G7 H7 s7 hbb => ?_) (fun G7 H7 s7 hbb => ?_)
        · rw [emod]
          by_cases z : j = (i + 1) % n
          · rw [decide_eq_true z, decide_eq_true (by omega)]
          · rw [decide_eq_false z, decide_eq_false (by omega)]
        · have hj2 := of_decide_eq_true hbb
          have hij : i ≠ j := fun z => by
            rw [← z] at hj2
            by_cases y : i + 1 < n
            · rw [Nat.mod_eq_of_lt y] at hj2; omega
            · rw [show i + 1 = n by omega, Nat.mod_self] at hj2; omega
          have P7 := P6.stp s7
          refine s_rate1 (p := 0) (x := 4) (y := 5) (j := j) rfl (Pl.ps P7) P7.e rfl rfl fun r G8 H8 r1 r2 p8 => ?_
          exact fin r G8 H8 r1 r2 hij (P7.trans p8) ((O6.stp s7).ps p8 P7.b) (s7.g.trans p8.eg)
        · have hj2 := of_decide_eq_false hbb
          have P7 := P6.stp s7
          have O7 := O6.stp s7
          have skip : ∀ G' H', PS pl G H G' H' → OM H G' H' a bs M5 → Ex Gt G' → ∃ G'', Ex Gu G'' ∧ Ex G'' H' ∧ PS pl G H G'' H' ∧ (∃ M, OM H G'' H' a bs M ∧ Wb n M ∧ (∀ k, k < i → 0 < at2 M k ((k + 1) % n)) ∧ ((i + 1) % n < j + 1 → 0 < at2 M i ((i + 1) % n))) ∧ ∃ c5, ([some (.ref pl), some (.int (n : Int)), some (.ref a), some (.int (i : Int)), some (.ref b), some (.int (j : Int))] : L2.St) = [some (.ref pl), some (.int (n : Int)), some (.ref a), some (.int (i : Int)), some (.ref b), c5] := fun G' H' P O ex =>
            ⟨G', f2.trans (s6.g.trans ex), P.e, P, ⟨_, O, W5, R5, fun z => T5 (by omega)⟩, _, rfl⟩
          -- j != i and pick == 3
          refine (et_test (ev_neI (i := (j : Int)) (j := (i : Int)) (ev_varI (n := (j : Int)) (i := 5) rfl) (ev_varI (n := (i : Int)) (i := 3) rfl))).run P7.e fun G8 H8 s8 => ?_
          have P8 := P7.stp s8
          have O8 := O7.stp s8
          by_cases hij : j = i
          · rw [decide_eq_true (show (j : Int) = i by omega)]
            exact skip G8 H8 P8 O8 (s7.g.trans s8.g)
          · rw [decide_eq_false (show ¬ (j : Int) = i by omega)]
            refine pick_run (p := 0) (m := 4) rfl ev_int (by decide) P8.e (Pl.ps P8) fun k G9 H9 hk p9 => ?_
            have P9 := P8.trans p9
            have O9 := O8.ps p9 P8.b
            refine ⟨rfl, decide ((k : Int) = 3), ?_, ?_⟩
            · show V.bl _ = V.bl _
              rw [dec_int, Bool.beq_eq_decide_eq]
            · by_cases z : (k : Int) = 3
              · rw [decide_eq_true z]
                refine s_rate1 (p := 0) (x := 4) (y := 5) (j := j) rfl (Pl.ps P9) P9.e rfl rfl fun r G10 H10 r1 r2 p10 => ?_
                exact fin r G10 H10 r1 r2 (fun z => hij z.symm) (P9.trans p10) (O9.ps p10 P9.b) (s7.g.trans (s8.g.trans (p9.eg.trans p10.eg)))
              · rw [decide_eq_false z]
                exact skip G9 H9 P9 O9 (s7.g.trans (s8.g.trans p9.eg))
      · rintro σ Gs Hs f1 f2 ⟨P5, ⟨M5, O5, W5, R5, T5⟩, c5', rfl⟩
        rw [Int.toNat_natCast] at T5
        refine ⟨Gs, e2.trans (s3.g.trans (s4.g.trans f1)), f2, P5, ⟨M5, O5, W5, fun k hk => ?_⟩, _, _, _, rfl⟩
        by_cases ek : k = i
        · subst ek; exact T5 ni
        · exact R5 k (by omega)
    · rintro σ G' H' e1 e2 ⟨P2, ⟨M, O2, W2, R2⟩, c3, c4, c5, rfl⟩
      rw [Int.toNat_natCast] at R2
      obtain ⟨G3, P3, e3, r3⟩ := O2.show_ P2 (fun b h => h)
      refine s_ret (R := MxL) (x := M) (ev_var rfl r3) P3.e fun v G4 H4 s4 r4 => q v M G4 H4 W2 (ring_lkd R2) (P3.stp s4) r4

end Cy
namespace Cy
open PySem PySem.Spec PyProof.Rows L2 He
local macro_rules | `(tactic| tm_at "ex") => `(tactic| first
  | exact Ex.refl _ | assumption | exact Stp.g (by assumption) | exact Stp.v (by assumption)
  | (refine Ex.trans (Stp.g (by assumption)) ?_; tm_at "ex")
  | (refine Ex.trans (by assumption) ?_; tm_at "ex"))
local macro_rules | `(tactic| tm_at "rl") => `(tactic| first
  | exact rfl | assumption | (apply Mono.up; rotate_left; assumption; tm_at "ex"))
local macro_rules | `(tactic| tm_at "sc") => `(tactic| first | assumption | omega)
local macro_rules | `(tactic| tm_at "ev") => `(tactic| first
  | exact ev_int | exact ev_bl | assumption
  | (apply ev_varI; exact rfl)
  | (apply ev_var; exact rfl; tm_at "rl")
  | (apply ev_I0; tm_at "ev"; tm_at "ev")
  | (apply ev_B0; tm_at "ev"; tm_at "ev")
  | (apply ev_I; tm_at "ev"; tm_at "ev"; tm_at "sc")
  | (apply ev_un; tm_at "ev")
  | (apply ev_eqI; tm_at "ev"; tm_at "ev")
  | (apply ev_neI; tm_at "ev"; tm_at "ev")
  | (apply ev_fstI; tm_at "ev")
  | (apply ev_sndI; tm_at "ev")
  | (apply ev_max2; tm_at "ev"; tm_at "ev")
  | (apply ev_min2; tm_at "ev"; tm_at "ev")
  | (apply ev_abs; tm_at "ev")
  | (apply ev_int1; tm_at "ev")
  | (apply ev_bits; tm_at "ev")
  | (apply ev_gcd; tm_at "ev"; tm_at "ev")
  | (apply ev_len; tm_at "ev")
  | (apply ev_tup2; tm_at "ev"; tm_at "ev"))
local macro_rules | `(tactic| tm_at "ea") => `(tactic| first
  | exact ea_nil
  | (apply ea_consI; tm_at "ev"; tm_at "ea")
  | (apply ea_cons; tm_at "ev"; tm_at "ea"))
local macro_rules | `(tactic| tm_at "et") => `(tactic| first
  | (apply et_test; tm_at "ev")
  | (apply et_B; tm_at "ev")
  | (apply et_not; tm_at "et"))

open Cr
/-- a pick looked at by == -/
theorem et_pick {K : PySem.W.Frag} {σ : L2.St} {G H : Hp} {te : TE} {pl : Addr} {p m : Nat} {c : Int} {E : XK} {Q : Bool → Hp → Prop} (hp : σ[p]? = some (some (.ref pl))) (h : Ev te σ G H IR (m : Int)) (hm : 0 < m) (e : Ex G H) (a : Pl G H pl)
    (q : ∀ (v : Nat) G' H', v < m → PS pl G H G' H' → Q (decide ((v : Int) = c)) H') : tTest (tOp rEq (tCall (sp__law_pick K) [] E (tCons (tVar p) (tCons te tNil))) (tC (.int c))) σ H Q :=
  pick_run hp h hm e a fun v G' H' hv ps => ⟨rfl, decide ((v : Int) = c), by
    show V.bl _ = V.bl _
    rw [dec_int, Bool.beq_eq_decide_eq], q v G' H' hv ps⟩
abbrev N__law_moved : List Str := ["_law_table", "_law_order_here", "_law_size_here", "_law_rows", "_law_i", "_law_j", "_law_row"]
abbrev P__law_moved : List Str := ["_law_table", "_law_order_here"]
theorem sc__law_moved : FnScope N__law_moved P__law_moved (defScope s__law_moved) := ⟨rfl, rfl, rfl, by decide +kernel, rfl, by decide +kernel, by decide +kernel⟩
def sp__law_moved (K : PySem.W.Frag) : Sp := fun vs H Q _ => ∃ (G : Hp) (n : Nat) (M : Mx) (os : List Nat) (u v : V), Ex G H ∧ n ≤ 4 ∧ Sqm n M ∧ os.Perm (List.range n) ∧ MxL G u M ∧ Ls NR G v os ∧ vs = [u, v] ∧ ∀ r M' G' H', Sqm n M' → (∀ i j, i < n → j < n → at2 M' (os.getD i 0) (os.getD j 0) = at2 M i j) → Stp G H G' H' → MxL G' r M' → Q r H'
theorem len__law_moved {K : PySem.W.Frag} {vs : List V} {H : Hp} {Q : VK} {E : XK} (h : sp__law_moved K vs H Q E) : vs.length = P__law_moved.length := by
  obtain ⟨_, _, _, _, _, _, _, _, _, _, _, _, rfl, _⟩ := h; rfl
/-- shown, with no pool -/
theorem OM.show0 {H0 G H G0 : Hp} {a : Addr} {bs : List Addr} {M : Mx} (h : OM H0 G H a bs M) (s : Stp G0 H0 G H) : ∃ G', Stp G0 H0 G' H ∧ Ex G G' ∧ MxL G' (.ref a) M := by
  have key : ∀ (bs' : List Addr) (M' : Mx) (G1 : Hp), Paired (fun b r => H b = some (.lst (r.map V.int)) ∧ G b = none ∧ H0 b = none) bs' M' → bs'.Nodup → (∀ b, b ∈ bs' → G1 b = none) → Stp G0 H0 G1 H → Ex G G1 →
      ∃ G', Stp G0 H0 G' H ∧ Ex G1 G' ∧ (∀ c, c ∉ bs' → G' c = G1 c) ∧ Paired (Ls IR G') (bs'.map V.ref) M' := fun bs' M' => by
    intro G1 hp
    induction hp generalizing G1 with
    | nil => exact fun _ _ s _ => ⟨G1, s, Ex.refl _, fun _ _ => rfl, .nil⟩
    | @cons b r bt Mt hb1 hr ih =>
      intro nd hg s eg
      obtain ⟨e, g, z⟩ := hb1
      have nd := List.nodup_cons.mp nd
      have g1 := hg b List.mem_cons_self
      have s2 := s.add z g1 e
      have ex := Ex.new (o := .lst (r.map V.int)) g1
      obtain ⟨G', s3, e3, f3, p3⟩ := ih (upd G1 b (.lst (r.map V.int))) nd.2 (fun c hc => by rw [upd_ne (fun z => nd.1 (by rw [← z]; exact hc))]; exact hg c (List.mem_cons_of_mem _ hc)) s2 (eg.trans ex)
      refine ⟨G', s3, ex.trans e3, fun c hc => ?_, .cons ⟨b, _, rfl, e3 _ _ upd_same, ints_paired _ _⟩ p3⟩
      rw [f3 c (fun z => hc (List.mem_cons_of_mem _ z)), upd_ne (fun z => hc (by rw [z]; exact List.mem_cons_self))]
  have nd := List.nodup_cons.mp h.nd
  have hg : ∀ b, b ∈ bs → G b = none := fun b hb => by
    obtain ⟨i, hi⟩ := List.mem_iff_getElem?.mp hb
    obtain ⟨y, _, _, g, _⟩ := paired_get2 h.rows hi
    exact g
  obtain ⟨G', s3, e3, f3, p3⟩ := key bs M G h.rows nd.2 hg s (Ex.refl _)
  have ga : G' a = none := by rw [f3 a nd.1]; exact h.ga
  exact ⟨upd G' a (.lst (bs.map V.ref)), s3.add h.a0 ga h.ea, e3.trans (Ex.new ga), a, _, rfl, upd_same, paired_imp (fun _ _ => Mono.up (Ex.new ga)) p3⟩
theorem OM.put0 {H0 G0 G H : Hp} {a b : Addr} {bs : List Addr} {M : Mx} {n i j : Nat} (O : OM H0 G H a bs M) (s : Stp G0 H0 G H) (hS : Sqm n M) (hi : i < n) (hj : j < n) (hb : bs[i]? = some b) :
    ∃ us, H b = some (.lst us) ∧ j < us.length ∧ G b = none ∧ H0 b = none ∧ ∀ x, Stp G0 H0 G (upd H b (.lst (us.set j (.int x)))) ∧ OM H0 G (upd H b (.lst (us.set j (.int x)))) a bs (put2 M i j x) := by
  obtain ⟨r, er, hl, _⟩ := hS.row hi
  obtain ⟨b', hb', _, e, g, z⟩ := O.row er
  rw [hb] at hb'
  cases hb'
  refine ⟨r.map V.int, e, by rw [List.length_map, hl]; exact hj, g, z, fun x => ⟨s.mut z g, ?_⟩⟩
  rw [← List.map_set]
  exact O.put er hb
theorem perm_lt {n : Nat} {os : List Nat} (h : os.Perm (List.range n)) {i : Nat} (hi : i < n) : ∃ x, os[i]? = some x ∧ x < n := by
  have hl : os.length = n := by rw [h.length_eq, List.length_range]
  refine ⟨os[i], List.getElem?_eq_getElem (by omega), ?_⟩
  exact List.mem_range.mp (h.mem_iff.mp (List.getElem_mem (by omega)))
theorem ok__law_moved {P : Program} {w : World} {K : PySem.W.Frag} {mg : Str → Option Value} {base : Heap} {k : Nat} (T : Tx K mg) (G__law_blank : Ok P w K mg base k "_law_blank" P__law_blank (sp__law_blank K)) : Ok P w K mg base (k + 1) "_law_moved" P__law_moved (sp__law_moved K) := by
  obtain ⟨fd__law_blank, G__law_blank, B__law_blank, K__law_blank⟩ := G__law_blank
  refine ok_of T.d__law_moved sc__law_moved (fun _ _ _ _ _ _ us hl => match us, hl with | [_, _], _ => rfl) (fun vs H Q E h => ?_) (fun f cdv A outer s H vs Q E hr h => ?_)
  · exact len__law_moved h
  · refine ⟨_, (pss_cons (ps_set (i := 2) sc__law_moved.nd rfl (by first | exact Or.inl rfl | exact Or.inr rfl) (pe_callB call_len_seq (by rfl) T.f_len PySem.boot_len (pa_cons (pv 1) pa_nil)))
      (pss_cons (ps_set (i := 3) sc__law_moved.nd rfl (by first | exact Or.inl rfl | exact Or.inr rfl) (pe_call G__law_blank hr (by rfl) T.g__law_blank K__law_blank B__law_blank .nil pass0 (pa_cons (pv 2) pa_nil)))
      (pss_cons (ps_for PassesOwn.never rfl (pi_range1 (by rfl) T.f_range (pa_cons (pv 2) pa_nil)) (pg_name (i := 4) sc__law_moved.nd rfl (by first | exact Or.inl rfl | exact Or.inr rfl)) (pss_one (ps_for PassesOwn.never rfl (pi_range1 (by rfl) T.f_range (pa_cons (pv 2) pa_nil)) (pg_name (i := 5) sc__law_moved.nd rfl (by first | exact Or.inl rfl | exact Or.inr rfl)) (pss_cons (ps_set (i := 6) sc__law_moved.nd rfl (by first | exact Or.inl rfl | exact Or.inr rfl) (pe_ix ix_list (pv 3) (pe_ix ix_list (pv 1) (pv 4) (fun _ _ => rfl)) (fun _ _ => rfl)))
      (pss_one (ps_asg (pe_ix ix_list (pe_ix ix_list (pv 0) (pv 4) (fun _ _ => rfl)) (pv 5) (fun _ _ => rfl)) (pg_sub (pv 6) (pe_ix ix_list (pv 1) (pv 5) (fun _ _ => rfl)) set_list)))))))
      (pss_one (ps_ret (pv 3)))))), ?_⟩
    obtain ⟨G, n, M, os, u, v, e, hn, hS, hpm, hu, hv, rfl, q⟩ := h
    have hl : os.length = n := by rw [hpm.length_eq, List.length_range]
    have hnd : os.Nodup := hpm.nodup_iff.mpr List.nodup_range
    refine s_set (R := IR) (x := (n : Int)) ((ev_lenL (R := NR) (xs := os) (ev_var rfl hv)).eq (by rw [hl])) e fun x G1 H1 s1 r1 => ?_
    obtain rfl := r1
    refine s_blank (ev_varI rfl) (by omega) s1.v fun a bs G2 H2 s2 O2 => ?_
    have S2 := s1.trans s2
    have O2 : OM H G2 H2 a bs (zeroM n) := ⟨s1.h.none O2.a0, O2.ga, O2.ea, O2.nd, paired_imp (fun _ _ ⟨e, g, z⟩ => ⟨e, g, s1.h.none z⟩) O2.rows⟩
    refine s_for (I := fun i σ G' H' => Stp G H G' H' ∧ (∃ M', OM H G' H' a bs M' ∧ Sqm n M' ∧ ∀ k j, k < i → j < n → at2 M' (os.getD k 0) (os.getD j 0) = at2 M k j) ∧ ∃ c4 c5 c6, σ = [some u, some v, some (.int (n : Int)), some (.ref a), c4, c5, c6]) (ei_range1 (m := (n : Int)) (ea_consI (ev_varI rfl) ea_nil) (by omega) (by omega)) S2.v ?_ ?_ ?_
    · exact fun G3 H3 s3 => ⟨S2.trans s3, ⟨_, O2.stp s3, zeroM_sq n, fun k j hk => by omega⟩, none, none, none, rfl⟩
    · rintro i x σ Gp Hq G' H' G1' hi e1 e2 ⟨S3, ⟨M3, O3, Q3, R3⟩, c4, c5, c6, rfl⟩ s4 rfl
      rw [Int.toNat_natCast] at hi
      have S4 := S3.trans s4
      have O4 := O3.stp s4
      refine s_for' (I := fun j σ G' H' => Stp G H G' H' ∧ (∃ M', OM H G' H' a bs M' ∧ Sqm n M' ∧ (∀ k j, k < i → j < n → at2 M' (os.getD k 0) (os.getD j 0) = at2 M k j) ∧ ∀ k, k < j → at2 M' (os.getD i 0) (os.getD k 0) = at2 M i k) ∧ ∃ c5 c6, σ = [some u, some v, some (.int (n : Int)), some (.ref a), some (.int (i : Int)), c5, c6]) (ei_range1 (m := (n : Int)) (ea_consI (ev_varI rfl) ea_nil) (by omega) (by omega)) S4.v ?_ ?_ ?_
      · exact fun G5 H5 s5 => ⟨S4.trans s5, ⟨_, O4.stp s5, Q3, R3, fun k hk => by omega⟩, _, _, rfl⟩
      · rintro j x σ Gs Hs Gt Ht Gu hj f1 f2 ⟨S5, ⟨M5, O5, Q5, R5, T5⟩, c5', c6', rfl⟩ s6 rfl
        rw [Int.toNat_natCast] at hj
        have S6 := S5.trans s6
        have O6 := O5.stp s6
        obtain ⟨oi, hoi, li⟩ := perm_lt hpm hi
        obtain ⟨oj, hoj, lj⟩ := perm_lt hpm hj
        obtain ⟨b, hb⟩ : ∃ b, bs[oi]? = some b := ⟨_, List.getElem?_eq_getElem (by rw [O6.len, Q5.l]; exact li)⟩
        refine s_set (R := VR) (x := .ref b) (ev_rowOwn O6 rfl hb ((ev_ixL (R := NR) (n := i) (xs := os) (ev_var rfl (Mono.up S6.g hv)) (ev_varI rfl) rfl hoi).imp fun _ _ h => h)) S6.v fun v' G7 H7 s7 r7 => ?_
        obtain rfl := r7
        have S7 := S6.trans s7
        have O7 := O6.stp s7
        obtain ⟨us, e7, hl7, g7, z7, put7⟩ := O7.put0 S7 Q5 li lj hb
        obtain ⟨r, er, hrl, hr⟩ := hS.row hi
        refine s_store1 (R := IR) (y := at2 M i j) (j := oj) rfl e7 hl7 (ev_ixL (R := IR) (n := j) (xs := r) (ev_ixL (R := Ls IR) (n := i) (xs := M) (ev_var rfl (Mono.up S7.g hu)) (ev_varI rfl) rfl er) (ev_varI rfl) rfl (hr j hj)) ((ev_ixL (R := NR) (n := j) (xs := os) (ev_var rfl (Mono.up S7.g hv)) (ev_varI rfl) rfl hoj).imp fun _ _ h => h) S7.v fun v' G8 H8 s8 r8 => ?_
        obtain rfl := r8
        obtain ⟨us8, e8, hl8, g8, z8, put8⟩ := (O7.stp s8).put0 (S7.trans s8) Q5 li lj hb
        have : us8 = us := by
          have := s8.h _ _ e7
          rw [e8] at this
          cases this; rfl
        subst this
        obtain ⟨S9, O9⟩ := put8 (at2 M i j)
        have gi : os.getD i 0 = oi := getD_of hoi
        have gj : os.getD j 0 = oj := getD_of hoj
        refine ⟨G8, f2.trans (s6.g.trans (s7.g.trans s8.g)), S9.v, S9, ⟨_, O9, put2_sq Q5 li, fun k j' hk hj' => ?_, fun k hk => ?_⟩, _, _, rfl⟩
        · obtain ⟨ok, hok, _⟩ := perm_lt hpm (show k < n by omega)
          have ne : os.getD k 0 ≠ oi := fun z => by
            rw [getD_of hok] at z
            subst z
            have := nd_ix hnd hok hoi
            omega
          rw [put2_at Q5 li lj, if_neg (fun z => ne z.1)]
          exact R5 k j' hk hj'
        · rw [put2_at Q5 li lj]
          by_cases ek : k = j
          · subst ek
            rw [if_pos ⟨gi, gj⟩]
          · obtain ⟨ok, hok, _⟩ := perm_lt hpm (show k < n by omega)
            have ne : os.getD k 0 ≠ oj := fun z => by
              rw [getD_of hok] at z
              subst z
              exact ek (nd_ix hnd hok hoj)
            rw [if_neg (fun z => ne z.2)]
            exact T5 k (by omega)
      · rintro σ Gs Hs f1 f2 ⟨S5, ⟨M5, O5, Q5, R5, T5⟩, c5', c6', rfl⟩
        rw [Int.toNat_natCast] at T5
        refine ⟨Gs, e2.trans (s4.g.trans f1), f2, S5, ⟨M5, O5, Q5, fun k j hk hj => ?_⟩, _, _, _, rfl⟩
        by_cases ek : k = i
        · subst ek; exact T5 j hj
        · exact R5 k j (by omega) hj
    · rintro σ G' H' e1 e2 ⟨S3, ⟨M3, O3, Q3, R3⟩, c4, c5, c6, rfl⟩
      rw [Int.toNat_natCast] at R3
      obtain ⟨G4, S4, e4, r4⟩ := O3.show0 S3
      exact s_ret (R := MxL) (x := M3) (ev_var rfl r4) S4.v fun v' G5 H5 s5 r5 => q v' M3 G5 H5 Q3 R3 (S4.trans s5) r5
/-- moved webs are webs -/
theorem moved_wb {n : Nat} {M M' : Mx} {os : List Nat} (hpm : os.Perm (List.range n)) (W : Wb n M) (L : Lkd n (at2 M)) (hS : Sqm n M') (h : ∀ i j, i < n → j < n → at2 M' (os.getD i 0) (os.getD j 0) = at2 M i j) : Wb n M' ∧ Lkd n (at2 M') := by
  have inv : ∀ a, a < n → ∃ i, i < n ∧ os.getD i 0 = a := fun a ha => by
    obtain ⟨i, hi⟩ := List.mem_iff_getElem?.mp (hpm.mem_iff.mpr (List.mem_range.mpr ha))
    have hl : os.length = n := by rw [hpm.length_eq, List.length_range]
    exact ⟨i, by rw [← hl]; exact (List.getElem?_eq_some_iff.mp hi).1, getD_of hi⟩
  have lt : ∀ i, i < n → os.getD i 0 < n := fun i hi => by
    obtain ⟨x, hx, l⟩ := perm_lt hpm hi
    rw [getD_of hx]; exact l
  refine ⟨⟨hS, fun a b ha hb => ?_, fun a ha => ?_⟩, ?_⟩
  · obtain ⟨i, hi, rfl⟩ := inv a ha
    obtain ⟨j, hj, rfl⟩ := inv b hb
    rw [h i j hi hj]; exact W.b i j hi hj
  · obtain ⟨i, hi, rfl⟩ := inv a ha
    rw [h i i hi hi]; exact W.d i hi
  · rintro P ⟨a, ha, pa⟩ ⟨b, hb, pb⟩
    obtain ⟨i, hi, rfl⟩ := inv a ha
    obtain ⟨j, hj, rfl⟩ := inv b hb
    obtain ⟨x, y, hx, hy, px, py, t⟩ := L (fun k => P (os.getD k 0)) ⟨i, hi, pa⟩ ⟨j, hj, pb⟩
    exact ⟨_, _, lt x hx, lt y hy, px, py, by rw [h x y hx hy]; exact t⟩
abbrev N__law_two_way : List Str := ["_law_pool_here", "_law_size_here", "_law_word", "_law_takes", "_law_j", "_law_near", "_law_i"]
abbrev P__law_two_way : List Str := ["_law_pool_here", "_law_size_here", "_law_word"]
theorem sc__law_two_way : FnScope N__law_two_way P__law_two_way (defScope s__law_two_way) := ⟨rfl, rfl, rfl, by decide +kernel, rfl, by decide +kernel, by decide +kernel⟩
def sp__law_two_way (K : PySem.W.Frag) : Sp := fun vs H Q _ => ∃ (G : Hp) (pl : Addr) (n : Nat) (wd : Int), Ex G H ∧ Pl G H pl ∧ 2 ≤ n ∧ n ≤ 4 ∧ vs = [.ref pl, .int (n : Int), .int wd] ∧ ∀ u M G' H', Wb n M → Lkd n (at2 M) → PS pl G H G' H' → MxL G' u M → Q u H'
theorem len__law_two_way {K : PySem.W.Frag} {vs : List V} {H : Hp} {Q : VK} {E : XK} (h : sp__law_two_way K vs H Q E) : vs.length = P__law_two_way.length := by
  obtain ⟨_, _, _, _, _, _, _, _, rfl, _⟩ := h; rfl
/-- two links stored -/
def Two (n : Nat) (M : Mx) (j : Nat) : Prop := Wb n M ∧ ∀ k, 0 < k → k < j → ∃ i, i < k ∧ 0 < at2 M i k ∧ 0 < at2 M k i
theorem Two.both {n : Nat} {M : Mx} {j a b : Nat} {x y : Int} (h : Two n M j) (ha : a < n) (hb : b < n) (ne : a ≠ b) (x1 : 1 ≤ x) (x2 : x < 4000) (y1 : 1 ≤ y) (y2 : y < 4000) : Two n (put2 (put2 M a b x) b a y) j ∧ 0 < at2 (put2 (put2 M a b x) b a y) a b ∧ 0 < at2 (put2 (put2 M a b x) b a y) b a := by
  obtain ⟨W, t⟩ := h
  have W1 := W.put ha hb ne (by omega) x2
  have W2 := W1.put hb ha ne.symm (by omega) y2
  refine ⟨⟨W2, fun k k0 kj => ?_⟩, ?_, ?_⟩
  · obtain ⟨i, hi, t1, t2⟩ := t k k0 kj
    exact ⟨i, hi, put2_pos W1.s hb ha (by omega) (put2_pos W.s ha hb (by omega) t1), put2_pos W1.s hb ha (by omega) (put2_pos W.s ha hb (by omega) t2)⟩
  · refine put2_pos W1.s hb ha (by omega) ?_
    rw [put2_here W.s ha hb]; omega
  · rw [put2_here W1.s hb ha]; omega

end Cy
namespace Cy
open PySem PySem.Spec PyProof.Rows L2 He
local macro_rules | `(tactic| tm_at "ex") => `(tactic| first
  | exact Ex.refl _ | assumption | exact Stp.g (by assumption) | exact Stp.v (by assumption)
  | (refine Ex.trans (Stp.g (by assumption)) ?_; tm_at "ex")
  | (refine Ex.trans (by assumption) ?_; tm_at "ex"))
local macro_rules | `(tactic| tm_at "rl") => `(tactic| first
  | exact rfl | assumption | (apply Mono.up; rotate_left; assumption; tm_at "ex"))
local macro_rules | `(tactic| tm_at "sc") => `(tactic| first | assumption | omega)
local macro_rules | `(tactic| tm_at "ev") => `(tactic| first
  | exact ev_int | exact ev_bl | assumption
  | (apply ev_varI; exact rfl)
  | (apply ev_var; exact rfl; tm_at "rl")
  | (apply ev_I0; tm_at "ev"; tm_at "ev")
  | (apply ev_B0; tm_at "ev"; tm_at "ev")
  | (apply ev_I; tm_at "ev"; tm_at "ev"; tm_at "sc")
  | (apply ev_un; tm_at "ev")
  | (apply ev_eqI; tm_at "ev"; tm_at "ev")
  | (apply ev_neI; tm_at "ev"; tm_at "ev")
  | (apply ev_fstI; tm_at "ev")
  | (apply ev_sndI; tm_at "ev")
  | (apply ev_max2; tm_at "ev"; tm_at "ev")
  | (apply ev_min2; tm_at "ev"; tm_at "ev")
  | (apply ev_abs; tm_at "ev")
  | (apply ev_int1; tm_at "ev")
  | (apply ev_bits; tm_at "ev")
  | (apply ev_gcd; tm_at "ev"; tm_at "ev")
  | (apply ev_len; tm_at "ev")
  | (apply ev_tup2; tm_at "ev"; tm_at "ev"))
local macro_rules | `(tactic| tm_at "ea") => `(tactic| first
  | exact ea_nil
  | (apply ea_consI; tm_at "ev"; tm_at "ea")
  | (apply ea_cons; tm_at "ev"; tm_at "ea"))
local macro_rules | `(tactic| tm_at "et") => `(tactic| first
  | (apply et_test; tm_at "ev")
  | (apply et_B; tm_at "ev")
  | (apply et_not; tm_at "et"))

open Cr
theorem s_both {K : PySem.W.Frag} {σ : L2.St} {G0 H0 G H : Hp} {pl a : Addr} {bs : List Addr} {M : Mx} {n i j p q r s : Nat} {E : XK} {D : Ends} (ps : PS pl G0 H0 G H) (O : OM H0 G H a bs M) (hS : Sqm n M) (hi : i < n) (hj : j < n) (hij : i ≠ j) (hp : σ[p]? = some (some (.ref pl))) (hq : σ[q]? = some (some (.ref a))) (h1 : σ[r]? = some (some (.int (i : Int)))) (h2 : σ[s]? = some (some (.int (j : Int))))
    (k : ∀ (x y : Int) G' H', 1 ≤ x → x ≤ 968 → 1 ≤ y → y ≤ 968 → PS pl G0 H0 G' H' → Ex G G' → OM H0 G' H' a bs (put2 (put2 M i j x) j i y) → D.nx σ H') : tDrop (tCall (sp__law_both K) [] E (tCons (tVar p) (tCons (tVar q) (tCons (tVar r) (tCons (tVar s) tNil))))) D σ H :=
  ⟨_, hp, _, hq, _, h1, _, h2, G0, H0, G, pl, a, bs, M, n, i, j, ps, O, hS, hi, hj, hij, rfl, fun x y G' H' x1 x2 y1 y2 ps' ex O' => k x y G' H' x1 x2 y1 y2 ps' ex O'⟩
def TwI (pl : Addr) (G H : Hp) (a : Addr) (bs : List Addr) (n : Nat) (wd : Int) (j : Nat) (σ : L2.St) (G' H' : Hp) : Prop := PS pl G H G' H' ∧ (∃ M, OM H G' H' a bs M ∧ Two n M (j + 1)) ∧ ∃ c4 c5 c6, σ = [some (.ref pl), some (.int (n : Int)), some (.int wd), some (.ref a), c4, c5, c6]
theorem ok__law_two_way {P : Program} {w : World} {K : PySem.W.Frag} {mg : Str → Option Value} {base : Heap} {k : Nat} (T : Tx K mg) (G__law_blank : Ok P w K mg base k "_law_blank" P__law_blank (sp__law_blank K)) (G__law_both : Ok P w K mg base k "_law_both" P__law_both (sp__law_both K)) (G__law_pick : Ok P w K mg base k "_law_pick" P__law_pick (sp__law_pick K)) : Ok P w K mg base (k + 1) "_law_two_way" P__law_two_way (sp__law_two_way K) := by
  obtain ⟨fd__law_blank, G__law_blank, B__law_blank, K__law_blank⟩ := G__law_blank
  obtain ⟨fd__law_both, G__law_both, B__law_both, K__law_both⟩ := G__law_both
  obtain ⟨fd__law_pick, G__law_pick, B__law_pick, K__law_pick⟩ := G__law_pick
  refine ok_of T.d__law_two_way sc__law_two_way (fun _ _ _ _ _ _ us hl => match us, hl with | [_, _, _], _ => rfl) (fun vs H Q E h => ?_) (fun f cdv A outer s H vs Q E hr h => ?_)
  · exact len__law_two_way h
  · refine ⟨_, (pss_cons (ps_set (i := 3) sc__law_two_way.nd rfl (by first | exact Or.inl rfl | exact Or.inr rfl) (pe_call G__law_blank hr (by rfl) T.g__law_blank K__law_blank B__law_blank .nil pass0 (pa_cons (pv 1) pa_nil)))
      (pss_cons (ps_for PassesOwn.never rfl (pi_range2 (by rfl) T.f_range (pa_cons pe_int (pa_cons (pv 1) pa_nil))) (pg_name (i := 4) sc__law_two_way.nd rfl (by first | exact Or.inl rfl | exact Or.inr rfl)) (pss_cons (ps_set (i := 5) sc__law_two_way.nd rfl (by first | exact Or.inl rfl | exact Or.inr rfl) (pe_op op_sub (pv 4) pe_int))
      (pss_cons (ps_if (pt_cmpR op_eq (pv 2) pe_int (nomark _)) (pss_one (ps_set (i := 5) sc__law_two_way.nd rfl (by first | exact Or.inl rfl | exact Or.inr rfl) (pe_call G__law_pick hr (by rfl) T.g__law_pick K__law_pick B__law_pick .nil pass0 (pa_cons (pv 0) (pa_cons (pv 4) pa_nil))))) pss_nil)
      (pss_cons (ps_expr (pe_call G__law_both hr (by rfl) T.g__law_both K__law_both B__law_both .nil pass0 (pa_cons (pv 0) (pa_cons (pv 3) (pa_cons (pv 5) (pa_cons (pv 4) pa_nil))))))
      (pss_one (ps_if (pt_cmpR op_eq (pv 2) pe_int (nomark _)) (pss_one (ps_for PassesOwn.never rfl (pi_range1 (by rfl) T.f_range (pa_cons (pe_op op_sub (pv 4) pe_int) pa_nil)) (pg_name (i := 6) sc__law_two_way.nd rfl (by first | exact Or.inl rfl | exact Or.inr rfl)) (pss_one (ps_if (pt_cmpR op_eq (pe_call G__law_pick hr (by rfl) T.g__law_pick K__law_pick B__law_pick .nil pass0 (pa_cons (pv 0) (pa_cons pe_int pa_nil))) pe_int (nomark _)) (pss_one (ps_expr (pe_call G__law_both hr (by rfl) T.g__law_both K__law_both B__law_both .nil pass0 (pa_cons (pv 0) (pa_cons (pv 3) (pa_cons (pv 6) (pa_cons (pv 4) pa_nil))))))) pss_nil)))) pss_nil))))))
      (pss_one (ps_ret (pv 3))))), ?_⟩
    obtain ⟨G, pl, n, wd, e, hp, hn2, hn4, rfl, q⟩ := h
    refine s_blank (ev_varI rfl) (by omega) e fun a bs G1 H1 s1 O1 => ?_
    have P1 := (hp.refl e).stp s1
    refine s_for (I := TwI pl G H a bs n wd) (ei_range2 (a := 1) (b := (n : Int)) (ea_consI ev_int (ea_consI (ev_varI rfl) ea_nil)) ⟨by omega, by omega, by omega, by omega⟩) P1.e ?_ ?_ ?_
    · exact fun G2 H2 s2 => ⟨P1.stp s2, ⟨_, O1.stp s2, .zero n, fun k k0 k1 => by omega⟩, none, none, none, rfl⟩
    · rintro t x σ Gp Hq G' H' G1' ht e1 e2 ⟨P2, ⟨M, O2, T2⟩, c4, c5, c6, rfl⟩ s3 rfl
      obtain ⟨j, hj⟩ : ∃ j, j = t + 1 := ⟨_, rfl⟩
      rw [show (1 : Int) + (t : Int) = (j : Int) by omega]
      have hjn : j < n := by omega
      have P3 := P2.stp s3
      have O3 := O2.stp s3
      refine s_set (R := IR) (x := ((j - 1 : Nat) : Int)) ((ev_I0 (f := fun i j => i - j) (ev_varI rfl) ev_int).eq (show (j : Int) - 1 = _ by omega)) P3.e fun v G4 H4 s4 r4 => ?_
      obtain rfl := r4
      have P4 := P3.stp s4
      have O4 := O3.stp s4
      -- behind the choice of the near place
      have rest : ∀ (nr : Nat) G5 H5, nr < j → PS pl G H G5 H5 → OM H G5 H5 a bs M → Ex Gp G5 → (tSeq (tDrop (tCall (sp__law_both K) [] E0 (tCons (tVar 0) (tCons (tVar 3) (tCons (tVar 5) (tCons (tVar 4) tNil)))))) (tIfS (tTest (tOp rEq (tVar 2) (tC (.int 0)))) (tFor (iRng1 (tCons (tOp qSub (tVar 4) (tC (.int 1))) tNil)) (gName 6) (tIfS (tTest (tOp rEq (tCall (sp__law_pick K) [] E0 (tCons (tVar 0) (tCons (tC (.int 2)) tNil))) (tC (.int 1)))) (tDrop (tCall (sp__law_both K) [] E0 (tCons (tVar 0) (tCons (tVar 3) (tCons (tVar 6) (tCons (tVar 4) tNil)))))) tNext)) tNext)) { nx := fun σ H' => ∃ G', Ex G1' G' ∧ Ex G' H' ∧ TwI pl G H a bs n wd (t + 1) σ G' H', ct := fun σ H' => ∃ G', Ex G1' G' ∧ Ex G' H' ∧ TwI pl G H a bs n wd (t + 1) σ G' H', bk := fun σ H' => False, rt := Q } [some (.ref pl), some (.int (n : Int)), some (.int wd), some (.ref a), some (.int (j : Int)), some (.int (nr : Int)), c6] H5 := fun nr G5 H5 hnr P5 O5 ex => by
        refine s_both (D := { nx := _, ct := _, bk := _, rt := _ }) (p := 0) (q := 3) (r := 5) (s := 4) (i := nr) (j := j) P5 O5 T2.1.s (by omega) hjn (by omega) rfl rfl rfl rfl fun x y G6 H6 x1 x2 y1 y2 P6 ex6 O6 => ?_
        obtain ⟨T6, z1, z2⟩ := T2.both (a := nr) (b := j) (x := x) (y := y) (by omega) hjn (by omega) x1 (by omega) y1 (by omega)
        have T7 : Two n (put2 (put2 M nr j x) j nr y) (j + 1) := ⟨T6.1, fun k k0 kj => by
          by_cases ek : k = j
          · subst ek; exact ⟨nr, hnr, z1, z2⟩
          · exact T6.2 k k0 (by omega)⟩
        generalize put2 (put2 M nr j x) j nr y = M6 at *
        refine s_if (b := decide (wd = 0)) (et_test (ev_eqI (ev_varI rfl) ev_int)) P6.e (fun G7 H7 s7 _ => ?_) (fun G7 H7 s7 _ => ?_)
        · refine s_for' (I := fun _ σ G' H' => PS pl G H G' H' ∧ (∃ M, OM H G' H' a bs M ∧ Two n M (j + 1)) ∧ ∃ c6, σ = [some (.ref pl), some (.int (n : Int)), some (.int wd), some (.ref a), some (.int (j : Int)), some (.int (nr : Int)), c6]) (ei_range1 (m := (j : Int) - 1) (ea_consI (ev_I0 (f := fun i j => i - j) (ev_varI rfl) ev_int) ea_nil) (by omega) (by omega)) s7.v ?_ ?_ ?_
          · exact fun G8 H8 s8 => ⟨P6.stp (s7.trans s8), ⟨_, (O6.stp s7).stp s8, T7⟩, _, rfl⟩
          · rintro i v σ Gs Hs Gt Ht Gu hi f1 f2 ⟨P8, ⟨M8, O8, T8⟩, c6', rfl⟩ s9 rfl
            have P9 := P8.stp s9
            have O9 := O8.stp s9
            refine et_pick (p := 0) (m := 2) (c := 1) rfl ev_int (by decide) P9.e (Pl.ps P9) fun k G10 H10 hk p10 => ?_
            have P10 := P9.trans p10
            have O10 := O9.ps p10 P9.b
            by_cases z : (k : Int) = 1
            · rw [decide_eq_true z]
              refine s_both (D := { nx := _, ct := _, bk := _, rt := _ }) (p := 0) (q := 3) (r := 6) (s := 4) (i := i) (j := j) P10 O10 T8.1.s (by omega) hjn (by omega) rfl rfl rfl rfl fun x y G11 H11 x1 x2 y1 y2 P11 ex11 O11 => ?_
              obtain ⟨T11, _, _⟩ := T8.both (a := i) (b := j) (x := x) (y := y) (by omega) hjn (by omega) x1 (by omega) y1 (by omega)
              exact ⟨G11, f2.trans (s9.g.trans (p10.eg.trans ex11)), P11.e, P11, ⟨_, O11, T11⟩, _, rfl⟩
            · rw [decide_eq_false z]
              exact ⟨G10, f2.trans (s9.g.trans p10.eg), P10.e, P10, ⟨_, O10, T8⟩, _, rfl⟩
          · rintro σ Gs Hs f1 f2 ⟨P8, ⟨M8, O8, T8⟩, c6', rfl⟩
            exact ⟨Gs, e2.trans (ex.trans (ex6.trans (s7.g.trans f1))), f2, P8, ⟨M8, O8, by rw [← hj]; exact T8⟩, _, _, _, rfl⟩
        · exact ⟨G7, e2.trans (ex.trans (ex6.trans s7.g)), s7.v, P6.stp s7, ⟨M6, O6.stp s7, by rw [← hj]; exact T7⟩, _, _, _, rfl⟩
      refine s_ifc (b := decide (wd = 2)) (et_test (ev_eqI (ev_varI rfl) ev_int)) P4.e (fun G5 H5 s5 _ => ?_) (fun G5 H5 s5 _ => ?_)
      · have P5 := P4.stp s5
        refine pick_run (p := 0) (m := j) rfl (ev_varI rfl) (by omega) P5.e (Pl.ps P5) fun k G6 H6 hk p6 => ?_
        exact rest k G6 H6 hk (P5.trans p6) ((O4.stp s5).ps p6 P5.b) (s3.g.trans (s4.g.trans (s5.g.trans p6.eg)))
      · exact rest (j - 1) G5 H5 (by omega) (P4.stp s5) (O4.stp s5) (s3.g.trans (s4.g.trans s5.g))
    · rintro σ G' H' e1 e2 ⟨P2, ⟨M, O2, T2⟩, c4, c5, c6, rfl⟩
      rw [show ((n : Int) - 1).toNat + 1 = n by omega] at T2
      obtain ⟨G3, P3, e3, r3⟩ := O2.show_ P2 (fun b h => h)
      exact s_ret (R := MxL) (x := M) (ev_var rfl r3) P3.e fun v G4 H4 s4 r4 => q v M G4 H4 T2.1 (tree_lkd T2.2) (P3.stp s4) r4

end Cy
namespace Cy
open PySem PySem.Spec PyProof.Rows L2 He
local macro_rules | `(tactic| tm_at "ex") => `(tactic| first
  | exact Ex.refl _ | assumption | exact Stp.g (by assumption) | exact Stp.v (by assumption)
  | (refine Ex.trans (Stp.g (by assumption)) ?_; tm_at "ex")
  | (refine Ex.trans (by assumption) ?_; tm_at "ex"))
local macro_rules | `(tactic| tm_at "rl") => `(tactic| first
  | exact rfl | assumption | (apply Mono.up; rotate_left; assumption; tm_at "ex"))
local macro_rules | `(tactic| tm_at "sc") => `(tactic| first | assumption | omega)
local macro_rules | `(tactic| tm_at "ev") => `(tactic| first
  | exact ev_int | exact ev_bl | assumption
  | (apply ev_varI; exact rfl)
  | (apply ev_var; exact rfl; tm_at "rl")
  | (apply ev_I0; tm_at "ev"; tm_at "ev")
  | (apply ev_B0; tm_at "ev"; tm_at "ev")
  | (apply ev_I; tm_at "ev"; tm_at "ev"; tm_at "sc")
  | (apply ev_un; tm_at "ev")
  | (apply ev_eqI; tm_at "ev"; tm_at "ev")
  | (apply ev_neI; tm_at "ev"; tm_at "ev")
  | (apply ev_fstI; tm_at "ev")
  | (apply ev_sndI; tm_at "ev")
  | (apply ev_max2; tm_at "ev"; tm_at "ev")
  | (apply ev_min2; tm_at "ev"; tm_at "ev")
  | (apply ev_abs; tm_at "ev")
  | (apply ev_int1; tm_at "ev")
  | (apply ev_bits; tm_at "ev")
  | (apply ev_gcd; tm_at "ev"; tm_at "ev")
  | (apply ev_len; tm_at "ev")
  | (apply ev_tup2; tm_at "ev"; tm_at "ev"))
local macro_rules | `(tactic| tm_at "ea") => `(tactic| first
  | exact ea_nil
  | (apply ea_consI; tm_at "ev"; tm_at "ea")
  | (apply ea_cons; tm_at "ev"; tm_at "ea"))
local macro_rules | `(tactic| tm_at "et") => `(tactic| first
  | (apply et_test; tm_at "ev")
  | (apply et_B; tm_at "ev")
  | (apply et_not; tm_at "et"))

open Cr
section
variable {K : PySem.W.Frag} {σ : L2.St} {G0 H0 G H : Hp} {pl a b : Addr} {bs : List Addr} {M : Mx} {n i j x y p : Nat} {te : TE} {u : TS} {D : Ends} {v : Int} {E : XK}
/-- row[j] = e, the row of an own table -/
theorem s_putP (ps : PS pl G0 H0 G H) (O : OM H0 G H a bs M) (hS : Sqm n M) (hi : i < n) (hj : j < n) (hb : bs[i]? = some b) (hx : σ[x]? = some (some (.ref b))) (hy : σ[y]? = some (some (.int (j : Int)))) (h : Ev te σ G H IR v) (k : ∀ G' H', PS pl G0 H0 G' H' → Ex G G' → OM H0 G' H' a bs (put2 M i j v) → u D σ H') : tSeq (tAsg te (gSub (tVar x) (tVar y) rSetL)) u D σ H :=
  h.run ps.e fun w G1 H1 s1 r1 => by
    obtain rfl : w = .int v := r1
    obtain ⟨us, e1, l1, g1, P1, O1⟩ := (O.stp s1).putS (x := v) (ps.stp s1) hS hi hj hb
    exact ⟨_, hx, _, hy, b, us, (j : Int), j, rfl, rfl, e1, ixN_nat l1, k G1 _ P1 s1.g O1⟩
theorem s_putP1 (ps : PS pl G0 H0 G H) (O : OM H0 G H a bs M) (hS : Sqm n M) (hi : i < n) (hj : j < n) (hb : bs[i]? = some b) (hx : σ[x]? = some (some (.ref b))) (hy : σ[y]? = some (some (.int (j : Int)))) (h : Ev te σ G H IR v) (k : ∀ G' H', PS pl G0 H0 G' H' → Ex G G' → OM H0 G' H' a bs (put2 M i j v) → D.nx σ H') : tAsg te (gSub (tVar x) (tVar y) rSetL) D σ H :=
  h.run ps.e fun w G1 H1 s1 r1 => by
    obtain rfl : w = .int v := r1
    obtain ⟨us, e1, l1, g1, P1, O1⟩ := (O.stp s1).putS (x := v) (ps.stp s1) hS hi hj hb
    exact ⟨_, hx, _, hy, b, us, (j : Int), j, rfl, rfl, e1, ixN_nat l1, k G1 _ P1 s1.g O1⟩
theorem rate_run {Q : VK} (hp : σ[p]? = some (some (.ref pl))) (e : Ex G H) (a : Pl G H pl) (q : ∀ (r : Int) G' H', 1 ≤ r → r ≤ 968 → PS pl G H G' H' → Q (.int r) H') : tCall (sp__law_rate K) [] E (tCons (tVar p) tNil) σ H Q := ⟨_, hp, G, pl, e, a, rfl, q⟩
end
abbrev N__law_paced : List Str := ["_law_pool_here", "_law_size_here", "_law_takes", "_law_ahead", "_law_behind", "_law_j", "_law_i", "_law_heavy", "_law_speeds", "_law_row", "_law_other"]
abbrev P__law_paced : List Str := ["_law_pool_here", "_law_size_here"]
theorem sc__law_paced : FnScope N__law_paced P__law_paced (defScope s__law_paced) := ⟨rfl, rfl, rfl, by decide +kernel, rfl, by decide +kernel, by decide +kernel⟩
def sp__law_paced (K : PySem.W.Frag) : Sp := fun vs H Q _ => ∃ (G : Hp) (pl : Addr) (n : Nat), Ex G H ∧ Pl G H pl ∧ 2 ≤ n ∧ n ≤ 4 ∧ vs = [.ref pl, .int (n : Int)] ∧ ∀ u M G' H', Wb n M → Lkd n (at2 M) → PS pl G H G' H' → MxL G' u M → Q u H'
theorem len__law_paced {K : PySem.W.Frag} {vs : List V} {H : Hp} {Q : VK} {E : XK} (h : sp__law_paced K vs H Q E) : vs.length = P__law_paced.length := by
  obtain ⟨_, _, _, _, _, _, _, rfl, _⟩ := h; rfl
def PcI (pl : Addr) (G H : Hp) (a : Addr) (bs : List Addr) (n : Nat) (f g : Int) (j : Nat) (σ : L2.St) (G' H' : Hp) : Prop := PS pl G H G' H' ∧ (∃ M, OM H G' H' a bs M ∧ Two n M (j + 1)) ∧ ∃ c5 c6 c7 c8 c9 c10, σ = [some (.ref pl), some (.int (n : Int)), some (.ref a), some (.int f), some (.int g), c5, c6, c7, c8, c9, c10]
def PcJ (pl : Addr) (G H : Hp) (a : Addr) (bs : List Addr) (n : Nat) (f g : Int) (j i : Nat) (σ : L2.St) (G' H' : Hp) : Prop := PS pl G H G' H' ∧ (∃ M, OM H G' H' a bs M ∧ Two n M j ∧ (i = j → ∃ k, k < j ∧ 0 < at2 M k j ∧ 0 < at2 M j k)) ∧ ∃ c6 c7 c8 c9 c10, σ = [some (.ref pl), some (.int (n : Int)), some (.ref a), some (.int f), some (.int g), some (.int (j : Int)), c6, c7, c8, c9, c10]
theorem ok__law_paced {P : Program} {w : World} {K : PySem.W.Frag} {mg : Str → Option Value} {base : Heap} {k : Nat} (T : Tx K mg) (G__law_blank : Ok P w K mg base k "_law_blank" P__law_blank (sp__law_blank K)) (G__law_pick : Ok P w K mg base k "_law_pick" P__law_pick (sp__law_pick K)) (G__law_rate : Ok P w K mg base k "_law_rate" P__law_rate (sp__law_rate K)) : Ok P w K mg base (k + 1) "_law_paced" P__law_paced (sp__law_paced K) := by
  obtain ⟨fd__law_blank, G__law_blank, B__law_blank, K__law_blank⟩ := G__law_blank
  obtain ⟨fd__law_pick, G__law_pick, B__law_pick, K__law_pick⟩ := G__law_pick
  obtain ⟨fd__law_rate, G__law_rate, B__law_rate, K__law_rate⟩ := G__law_rate
  refine ok_of T.d__law_paced sc__law_paced (fun _ _ _ _ _ _ us hl => match us, hl with | [_, _], _ => rfl) (fun vs H Q E h => ?_) (fun f cdv A outer s H vs Q E hr h => ?_)
  · exact len__law_paced h
  · refine ⟨_, (pss_cons (ps_set (i := 2) sc__law_paced.nd rfl (by first | exact Or.inl rfl | exact Or.inr rfl) (pe_call G__law_blank hr (by rfl) T.g__law_blank K__law_blank B__law_blank .nil pass0 (pa_cons (pv 1) pa_nil)))
      (pss_cons (ps_set (i := 3) sc__law_paced.nd rfl (by first | exact Or.inl rfl | exact Or.inr rfl) (pe_op op_add pe_int (pe_call G__law_pick hr (by rfl) T.g__law_pick K__law_pick B__law_pick .nil pass0 (pa_cons (pv 0) (pa_cons pe_int pa_nil)))))
      (pss_cons (ps_set (i := 4) sc__law_paced.nd rfl (by first | exact Or.inl rfl | exact Or.inr rfl) (pe_op op_add pe_int (pe_call G__law_pick hr (by rfl) T.g__law_pick K__law_pick B__law_pick .nil pass0 (pa_cons (pv 0) (pa_cons pe_int pa_nil)))))
      (pss_cons (ps_for PassesOwn.never rfl (pi_range2 (by rfl) T.f_range (pa_cons pe_int (pa_cons (pv 1) pa_nil))) (pg_name (i := 5) sc__law_paced.nd rfl (by first | exact Or.inl rfl | exact Or.inr rfl)) (pss_one (ps_for PassesOwn.never rfl (pi_range1 (by rfl) T.f_range (pa_cons (pv 5) pa_nil)) (pg_name (i := 6) sc__law_paced.nd rfl (by first | exact Or.inl rfl | exact Or.inr rfl)) (pss_one (ps_if (PW.pt (pw_and (pt_cmpR op_eq (pe_op op_mod (pe_callTy call_int1 (by rfl) T.f_int (by decide +kernel) (pa_cons (pe_op op_sub (pv 5) (pv 6)) pa_nil)) pe_int) pe_int (nomark _)) (pw_and1 (PW.pt (pw_or (pt_cmpR op_eq (pv 6) (pe_op op_sub (pv 5) pe_int) (nomark _)) (pw_or1 (pt_cmpR op_eq (pe_call G__law_pick hr (by rfl) T.g__law_pick K__law_pick B__law_pick .nil pass0 (pa_cons (pv 0) (pa_cons pe_int pa_nil))) pe_int (nomark _)))))))) (pss_cons (ps_set (i := 7) sc__law_paced.nd rfl (by first | exact Or.inl rfl | exact Or.inr rfl) (pe_call G__law_rate hr (by rfl) T.g__law_rate K__law_rate B__law_rate .nil pass0 (pa_cons (pv 0) pa_nil)))
      (pss_cons (ps_set (i := 8) sc__law_paced.nd rfl (by first | exact Or.inl rfl | exact Or.inr rfl) (pe_lst (pa_cons (pv 3) (pa_cons (pv 4) pa_nil))))
      (pss_cons (ps_set (i := 9) sc__law_paced.nd rfl (by first | exact Or.inl rfl | exact Or.inr rfl) (pe_ix ix_list (pv 2) (pv 6) (fun _ _ => rfl)))
      (pss_cons (ps_asg (pe_op op_mulX (pv 7) (pe_ix ix_list (pv 8) (pe_op op_mod (pe_callTy call_int1 (by rfl) T.f_int (by decide +kernel) (pa_cons (pv 6) pa_nil)) pe_int) (fun _ _ => rfl))) (pg_sub (pv 9) (pv 5) set_list))
      (pss_cons (ps_set (i := 10) sc__law_paced.nd rfl (by first | exact Or.inl rfl | exact Or.inr rfl) (pe_ix ix_list (pv 2) (pv 5) (fun _ _ => rfl)))
      (pss_one (ps_asg (pe_op op_mulX (pv 7) (pe_ix ix_list (pv 8) (pe_op op_mod (pe_callTy call_int1 (by rfl) T.f_int (by decide +kernel) (pa_cons (pv 5) pa_nil)) pe_int) (fun _ _ => rfl))) (pg_sub (pv 10) (pv 6) set_list)))))))) pss_nil)))))
      (pss_one (ps_ret (pv 2))))))), ?_⟩
    obtain ⟨G, pl, n, e, hp, hn2, hn4, rfl, q⟩ := h
    refine s_blank (ev_varI rfl) (by omega) e fun a bs G1 H1 s1 O1 => ?_
    have P1 := (hp.refl e).stp s1
    refine pick_run (p := 0) (m := 4) rfl ev_int (by decide) P1.e (Pl.ps P1) fun k1 G2 H2 hk1 p2 => ⟨1, (k1 : Int), rfl, rfl, ?_⟩
    have P2 := P1.trans p2
    have O2 := O1.ps p2 P1.b
    refine pick_run (p := 0) (m := 4) rfl ev_int (by decide) P2.e (Pl.ps P2) fun k2 G3 H3 hk2 p3 => ⟨1, (k2 : Int), rfl, rfl, ?_⟩
    have P3 := P2.trans p3
    have O3 := O2.ps p3 P2.b
    obtain ⟨f, hf⟩ : ∃ f, f = 1 + (k1 : Int) := ⟨_, rfl⟩
    obtain ⟨g, hg⟩ : ∃ g, g = 1 + (k2 : Int) := ⟨_, rfl⟩
    have f1 : 1 ≤ f ∧ f ≤ 4 := by omega
    have g1 : 1 ≤ g ∧ g ≤ 4 := by omega
    unfold gName
    dsimp only
    rw [← hf, ← hg]
    refine s_for (I := PcI pl G H a bs n f g) (ei_range2 (a := 1) (b := (n : Int)) (ea_consI ev_int (ea_consI (ev_varI rfl) ea_nil)) ⟨by omega, by omega, by omega, by omega⟩) P3.e ?_ ?_ ?_
    · exact fun G4 H4 s4 => ⟨P3.stp s4, ⟨_, O3.stp s4, .zero n, fun k k0 k1 => by omega⟩, _, _, _, _, _, _, rfl⟩
    · rintro t x σ Gp Hq G' H' G1' ht e1 e2 ⟨P4, ⟨M, O4, T4⟩, c5, c6, c7, c8, c9, c10, rfl⟩ s5 rfl
      obtain ⟨j, hj⟩ : ∃ j, j = t + 1 := ⟨_, rfl⟩
      rw [show (1 : Int) + (t : Int) = (j : Int) by omega]
      rw [← hj] at T4
      have hjn : j < n := by omega
      have P5 := P4.stp s5
      have O5 := O4.stp s5
      refine s_for' (I := PcJ pl G H a bs n f g j) (ei_range1 (m := (j : Int)) (ea_consI (ev_varI rfl) ea_nil) (by omega) (by omega)) P5.e ?_ ?_ ?_
      · exact fun G6 H6 s6 => ⟨P5.stp s6, ⟨_, O5.stp s6, T4, fun z => by omega⟩, _, _, _, _, _, rfl⟩
      · rintro i x σ Gs Hs Gt Ht Gu hi z1 z2 ⟨P6, ⟨M6, O6, T6, L6⟩, c6', c7', c8', c9', c10', rfl⟩ s7 rfl
        rw [Int.toNat_natCast] at hi
        have P7 := P6.stp s7
        have O7 := O6.stp s7
        have hin : i < n := by omega
        obtain ⟨bi, hbi⟩ : ∃ b, bs[i]? = some b := ⟨_, List.getElem?_eq_getElem (by rw [O7.len, T6.1.s.l]; exact hin)⟩
        obtain ⟨bj, hbj⟩ : ∃ b, bs[j]? = some b := ⟨_, List.getElem?_eq_getElem (by rw [O7.len, T6.1.s.l]; exact hjn)⟩
        -- the two stores
        have body : ∀ G8 H8, PS pl G H G8 H8 → OM H G8 H8 a bs M6 → Ex Gt G8 → (tSeq (tAsg (tCall (sp__law_rate K) [] E0 (tCons (tVar 0) tNil)) (gName 7)) (tSeq (tAsg (tLst (tCons (tVar 3) (tCons (tVar 4) tNil))) (gName 8)) (tSeq (tAsg (tOp (rIxL K) (tVar 2) (tVar 6)) (gName 9)) (tSeq (tAsg (tOp qMul (tVar 7) (tOp (rIxL K) (tVar 8) (tOp qMod (tCB qInt (tCons (tVar 6) tNil)) (tC (.int 2))))) (gSub (tVar 9) (tVar 5) rSetL)) (tSeq (tAsg (tOp (rIxL K) (tVar 2) (tVar 5)) (gName 10)) (tAsg (tOp qMul (tVar 7) (tOp (rIxL K) (tVar 8) (tOp qMod (tCB qInt (tCons (tVar 5) tNil)) (tC (.int 2))))) (gSub (tVar 10) (tVar 6) rSetL)))))))
            { nx := fun σ H' => ∃ G', Ex Gu G' ∧ Ex G' H' ∧ PcJ pl G H a bs n f g j (i + 1) σ G' H', ct := fun σ H' => ∃ G', Ex Gu G' ∧ Ex G' H' ∧ PcJ pl G H a bs n f g j (i + 1) σ G' H', bk := fun σ H' => ∃ G', Ex G1' G' ∧ Ex G' H' ∧ PcI pl G H a bs n f g (t + 1) σ G' H', rt := Q } [some (.ref pl), some (.int (n : Int)), some (.ref a), some (.int f), some (.int g), some (.int (j : Int)), some (.int (i : Int)), c7', c8', c9', c10'] H8 := fun G8 H8 P8 O8 ex8 => by
          refine rate_run (p := 0) rfl P8.e (Pl.ps P8) fun r G9 H9 r1 r2 p9 => ?_
          have P9 := P8.trans p9
          have O9 := O8.ps p9 P8.b
          unfold gName
          dsimp only
          refine s_set (R := Ls IR) (x := [f, g]) (ev_lst (.cons (ev_varI rfl) (.cons (ev_varI rfl) .nil)) (by show 2 ≤ 100000; decide)) P9.e fun sp_ G10 H10 s10 r10 => ?_
          have P10 := P9.stp s10
          have O10 := O9.stp s10
          refine s_set (R := VR) (x := .ref bi) (ev_rowOwn O10 rfl hbi (ev_varI rfl)) P10.e fun v G11 H11 s11 r11 => ?_
          obtain rfl := r11
          have P11 := P10.stp s11
          have O11 := O10.stp s11
          have spd : ∀ k : Nat, ∃ s : Int, ([f, g] : List Int)[k % 2]? = some s ∧ 1 ≤ s ∧ s ≤ 4 := fun k => by
            rcases Nat.mod_two_eq_zero_or_one k with z | z <;> rw [z]
            · exact ⟨f, rfl, f1.1, f1.2⟩
            · exact ⟨g, rfl, g1.1, g1.2⟩
          have pr : ∀ s : Int, 1 ≤ s → s ≤ 4 → 1 ≤ r * s ∧ r * s < 4000 := fun s a1 a2 => by
            have : s = 1 ∨ s = 2 ∨ s = 3 ∨ s = 4 := by omega
            rcases this with rfl | rfl | rfl | rfl <;> omega
          have mu : ∀ s : Int, 1 ≤ s → s ≤ 4 → CMulX r s := fun s a1 a2 => mulx (a := 10) (b := 3) (by show Int.natAbs _ < 2 ^ 10; omega) (by show Int.natAbs _ < 2 ^ 3; omega)
          obtain ⟨s1', hs1, a1, a2⟩ := spd i
          obtain ⟨s2', hs2, b1, b2⟩ := spd j
          have im : ∀ k : Nat, (k : Int) % 2 = ((k % 2 : Nat) : Int) := fun k => by push_cast; rfl
          refine s_putP (i := i) (j := j) (x := 9) (y := 5) (b := bi) (v := r * s1') P11 O11 T6.1.s hin hjn hbi rfl rfl (ev_I (ev_varI rfl) (ev_ixL (R := IR) (n := i % 2) (xs := [f, g]) (ev_var rfl (Mono.up s11.g r10)) (ev_I (ev_int1 (ev_varI rfl)) ev_int (by decide)) (im i) hs1) (mu s1' a1 a2)) fun G12 H12 P12 e12 O12 => ?_
          have S12 := put2_sq (j := j) (x := r * s1') T6.1.s hin
          refine s_set (R := VR) (x := .ref bj) (ev_rowOwn O12 rfl hbj (ev_varI rfl)) P12.e fun v G13 H13 s13 r13 => ?_
          obtain rfl := r13
          have P13 := P12.stp s13
          have O13 := O12.stp s13
          refine s_putP1 (i := j) (j := i) (x := 10) (y := 6) (b := bj) (v := r * s2') P13 O13 S12 hjn hin hbj rfl rfl (ev_I (ev_varI rfl) (ev_ixL (R := IR) (n := j % 2) (xs := [f, g]) (ev_var rfl (Mono.up (s11.g.trans (e12.trans s13.g)) r10)) (ev_I (ev_int1 (ev_varI rfl)) ev_int (by decide)) (im j) hs2) (mu s2' b1 b2)) fun G14 H14 P14 e14 O14 => ?_
          obtain ⟨q1, q2⟩ := pr s1' a1 a2
          obtain ⟨q3, q4⟩ := pr s2' b1 b2
          obtain ⟨T14, w1, w2⟩ := T6.both (a := i) (b := j) (x := r * s1') (y := r * s2') hin hjn (by omega) q1 q2 q3 q4
          exact ⟨G14, z2.trans (s7.g.trans (ex8.trans (p9.eg.trans (s10.g.trans (s11.g.trans (e12.trans (s13.g.trans e14))))))), P14.e, P14, ⟨_, O14, T14, fun _ => ⟨i, hi, w1, w2⟩⟩, _, _, _, _, _, rfl⟩
        have skip : i + 1 ≠ j → ∀ G' H', PS pl G H G' H' → OM H G' H' a bs M6 → Ex Gt G' → ∃ G'', Ex Gu G'' ∧ Ex G'' H' ∧ PcJ pl G H a bs n f g j (i + 1) [some (.ref pl), some (.int (n : Int)), some (.ref a), some (.int f), some (.int g), some (.int (j : Int)), some (.int (i : Int)), c7', c8', c9', c10'] G'' H' := fun ne G' H' P O ex =>
          ⟨G', z2.trans (s7.g.trans ex), P.e, P, ⟨_, O, T6, fun z => absurd z ne⟩, _, _, _, _, _, rfl⟩
        refine (et_test (ev_eqI (i := ((j : Int) - (i : Int)) % 2) (j := 1) (ev_I (ev_int1 (ev_I0 (f := fun i j => i - j) (ev_varI (i := 5) (n := (j : Int)) rfl) (ev_varI (i := 6) (n := (i : Int)) rfl))) ev_int (by decide)) ev_int)).run P7.e fun G8 H8 s8 => ?_
        have P8 := P7.stp s8
        have O8 := O7.stp s8
        by_cases c1 : ((j : Int) - (i : Int)) % 2 = 1
        · rw [decide_eq_true c1]
          refine (et_test (ev_eqI (i := (i : Int)) (j := (j : Int) - 1) (ev_varI (i := 6) rfl) (ev_I0 (f := fun i j => i - j) (ev_varI (i := 5) (n := (j : Int)) rfl) ev_int))).run P8.e fun G9 H9 s9 => ?_
          have P9 := P8.stp s9
          have O9 := O8.stp s9
          by_cases c2 : (i : Int) = (j : Int) - 1
          · rw [decide_eq_true c2]
            exact body G9 H9 P9 O9 (s8.g.trans s9.g)
          · rw [decide_eq_false c2]
            refine et_pick (p := 0) (m := 2) (c := 1) rfl ev_int (by decide) P9.e (Pl.ps P9) fun k G10 H10 hk p10 => ?_
            have P10 := P9.trans p10
            have O10 := O9.ps p10 P9.b
            by_cases c3 : (k : Int) = 1
            · rw [decide_eq_true c3]
              exact body G10 H10 P10 O10 (s8.g.trans (s9.g.trans p10.eg))
            · rw [decide_eq_false c3]
              exact skip (by omega) G10 H10 P10 O10 (s8.g.trans (s9.g.trans p10.eg))
        · rw [decide_eq_false c1]
          exact skip (fun z => c1 (by omega)) G8 H8 P8 O8 s8.g
      · rintro σ Gs Hs z1 z2 ⟨P6, ⟨M6, O6, T6, L6⟩, c6', c7', c8', c9', c10', rfl⟩
        rw [Int.toNat_natCast] at L6
        refine ⟨Gs, e2.trans (s5.g.trans z1), z2, P6, ⟨M6, O6, T6.1, fun k k0 kj => ?_⟩, _, _, _, _, _, _, rfl⟩
        by_cases ek : k = j
        · subst ek; exact L6 rfl
        · exact T6.2 k k0 (by omega)
    · rintro σ G' H' e1 e2 ⟨P4, ⟨M, O4, T4⟩, c5, c6, c7, c8, c9, c10, rfl⟩
      rw [show ((n : Int) - 1).toNat + 1 = n by omega] at T4
      obtain ⟨G5, P5, e5, r5⟩ := O4.show_ P4 (fun b h => h)
      exact s_ret (R := MxL) (x := M) (ev_var rfl r5) P5.e fun v G6 H6 s6 r6 => q v M G6 H6 T4.1 (tree_lkd T4.2) (P5.stp s6) r6

end Cy
namespace Cy
open PySem PySem.Spec PyProof.Rows L2 He
local macro_rules | `(tactic| tm_at "ex") => `(tactic| first
  | exact Ex.refl _ | assumption | exact Stp.g (by assumption) | exact Stp.v (by assumption)
  | (refine Ex.trans (Stp.g (by assumption)) ?_; tm_at "ex")
  | (refine Ex.trans (by assumption) ?_; tm_at "ex"))
local macro_rules | `(tactic| tm_at "rl") => `(tactic| first
  | exact rfl | assumption | (apply Mono.up; rotate_left; assumption; tm_at "ex"))
local macro_rules | `(tactic| tm_at "sc") => `(tactic| first | assumption | omega)
local macro_rules | `(tactic| tm_at "ev") => `(tactic| first
  | exact ev_int | exact ev_bl | assumption
  | (apply ev_varI; exact rfl)
  | (apply ev_var; exact rfl; tm_at "rl")
  | (apply ev_I0; tm_at "ev"; tm_at "ev")
  | (apply ev_B0; tm_at "ev"; tm_at "ev")
  | (apply ev_I; tm_at "ev"; tm_at "ev"; tm_at "sc")
  | (apply ev_un; tm_at "ev")
  | (apply ev_eqI; tm_at "ev"; tm_at "ev")
  | (apply ev_neI; tm_at "ev"; tm_at "ev")
  | (apply ev_fstI; tm_at "ev")
  | (apply ev_sndI; tm_at "ev")
  | (apply ev_max2; tm_at "ev"; tm_at "ev")
  | (apply ev_min2; tm_at "ev"; tm_at "ev")
  | (apply ev_abs; tm_at "ev")
  | (apply ev_int1; tm_at "ev")
  | (apply ev_bits; tm_at "ev")
  | (apply ev_gcd; tm_at "ev"; tm_at "ev")
  | (apply ev_len; tm_at "ev")
  | (apply ev_tup2; tm_at "ev"; tm_at "ev"))
local macro_rules | `(tactic| tm_at "ea") => `(tactic| first
  | exact ea_nil
  | (apply ea_consI; tm_at "ev"; tm_at "ea")
  | (apply ea_cons; tm_at "ev"; tm_at "ea"))
local macro_rules | `(tactic| tm_at "et") => `(tactic| first
  | (apply et_test; tm_at "ev")
  | (apply et_B; tm_at "ev")
  | (apply et_not; tm_at "et"))

open Cr
abbrev N__law_stream : List Str := ["_law_pool_here", "_law_size_here", "_law_stream_here", "_law_turn", "_law_ring_here", "_law_heavy", "_law_k", "_law_row"]
abbrev P__law_stream : List Str := ["_law_pool_here", "_law_size_here"]
theorem sc__law_stream : FnScope N__law_stream P__law_stream (defScope s__law_stream) := ⟨rfl, rfl, rfl, by decide +kernel, rfl, by decide +kernel, by decide +kernel⟩
/-- streams -/
structure Sm (n : Nat) (M : Mx) (B : Int) : Prop where
  s : Sqm n M
  b : ∀ i j, i < n → j < n → 0 ≤ at2 M i j ∧ at2 M i j ≤ B
  d : ∀ i, i < n → at2 M i i = 0
theorem Sm.put {n : Nat} {M : Mx} {i j : Nat} {B h : Int} (S : Sm n M B) (hi : i < n) (hj : j < n) (ne : i ≠ j) (h0 : 1 ≤ h) (h1 : h ≤ 3) : Sm n (put2 M i j (at2 M i j + h)) (B + 3) := by
  refine ⟨put2_sq S.s hi, fun a b ha hb => ?_, fun a ha => ?_⟩
  · rw [put2_at S.s hi hj]
    have := S.b i j hi hj
    have := S.b a b ha hb
    split <;> omega
  · rw [put2_at S.s hi hj, if_neg (fun z => ne (z.1.symm.trans z.2))]
    exact S.d a ha
theorem Sm.keep {n : Nat} {M : Mx} {i j a b : Nat} {B h : Int} (S : Sm n M B) (hi : i < n) (hj : j < n) (h0 : 1 ≤ h) (p : 0 < at2 M a b) : 0 < at2 (put2 M i j (at2 M i j + h)) a b := put2_pos S.s hi hj (by have := (S.b i j hi hj).1; omega) p
theorem Sm.le {n : Nat} {M : Mx} {B C : Int} (S : Sm n M B) (h : B ≤ C) : Sm n M C := ⟨S.s, fun i j hi hj => by have := S.b i j hi hj; omega, S.d⟩
def sp__law_stream (K : PySem.W.Frag) : Sp := fun vs H Q _ => ∃ (G : Hp) (pl : Addr) (n : Nat), Ex G H ∧ Pl G H pl ∧ 2 ≤ n ∧ n ≤ 4 ∧ vs = [.ref pl, .int (n : Int)] ∧ ∀ u M G' H', Sm n M 100 → (∀ i, i < n → 0 < at2 M i ((i + 1) % n)) → PS pl G H G' H' → MxL G' u M → Q u H'
theorem len__law_stream {K : PySem.W.Frag} {vs : List V} {H : Hp} {Q : VK} {E : XK} (h : sp__law_stream K vs H Q E) : vs.length = P__law_stream.length := by
  obtain ⟨_, _, _, _, _, _, _, rfl, _⟩ := h; rfl
def SrI (pl : Addr) (G H : Hp) (a : Addr) (bs : List Addr) (n : Nat) (t : Nat) (σ : L2.St) (G' H' : Hp) : Prop := PS pl G H G' H' ∧ (∃ M, OM H G' H' a bs M ∧ Sm n M (12 * (t : Int)) ∧ (0 < t → ∀ i, i < n → 0 < at2 M i ((i + 1) % n))) ∧ ∃ c3 c4 c5 c6 c7, σ = [some (.ref pl), some (.int (n : Int)), some (.ref a), c3, c4, c5, c6, c7]
def SrJ (pl : Addr) (G H : Hp) (a : Addr) (bs : List Addr) (n : Nat) (t : Nat) (rg : List Nat) (rv : V) (h : Int) (k : Nat) (σ : L2.St) (G' H' : Hp) : Prop := PS pl G H G' H' ∧ (∃ M, OM H G' H' a bs M ∧ Sm n M (12 * (t : Int) + 3 * (k : Int)) ∧ (0 < t → ∀ i, i < n → 0 < at2 M i ((i + 1) % n)) ∧ ∀ q, q < k → 0 < at2 M (rg.getD q 0) (rg.getD ((q + 1) % rg.length) 0)) ∧ Ls NR G' rv rg ∧ ∃ c6 c7, σ = [some (.ref pl), some (.int (n : Int)), some (.ref a), some (.int (t : Int)), some rv, some (.int h), c6, c7]
theorem ok__law_stream {P : Program} {w : World} {K : PySem.W.Frag} {mg : Str → Option Value} {base : Heap} {k : Nat} (T : Tx K mg) (G__law_blank : Ok P w K mg base k "_law_blank" P__law_blank (sp__law_blank K)) (G__law_pick : Ok P w K mg base k "_law_pick" P__law_pick (sp__law_pick K)) (G__law_order : Ok P w K mg base k "_law_order" P__law_order (sp__law_order K)) : Ok P w K mg base (k + 1) "_law_stream" P__law_stream (sp__law_stream K) := by
  obtain ⟨fd__law_blank, G__law_blank, B__law_blank, K__law_blank⟩ := G__law_blank
  obtain ⟨fd__law_pick, G__law_pick, B__law_pick, K__law_pick⟩ := G__law_pick
  obtain ⟨fd__law_order, G__law_order, B__law_order, K__law_order⟩ := G__law_order
  refine ok_of T.d__law_stream sc__law_stream (fun _ _ _ _ _ _ us hl => match us, hl with | [_, _], _ => rfl) (fun vs H Q E h => ?_) (fun f cdv A outer s H vs Q E hr h => ?_)
  · exact len__law_stream h
  · refine ⟨_, (pss_cons (ps_set (i := 2) sc__law_stream.nd rfl (by first | exact Or.inl rfl | exact Or.inr rfl) (pe_call G__law_blank hr (by rfl) T.g__law_blank K__law_blank B__law_blank .nil pass0 (pa_cons (pv 1) pa_nil)))
      (pss_cons (ps_for PassesOwn.never rfl (pi_range1 (by rfl) T.f_range (pa_cons pe_int pa_nil)) (pg_name (i := 3) sc__law_stream.nd rfl (by first | exact Or.inl rfl | exact Or.inr rfl)) (pss_cons (ps_set (i := 4) sc__law_stream.nd rfl (by first | exact Or.inl rfl | exact Or.inr rfl) (pe_listRg rfl (by rfl) T.f_list (prg_1 (by rfl) T.f_range (pv 1))))
      (pss_cons (ps_if (pt_cmpR op_gt (pv 3) pe_int (nomark _)) (pss_one (ps_set (i := 4) sc__law_stream.nd rfl (by first | exact Or.inl rfl | exact Or.inr rfl) (pe_slice sl_list (pe_call G__law_order hr (by rfl) T.g__law_order K__law_order B__law_order .nil pass0 (pa_cons (pv 0) (pa_cons (pv 1) pa_nil))) po_none (po_some (pe_op op_add pe_int (pe_call G__law_pick hr (by rfl) T.g__law_pick K__law_pick B__law_pick .nil pass0 (pa_cons (pv 0) (pa_cons (pe_op op_sub (pv 1) pe_int) pa_nil)))))))) pss_nil)
      (pss_cons (ps_set (i := 5) sc__law_stream.nd rfl (by first | exact Or.inl rfl | exact Or.inr rfl) (pe_op op_add pe_int (pe_call G__law_pick hr (by rfl) T.g__law_pick K__law_pick B__law_pick .nil pass0 (pa_cons (pv 0) (pa_cons pe_int pa_nil)))))
      (pss_one (ps_for PassesOwn.never rfl (pi_range1 (by rfl) T.f_range (pa_cons (pe_callB call_len_seq (by rfl) T.f_len PySem.boot_len (pa_cons (pv 4) pa_nil)) pa_nil)) (pg_name (i := 6) sc__law_stream.nd rfl (by first | exact Or.inl rfl | exact Or.inr rfl)) (pss_cons (ps_set (i := 7) sc__law_stream.nd rfl (by first | exact Or.inl rfl | exact Or.inr rfl) (pe_ix ix_list (pv 2) (pe_ix ix_list (pv 4) (pv 6) (fun _ _ => rfl)) (fun _ _ => rfl)))
      (pss_one (ps_augS (pv 7) (pe_ix ix_list (pv 4) (pe_op op_mod (pe_callTy call_int1 (by rfl) T.f_int (by decide +kernel) (pa_cons (pe_op op_add (pv 6) pe_int) pa_nil)) (pe_callB call_len_seq (by rfl) T.f_len PySem.boot_len (pa_cons (pv 4) pa_nil))) (fun _ _ => rfl)) get_list (pv 5) ip_add set_list)))))))))
      (pss_one (ps_ret (pv 2))))), ?_⟩
    obtain ⟨G, pl, n, e, hp, hn2, hn4, rfl, q⟩ := h
    refine s_blank (ev_varI rfl) (by omega) e fun a bs G1 H1 s1 O1 => ?_
    have P1 := (hp.refl e).stp s1
    refine s_for (I := SrI pl G H a bs n) (ei_range1 (m := 3) (ea_consI ev_int ea_nil) (by decide) (by decide)) P1.e ?_ ?_ ?_
    · exact fun G2 H2 s2 => ⟨P1.stp s2, ⟨_, O1.stp s2, ⟨zeroM_sq n, fun i j _ _ => by rw [zeroM_at]; omega, fun i _ => zeroM_at⟩, fun z => by omega⟩, none, none, none, none, none, rfl⟩
    · rintro t x σ Gp Hq G' H' G1' ht e1 e2 ⟨P2, ⟨M, O2, S2, R2⟩, c3, c4, c5, c6, c7, rfl⟩ s3 rfl
      have ht3 : t < 3 := ht
      have P3 := P2.stp s3
      have O3 := O2.stp s3
      refine s_set (R := Ls NR) (x := List.range n) (en_rg (ev_varI rfl) (by omega)).ev P3.e fun rv0 G4 H4 s4 r4 => ?_
      have P4 := P3.stp s4
      have O4 := O3.stp s4
      -- behind the choice of the ring
      have rest : ∀ (rg : List Nat) rv G5 H5, rg.Nodup → (∀ x ∈ rg, x < n) → 2 ≤ rg.length → rg.length ≤ 4 → (t = 0 → rg = List.range n) → PS pl G H G5 H5 → OM H G5 H5 a bs M → Ls NR G5 rv rg → Ex Gp G5 →
          (tSeq (tAsg (tOp qAdd (tC (.int 1)) (tCall (sp__law_pick K) [] E0 (tCons (tVar 0) (tCons (tC (.int 3)) tNil)))) (gName 5)) (tFor (iRng1 (tCons (tCB (qLen K) (tCons (tVar 4) tNil)) tNil)) (gName 6) (tSeq (tAsg (tOp (rIxL K) (tVar 2) (tOp (rIxL K) (tVar 4) (tVar 6))) (gName 7)) (tAugS (tVar 7) (tOp (rIxL K) (tVar 4) (tOp qMod (tCB qInt (tCons (tOp qAdd (tVar 6) (tC (.int 1))) tNil)) (tCB (qLen K) (tCons (tVar 4) tNil)))) (tVar 5) (gL K) (ipI fun i j => i + j) rSetL))))
          { nx := fun σ H' => ∃ G', Ex G1' G' ∧ Ex G' H' ∧ SrI pl G H a bs n (t + 1) σ G' H', ct := fun σ H' => ∃ G', Ex G1' G' ∧ Ex G' H' ∧ SrI pl G H a bs n (t + 1) σ G' H', bk := fun σ H' => False, rt := Q } [some (.ref pl), some (.int (n : Int)), some (.ref a), some (.int (t : Int)), some rv, c5, c6, c7] H5 := fun rg rv G5 H5 hnd hlt hl2 hl4 h0 P5 O5 r5 ex5 => by
        refine pick_run (p := 0) (m := 3) rfl ev_int (by decide) P5.e (Pl.ps P5) fun k G6 H6 hk p6 => ⟨1, (k : Int), rfl, rfl, ?_⟩
        have P6 := P5.trans p6
        have O6 := O5.ps p6 P5.b
        unfold gName
        dsimp only
        obtain ⟨hv, hhv⟩ : ∃ hv, hv = 1 + (k : Int) := ⟨_, rfl⟩
        rw [← hhv]
        have r6 := Mono.up p6.eg r5
        have gx : ∀ q, q < rg.length → ∃ x, rg[q]? = some x ∧ x < n := fun q hq => ⟨rg[q], List.getElem?_eq_getElem hq, hlt _ (List.getElem_mem hq)⟩
        refine s_for' (I := SrJ pl G H a bs n t rg rv hv) (ei_range1 (m := (rg.length : Int)) (ea_consI (ev_lenL (R := NR) (xs := rg) (ev_var rfl r6)) ea_nil) (by omega) (by omega)) P6.e ?_ ?_ ?_
        · exact fun G7 H7 s7 => ⟨P6.stp s7, ⟨_, O6.stp s7, S2.le (by omega), R2, fun q hq => by omega⟩, Mono.up s7.g r6, _, _, rfl⟩
        · rintro i x σ Gs Hs Gt Ht Gu hi z1 z2 ⟨P7, ⟨M7, O7, S7, R7, T7⟩, r7, c6', c7', rfl⟩ s8 rfl
          rw [Int.toNat_natCast] at hi
          have P8 := P7.stp s8
          have O8 := O7.stp s8
          have r8 := Mono.up s8.g r7
          obtain ⟨x1, hx1, l1⟩ := gx i hi
          have mi : (i + 1) % rg.length < rg.length := Nat.mod_lt _ (by omega)
          obtain ⟨x2, hx2, l2⟩ := gx _ mi
          have ne : x1 ≠ x2 := fun z => by
            subst z
            have := nd_ix hnd hx1 hx2
            by_cases y : i + 1 < rg.length
            · rw [Nat.mod_eq_of_lt y] at this; omega
            · rw [show i + 1 = rg.length by omega, Nat.mod_self] at this; omega
          obtain ⟨b, hb⟩ : ∃ b, bs[x1]? = some b := ⟨_, List.getElem?_eq_getElem (by rw [O8.len, S7.s.l]; exact l1)⟩
          refine s_set (R := VR) (x := .ref b) (ev_rowOwn O8 rfl hb ((ev_ixL (R := NR) (n := i) (xs := rg) (ev_var rfl r8) (ev_varI rfl) rfl hx1).imp fun _ _ h => h)) P8.e fun v G9 H9 s9 r9 => ?_
          obtain rfl := r9
          have P9 := P8.stp s9
          have O9 := O8.stp s9
          have r9 := Mono.up s9.g r8
          obtain ⟨r, er, hl, hr⟩ := S7.s.row l1
          obtain ⟨b', hb', _, eb, gb, zb⟩ := O9.row er
          rw [hb] at hb'
          cases hb'
          have em : ((i : Int) + 1) % (rg.length : Int) = (((i + 1) % rg.length : Nat) : Int) := by push_cast; rfl
          refine s_augS1 (k := x2) (ns := r) (x := at2 M7 x1 x2) (y := hv) rfl eb ((ev_ixL (R := NR) (n := (i + 1) % rg.length) (xs := rg) (ev_var rfl r9) (ev_I (ev_int1 (ev_I0 (ev_varI rfl) ev_int)) (ev_lenL (R := NR) (xs := rg) (ev_var rfl r9)) (by show (0 : Int) < (rg.length : Int); omega)) em hx2).imp fun _ _ h => h) (hr x2 l2) (by omega) (ev_varI rfl) P9.e fun G10 H10 s10 => ?_
          have P10 := P9.stp s10
          have O10 := O9.stp s10
          have O11 := O10.put (x := at2 M7 x1 x2 + hv) (j := x2) er hb
          have P11 := P10.mut (o := .lst ((r.set x2 (at2 M7 x1 x2 + hv)).map V.int)) zb (s10.n _ _ eb gb)
          refine ⟨G10, z2.trans (s8.g.trans (s9.g.trans s10.g)), P11.e, P11, ⟨_, O11, (S7.put l1 l2 ne (by omega) (by omega)).le (by push_cast; omega), fun z j hj => S7.keep l1 l2 (by omega) (R7 z j hj), fun q hq => ?_⟩, Mono.up s10.g r9, _, _, rfl⟩
          by_cases eq : q = i
          · subst eq
            rw [getD_of hx1, getD_of hx2, put2_here S7.s l1 l2]
            have := (S7.b x1 x2 l1 l2).1
            omega
          · exact S7.keep l1 l2 (by omega) (T7 q (by omega))
        · rintro σ Gs Hs z1 z2 ⟨P7, ⟨M7, O7, S7, R7, T7⟩, r7, c6', c7', rfl⟩
          rw [Int.toNat_natCast] at S7 T7
          refine ⟨Gs, e2.trans (ex5.trans (p6.eg.trans z1)), z2, P7, ⟨M7, O7, S7.le (by push_cast; omega), fun _ j hj => ?_⟩, _, _, _, _, _, rfl⟩
          by_cases ez : t = 0
          · have erg := h0 ez
            subst erg
            rw [List.length_range] at T7
            have := T7 j hj
            rw [getD_of (List.getElem?_range hj), getD_of (List.getElem?_range (Nat.mod_lt _ (by omega)))] at this
            exact this
          · exact R7 (by omega) j hj
      refine s_ifc (b := decide ((0 : Int) < (t : Int))) (et_test (ev_B0 (f := fun i j => decide (j < i)) (ev_varI rfl) ev_int)) P4.e (fun G5 H5 s5 hb => ?_) (fun G5 H5 s5 hb => ?_)
      · have hb := of_decide_eq_true hb
        have P5 := P4.stp s5
        have O5 := O4.stp s5
        -- order(pool, n)[: 2 + pick(pool, n - 1)]
        refine ⟨_, rfl, _, rfl, G5, pl, n, P5.e, Pl.ps P5, hn4, rfl, fun u os G6 H6 hpm p6 r6 => ?_⟩
        have P6 := P5.trans p6
        have O6 := O5.ps p6 P5.b
        refine pick_run (p := 0) (m := n - 1) rfl ((ev_I0 (f := fun i j => i - j) (ev_varI (n := (n : Int)) rfl) ev_int).eq (show (n : Int) - 1 = ((n - 1 : Nat) : Int) by omega)) (by omega) P6.e (Pl.ps P6) fun k G7 H7 hk p7 => ⟨2, (k : Int), rfl, rfl, _, rfl, ?_⟩
        have P7 := P6.trans p7
        have O7 := O6.ps p7 P6.b
        have r7 := Mono.up p7.eg r6
        obtain ⟨o, us, rfl, ho, po⟩ := r7
        have hol : os.length = n := by rw [hpm.length_eq, List.length_range]
        refine ⟨o, us, rfl, SqL.of (P7.e _ _ ho), fun p hp' => ?_⟩
        have ecut : cutV us none (some (2 + (k : Int))) = us.take (2 + k) := by
          have := cut_to us (2 + k) (by rw [paired_len po]; omega)
          show cutL us none (some (2 + (k : Int))) = _
          rw [← this]; rfl
        rw [ecut]
        have P8 := P7.stp (Stp.new (o := .lst (us.take (2 + k))) P7.e hp')
        have O8 := O7.stp (Stp.new (o := .lst (us.take (2 + k))) P7.e hp')
        have gn := P7.e.none hp'
        have lt : (os.take (2 + k)).length = 2 + k := by rw [List.length_take]; omega
        refine rest (os.take (2 + k)) (.ref p) _ _ ?_ (fun x hx => ?_) (by omega) (by omega) (fun z => by omega) P8 O8 ⟨p, _, rfl, upd_same, paired_imp (fun _ _ => Mono.up (Ex.new gn)) (paired_take _ po)⟩ (s3.g.trans (s4.g.trans (s5.g.trans (p6.eg.trans (p7.eg.trans (Ex.new gn))))))
        · exact (hpm.nodup_iff.mpr List.nodup_range).sublist (List.take_sublist _ _)
        · exact List.mem_range.mp (hpm.mem_iff.mp (List.mem_of_mem_take hx))
      · exact rest (List.range n) rv0 G5 H5 List.nodup_range (fun x hx => List.mem_range.mp hx) (by rw [List.length_range]; omega) (by rw [List.length_range]; omega) (fun _ => rfl) (P4.stp s5) (O4.stp s5) (Mono.up s5.g r4) (s3.g.trans (s4.g.trans s5.g))
    · rintro σ G' H' e1 e2 ⟨P2, ⟨M, O2, S2, R2⟩, c3, c4, c5, c6, c7, rfl⟩
      obtain ⟨G3, P3, e3, r3⟩ := O2.show_ P2 (fun b h => h)
      exact s_ret (R := MxL) (x := M) (ev_var rfl r3) P3.e fun v G4 H4 s4 r4 => q v M G4 H4 (S2.le (by decide)) (R2 (by decide)) (P3.stp s4) r4

end Cy
namespace Cy
open PySem PySem.Spec PyProof.Rows L2 He
local macro_rules | `(tactic| tm_at "ex") => `(tactic| first
  | exact Ex.refl _ | assumption | exact Stp.g (by assumption) | exact Stp.v (by assumption)
  | (refine Ex.trans (Stp.g (by assumption)) ?_; tm_at "ex")
  | (refine Ex.trans (by assumption) ?_; tm_at "ex"))
local macro_rules | `(tactic| tm_at "rl") => `(tactic| first
  | exact rfl | assumption | (apply Mono.up; rotate_left; assumption; tm_at "ex"))
local macro_rules | `(tactic| tm_at "sc") => `(tactic| first | assumption | omega)
local macro_rules | `(tactic| tm_at "ev") => `(tactic| first
  | exact ev_int | exact ev_bl | assumption
  | (apply ev_varI; exact rfl)
  | (apply ev_var; exact rfl; tm_at "rl")
  | (apply ev_I0; tm_at "ev"; tm_at "ev")
  | (apply ev_B0; tm_at "ev"; tm_at "ev")
  | (apply ev_I; tm_at "ev"; tm_at "ev"; tm_at "sc")
  | (apply ev_un; tm_at "ev")
  | (apply ev_eqI; tm_at "ev"; tm_at "ev")
  | (apply ev_neI; tm_at "ev"; tm_at "ev")
  | (apply ev_fstI; tm_at "ev")
  | (apply ev_sndI; tm_at "ev")
  | (apply ev_max2; tm_at "ev"; tm_at "ev")
  | (apply ev_min2; tm_at "ev"; tm_at "ev")
  | (apply ev_abs; tm_at "ev")
  | (apply ev_int1; tm_at "ev")
  | (apply ev_bits; tm_at "ev")
  | (apply ev_gcd; tm_at "ev"; tm_at "ev")
  | (apply ev_len; tm_at "ev")
  | (apply ev_tup2; tm_at "ev"; tm_at "ev"))
local macro_rules | `(tactic| tm_at "ea") => `(tactic| first
  | exact ea_nil
  | (apply ea_consI; tm_at "ev"; tm_at "ea")
  | (apply ea_cons; tm_at "ev"; tm_at "ea"))
local macro_rules | `(tactic| tm_at "et") => `(tactic| first
  | (apply et_test; tm_at "ev")
  | (apply et_B; tm_at "ev")
  | (apply et_not; tm_at "et"))

open Cr
/-- a comprehension over range(n) that draws -/
theorem p_lc {σ : L2.St} {G H : Hp} {tm te : TE} {pl : Addr} {j n : Nat} {P : Int → Prop} {Q : VK} (h : Ev tm σ G H IR (n : Int)) (hn : n ≤ 1000) (e : Ex G H) (a : Pl G H pl)
    (ht : ∀ (i : Nat) G' H' (Qn : VK), i < n → PS pl G H G' H' → (∀ (v : Int) G'' H'', P v → PS pl G' H' G'' H'' → Qn (.int v) H'') → te ((wipe σ [j]).set j (some (.int (i : Int)))) H' Qn)
    (q : ∀ D (vs : List Int) G' H', PS pl G H G' H' → H D = none → G' D = none → H' D = some (.lst (vs.map V.int)) → vs.length = n → (∀ v, v ∈ vs → P v) → Q (.ref D) H') : tLc (iRng1 (tCons tm tNil)) (gName j) tYes te [j] σ H Q := by
  refine ei_range1 (m := (n : Int)) (ea_consI h ea_nil) (by omega) (by omega) G H (Stp.refl e) _ fun J G1 H1 GH Y s1 w hG hY D hD => ?_
  have P1 := (a.refl e).stp s1
  have hD0 : H D = none := s1.h.none hD
  refine lc_it w (fun i H' => ∃ (G' : Hp) (vs : List Int), PS pl G H G' H' ∧ Ex G1 G' ∧ G' D = none ∧ H' D = some (.lst (vs.map V.int)) ∧ vs.length = i ∧ ∀ v, v ∈ vs → P v) ⟨G1, [], P1.own hD, Ex.refl _, s1.v.none hD, upd_same, rfl, fun v hv => by cases hv⟩ (fun i H' _ ⟨G', vs, P', e', _⟩ => hG H' (e'.trans P'.e)) (fun i v H' H'' hi ⟨G', vs, P', e', gD, hD', hl, hP⟩ y => ?_) (fun H' ⟨G', vs, P', e', gD, hD', hl, hP⟩ => q D vs G' H' P' hD0 gD hD' (by rw [Int.toNat_natCast] at hl; exact hl) hP)
  obtain ⟨G2, s2, rfl⟩ := hY i G' H' v H'' hi e' P'.e y
  rw [Int.toNat_natCast] at hi
  have P2 := P'.stp s2
  have d2 := s2.h _ _ hD'
  have g2 := s2.n _ _ hD' gD
  refine ⟨wipe1 _ _ _, iteT (B := ∃ (G' : Hp) (vs : List Int), PS pl G H G' H'' ∧ Ex G1 G' ∧ G' D = none ∧ H'' D = some (.lst (vs.map V.int)) ∧ vs.length = i + 1 ∧ ∀ v, v ∈ vs → P v) ?_⟩
  refine ht i G2 H'' _ hi P2 fun v G3 H3 hv p3 => ?_
  have nD : D ≠ pl := a.2.ne hD0
  have d3 := p3.x.h _ _ nD d2
  have g3 := p3.x.n _ _ d2 g2
  refine ⟨_, d3, small_lt (by rw [List.length_map]; omega), G3, vs ++ [v], (P2.trans p3).mut hD0 g3, e'.trans (s2.g.trans p3.eg), g3, by rw [upd_same, List.map_append]; rfl, by rw [List.length_append, hl]; rfl, fun x hx => ?_⟩
  rcases List.mem_append.mp hx with z | z
  · exact hP x z
  · rw [List.mem_singleton.mp z]; exact hv
theorem s_setP {σ : L2.St} {G H : Hp} {tm te : TE} {pl : Addr} {i j n : Nat} {P : Int → Prop} {u : TS} {D : Ends} (h : Ev tm σ G H IR (n : Int)) (hn : n ≤ 1000) (e : Ex G H) (a : Pl G H pl)
    (ht : ∀ (i : Nat) G' H' (Qn : VK), i < n → PS pl G H G' H' → (∀ (v : Int) G'' H'', P v → PS pl G' H' G'' H'' → Qn (.int v) H'') → te ((wipe σ [j]).set j (some (.int (i : Int)))) H' Qn)
    (q : ∀ L (vs : List Int) G' H', PS pl G H G' H' → H L = none → G' L = none → H' L = some (.lst (vs.map V.int)) → vs.length = n → (∀ v, v ∈ vs → P v) → u D (σ.set i (some (.ref L))) H') : tSeq (tAsg (tLc (iRng1 (tCons tm tNil)) (gName j) tYes te [j]) (gName i)) u D σ H :=
  p_lc (Q := fun v H' => u D (σ.set i (some v)) H') h hn e a ht q
/-! ### webs -/
structure Wq where
  n : Nat
  t : Mx
  s : Mx
  h : List Int
def WqR : Rel Wq := fun G v q => ∃ a tv sv hv, v = .ref a ∧ G a = some (.lst [.int (q.n : Int), tv, sv, hv]) ∧ MxL G tv q.t ∧ MxL G sv q.s ∧ Ls IR G hv q.h
instance : Mono WqR := ⟨fun e ⟨a, tv, sv, hv, h1, h2, h3, h4, h5⟩ => ⟨a, tv, sv, hv, h1, e _ _ h2, Mono.up e h3, Mono.up e h4, Mono.up e h5⟩⟩
structure WqOk (q : Wq) : Prop where
  n2 : 2 ≤ q.n
  n4 : q.n ≤ 4
  w : Wb q.n q.t
  l : Lkd q.n (at2 q.t)
  h : q.h.length = 0 ∨ Sm q.n q.s 100
section
variable {K : PySem.W.Frag} {σ : L2.St} {G H : Hp} {i : Nat} {u : V} {q : Wq}
theorem ev_wq0 (hi : σ[i]? = some (some u)) (hu : WqR G u q) : Ev (tOp (rIxL K) (tVar i) (tC (.int 0))) σ G H IR (q.n : Int) := fun G1 H1 s Q k => by
  obtain ⟨a, tv, sv, hv, rfl, e, _⟩ := Mono.up s.g hu
  exact ⟨_, hi, a, _, 0, _, rfl, rfl, SqL.of (s.v _ _ e), atI_nat (j := 0) rfl, k _ G1 H1 (Stp.refl s.v) rfl⟩
theorem ev_wq1 (hi : σ[i]? = some (some u)) (hu : WqR G u q) : Ev (tOp (rIxL K) (tVar i) (tC (.int 1))) σ G H MxL q.t := fun G1 H1 s Q k => by
  obtain ⟨a, tv, sv, hv, rfl, e, r, _⟩ := Mono.up s.g hu
  exact ⟨_, hi, a, _, 1, _, rfl, rfl, SqL.of (s.v _ _ e), atI_nat (j := 1) rfl, k _ G1 H1 (Stp.refl s.v) r⟩
theorem ev_wq2 (hi : σ[i]? = some (some u)) (hu : WqR G u q) : Ev (tOp (rIxL K) (tVar i) (tC (.int 2))) σ G H MxL q.s := fun G1 H1 s Q k => by
  obtain ⟨a, tv, sv, hv, rfl, e, _, r, _⟩ := Mono.up s.g hu
  exact ⟨_, hi, a, _, 2, _, rfl, rfl, SqL.of (s.v _ _ e), atI_nat (j := 2) rfl, k _ G1 H1 (Stp.refl s.v) r⟩
theorem ev_wq3 (hi : σ[i]? = some (some u)) (hu : WqR G u q) : Ev (tOp (rIxL K) (tVar i) (tC (.int 3))) σ G H (Ls IR) q.h := fun G1 H1 s Q k => by
  obtain ⟨a, tv, sv, hv, rfl, e, _, _, r⟩ := Mono.up s.g hu
  exact ⟨_, hi, a, _, 3, _, rfl, rfl, SqL.of (s.v _ _ e), atI_nat (j := 3) rfl, k _ G1 H1 (Stp.refl s.v) r⟩
/-- i in (a, b) -/
theorem et_in2 {k a b : Int} {te : TE} (h : Ev te σ G H IR k) : ∃ c, EvT (tTest (tOp (rIn K false) te (tTup (tCons (tC (.int a)) (tCons (tC (.int b)) tNil))))) σ G H c ∧ (c = true ↔ k = a ∨ k = b) := by
  refine ⟨decide (k = a ∨ k = b), fun G1 H1 s Q q => h G1 H1 s _ fun v G2 H2 s2 r => ?_, decide_eq_true_iff⟩
  obtain rfl : v = .int k := r
  refine ⟨by show 2 ≤ sizeLine; decide, fun p hp => ⟨p, _, rfl, .inr (SqT.of upd_same), rfl, rfl, decide (k = a ∨ k = b), ?_, q _ _ (s2.trans (Stp.new s2.v hp))⟩⟩
  show V.bl _ = V.bl _
  congr 1
  show (decide (a = k) || (decide (b = k) || false)) = _
  by_cases h1 : k = a
  · subst h1; simp
  · by_cases h2 : k = b
    · subst h2; simp
    · simp [h1, h2, Ne.symm h1, Ne.symm h2]
end

end Cy
namespace Cy
open PySem PySem.Spec PyProof.Rows L2 He
local macro_rules | `(tactic| tm_at "ex") => `(tactic| first
  | exact Ex.refl _ | assumption | exact Stp.g (by assumption) | exact Stp.v (by assumption)
  | (refine Ex.trans (Stp.g (by assumption)) ?_; tm_at "ex")
  | (refine Ex.trans (by assumption) ?_; tm_at "ex"))
local macro_rules | `(tactic| tm_at "rl") => `(tactic| first
  | exact rfl | assumption | (apply Mono.up; rotate_left; assumption; tm_at "ex"))
local macro_rules | `(tactic| tm_at "sc") => `(tactic| first | assumption | omega)
local macro_rules | `(tactic| tm_at "ev") => `(tactic| first
  | exact ev_int | exact ev_bl | assumption
  | (apply ev_varI; exact rfl)
  | (apply ev_var; exact rfl; tm_at "rl")
  | (apply ev_I0; tm_at "ev"; tm_at "ev")
  | (apply ev_B0; tm_at "ev"; tm_at "ev")
  | (apply ev_I; tm_at "ev"; tm_at "ev"; tm_at "sc")
  | (apply ev_un; tm_at "ev")
  | (apply ev_eqI; tm_at "ev"; tm_at "ev")
  | (apply ev_neI; tm_at "ev"; tm_at "ev")
  | (apply ev_fstI; tm_at "ev")
  | (apply ev_sndI; tm_at "ev")
  | (apply ev_max2; tm_at "ev"; tm_at "ev")
  | (apply ev_min2; tm_at "ev"; tm_at "ev")
  | (apply ev_abs; tm_at "ev")
  | (apply ev_int1; tm_at "ev")
  | (apply ev_bits; tm_at "ev")
  | (apply ev_gcd; tm_at "ev"; tm_at "ev")
  | (apply ev_len; tm_at "ev")
  | (apply ev_tup2; tm_at "ev"; tm_at "ev"))
local macro_rules | `(tactic| tm_at "ea") => `(tactic| first
  | exact ea_nil
  | (apply ea_consI; tm_at "ev"; tm_at "ea")
  | (apply ea_cons; tm_at "ev"; tm_at "ea"))
local macro_rules | `(tactic| tm_at "et") => `(tactic| first
  | (apply et_test; tm_at "ev")
  | (apply et_B; tm_at "ev")
  | (apply et_not; tm_at "et"))

open Cr
abbrev N__law_web : List Str := ["_law_pool_here", "_law_most", "_law_size_here", "_law_word", "_law_heavies", "_law_stream_here", "_law_takes", "_law_place", "_law_entry"]
abbrev P__law_web : List Str := ["_law_pool_here", "_law_most"]
theorem sc__law_web : FnScope N__law_web P__law_web (defScope s__law_web) := ⟨rfl, rfl, rfl, by decide +kernel, rfl, by decide +kernel, by decide +kernel⟩
def sp__law_web (K : PySem.W.Frag) : Sp := fun vs H Q _ => ∃ (G : Hp) (pl : Addr), Ex G H ∧ Pl G H pl ∧ vs = [.ref pl, .int 4] ∧ ∀ u q G' H', WqOk q → PS pl G H G' H' → WqR G' u q → Q u H'
theorem len__law_web {K : PySem.W.Frag} {vs : List V} {H : Hp} {Q : VK} {E : XK} (h : sp__law_web K vs H Q E) : vs.length = P__law_web.length := by
  obtain ⟨_, _, _, _, rfl, _⟩ := h; rfl
/-- 12 // heavy * entry keeps what a stream is -/
theorem heavy_wb {n : Nat} {S M : Mx} {hs : List Int} (n1 : 0 < n) (hS : Sm n S 100) (R : ∀ i, i < n → 0 < at2 S i ((i + 1) % n)) (hl : hs.length = n) (hh : ∀ x, x ∈ hs → x = 1 ∨ x = 2 ∨ x = 3 ∨ x = 4 ∨ x = 6) (hM : Sqm n M) (e : ∀ i j, i < n → j < n → at2 M i j = (12 : Int).fdiv (hs.getD i 0) * at2 S i j) : Wb n M ∧ Lkd n (at2 M) := by
  have hd : ∀ i, i < n → 2 ≤ (12 : Int).fdiv (hs.getD i 0) ∧ (12 : Int).fdiv (hs.getD i 0) ≤ 12 := fun i hi => by
    have hi2 : i < hs.length := by omega
    rw [getD_of (List.getElem?_eq_getElem hi2)]
    rcases hh _ (List.getElem_mem hi2) with z | z | z | z | z <;> rw [z] <;> decide
  refine ⟨⟨hM, fun i j hi hj => ?_, fun i hi => ?_⟩, ring_lkd fun i hi => ?_⟩
  · rw [e i j hi hj]
    obtain ⟨a, b⟩ := hd i hi
    obtain ⟨c, d⟩ := hS.b i j hi hj
    refine ⟨Int.mul_nonneg (by omega) c, ?_⟩
    have := Int.mul_le_mul b d c (by omega)
    omega
  · rw [e i i hi hi, hS.d i hi]; omega
  · have mi : (i + 1) % n < n := Nat.mod_lt _ n1
    rw [e i _ hi mi]
    exact Int.mul_pos (by have := (hd i hi).1; omega) (R i hi)
theorem OL.showP {α : Type} {R : Rel α} [Mono R] {G0 H0 G H : Hp} {pl a : Addr} {xs : List α} (h : OL R G H a xs) (s : PS pl G0 H0 G H) (h0 : H0 a = none) : ∃ us, PS pl G0 H0 (upd G a (.lst us)) H ∧ Ls R (upd G a (.lst us)) (.ref a) xs := by
  obtain ⟨g, us, e1, r⟩ := h
  exact ⟨us, s.add h0 g e1, a, us, rfl, upd_same, paired_imp (fun _ _ => Mono.up (Ex.new g)) r⟩
theorem ok__law_web {P : Program} {w : World} {K : PySem.W.Frag} {mg : Str → Option Value} {base : Heap} {k : Nat} (T : Tx K mg) (G__law_size : Ok P w K mg base k "_law_size" P__law_size (sp__law_size K)) (G__law_pick : Ok P w K mg base k "_law_pick" P__law_pick (sp__law_pick K)) (G__law_ring : Ok P w K mg base k "_law_ring" P__law_ring (sp__law_ring K)) (G__law_moved : Ok P w K mg base k "_law_moved" P__law_moved (sp__law_moved K)) (G__law_paced : Ok P w K mg base k "_law_paced" P__law_paced (sp__law_paced K)) (G__law_order : Ok P w K mg base k "_law_order" P__law_order (sp__law_order K)) (G__law_stream : Ok P w K mg base k "_law_stream" P__law_stream (sp__law_stream K)) (G__law_two_way : Ok P w K mg base k "_law_two_way" P__law_two_way (sp__law_two_way K)) : Ok P w K mg base (k + 1) "_law_web" P__law_web (sp__law_web K) := by
  obtain ⟨fd__law_size, G__law_size, B__law_size, K__law_size⟩ := G__law_size
  obtain ⟨fd__law_pick, G__law_pick, B__law_pick, K__law_pick⟩ := G__law_pick
  obtain ⟨fd__law_ring, G__law_ring, B__law_ring, K__law_ring⟩ := G__law_ring
  obtain ⟨fd__law_moved, G__law_moved, B__law_moved, K__law_moved⟩ := G__law_moved
  obtain ⟨fd__law_paced, G__law_paced, B__law_paced, K__law_paced⟩ := G__law_paced
  obtain ⟨fd__law_order, G__law_order, B__law_order, K__law_order⟩ := G__law_order
  obtain ⟨fd__law_stream, G__law_stream, B__law_stream, K__law_stream⟩ := G__law_stream
  obtain ⟨fd__law_two_way, G__law_two_way, B__law_two_way, K__law_two_way⟩ := G__law_two_way
  refine ok_of T.d__law_web sc__law_web (fun _ _ _ _ _ _ us hl => match us, hl with | [_, _], _ => rfl) (fun vs H Q E h => ?_) (fun f cdv A outer s H vs Q E hr h => ?_)
  · exact len__law_web h
  · refine ⟨_, (pss_cons (ps_set (i := 2) sc__law_web.nd rfl (by first | exact Or.inl rfl | exact Or.inr rfl) (pe_call G__law_size hr (by rfl) T.g__law_size K__law_size B__law_size .nil pass0 (pa_cons (pv 0) (pa_cons (pv 1) pa_nil))))
      (pss_cons (ps_set (i := 3) sc__law_web.nd rfl (by first | exact Or.inl rfl | exact Or.inr rfl) (pe_call G__law_pick hr (by rfl) T.g__law_pick K__law_pick B__law_pick .nil pass0 (pa_cons (pv 0) (pa_cons pe_int pa_nil))))
      (pss_cons (ps_set (i := 4) sc__law_web.nd rfl (by first | exact Or.inl rfl | exact Or.inr rfl) (pe_lst pa_nil))
      (pss_cons (ps_set (i := 5) sc__law_web.nd rfl (by first | exact Or.inl rfl | exact Or.inr rfl) (pe_lst pa_nil))
      (pss_cons (ps_if (pt_cmpR op_in_seq (pv 3) (pe_tup (pa_cons pe_int (pa_cons pe_int pa_nil))) (by rfl)) (pss_one (ps_set (i := 6) sc__law_web.nd rfl (by first | exact Or.inl rfl | exact Or.inr rfl) (pe_call G__law_ring hr (by rfl) T.g__law_ring K__law_ring B__law_ring .nil pass0 (pa_cons (pv 0) (pa_cons (pv 2) pa_nil))))) (pss_one (ps_if (pt_cmpR op_eq (pv 3) pe_int (nomark _)) (pss_one (ps_set (i := 6) sc__law_web.nd rfl (by first | exact Or.inl rfl | exact Or.inr rfl) (pe_call G__law_paced hr (by rfl) T.g__law_paced K__law_paced B__law_paced .nil pass0 (pa_cons (pv 0) (pa_cons (pv 2) pa_nil))))) (pss_one (ps_if (pt_cmpR op_eq (pv 3) pe_int (nomark _)) (pss_cons (ps_set (i := 5) sc__law_web.nd rfl (by first | exact Or.inl rfl | exact Or.inr rfl) (pe_call G__law_stream hr (by rfl) T.g__law_stream K__law_stream B__law_stream .nil pass0 (pa_cons (pv 0) (pa_cons (pv 2) pa_nil))))
      (pss_cons (ps_set (i := 4) sc__law_web.nd rfl (by first | exact Or.inl rfl | exact Or.inr rfl) (pe_lc (own := [("_law_place", 7)]) (g := (gName 7)) (tt := tYes) (te := (tOp (rIxL K) (tLst (tCons (tC (.int 1)) (tCons (tC (.int 2)) (tCons (tC (.int 3)) (tCons (tC (.int 4)) (tCons (tC (.int 6)) tNil)))))) (tCall (sp__law_pick K) [] E0 (tCons (tVar 0) (tCons (tC (.int 5)) tNil))))) (by rfl) sc__law_web.nd (pi_range1 (by rfl) T.f_range (pa_cons (pv 2) pa_nil)) (blkOk_by (by kernel_rfl)) (fun _ _ _ _ _ => (pg_name (i := 7) sc__law_web.nd rfl (by first | exact Or.inl rfl | exact Or.inr rfl))) (fun _ _ _ _ _ => pts_nil) (fun _ _ _ _ _ => (pe_ix ix_list (pe_lst (pa_cons pe_int (pa_cons pe_int (pa_cons pe_int (pa_cons pe_int (pa_cons pe_int pa_nil)))))) (pe_call G__law_pick hr (by rfl) T.g__law_pick K__law_pick B__law_pick .nil pass0 (pa_cons (pv 0) (pa_cons pe_int pa_nil))) (fun _ _ => rfl)))))
      (pss_cons (ps_set (i := 6) sc__law_web.nd rfl (by first | exact Or.inl rfl | exact Or.inr rfl) (pe_lst pa_nil))
      (pss_one (ps_for PassesOwn.never rfl (pi_range1 (by rfl) T.f_range (pa_cons (pv 2) pa_nil)) (pg_name (i := 7) sc__law_web.nd rfl (by first | exact Or.inl rfl | exact Or.inr rfl)) (pss_one (ps_expr (pe_bm PySem.F.plainAttrs_list PySem.F.slot_list_append PySem.F.type_list_append mt_append (pv 6) (pa_cons (pe_lc (own := [("_law_entry", 8)]) (g := (gName 8)) (tt := tYes) (te := (tOp qMul (tOp qDiv (tC (.int 12)) (tOp (rIxL K) (tVar 4) (tVar 7))) (tVar 8))) (by rfl) sc__law_web.nd (pi_list (pe_ix ix_list (pv 5) (pv 7) (fun _ _ => rfl))) (blkOk_by (by kernel_rfl)) (fun _ _ _ _ _ => (pg_name (i := 8) sc__law_web.nd rfl (by first | exact Or.inl rfl | exact Or.inr rfl))) (fun _ _ _ _ _ => pts_nil) (fun _ _ _ _ _ => (pe_op op_mulX (pe_op op_fdivY pe_int (pe_ix ix_list (pv 4) (pv 7) (fun _ _ => rfl))) (pv 8)))) pa_nil))))))))) (pss_one (ps_set (i := 6) sc__law_web.nd rfl (by first | exact Or.inl rfl | exact Or.inr rfl) (pe_call G__law_two_way hr (by rfl) T.g__law_two_way K__law_two_way B__law_two_way .nil pass0 (pa_cons (pv 0) (pa_cons (pv 2) (pa_cons (pe_op op_sub (pv 3) pe_int) pa_nil)))))))))))
      (pss_cons (ps_if (PW.pt (pw_and (pt_cmpR op_ne (pv 3) pe_int (nomark _)) (pw_and1 (pt_cmpR op_gt (pe_call G__law_pick hr (by rfl) T.g__law_pick K__law_pick B__law_pick .nil pass0 (pa_cons (pv 0) (pa_cons pe_int pa_nil))) pe_int (nomark _))))) (pss_one (ps_set (i := 6) sc__law_web.nd rfl (by first | exact Or.inl rfl | exact Or.inr rfl) (pe_call G__law_moved hr (by rfl) T.g__law_moved K__law_moved B__law_moved .nil pass0 (pa_cons (pv 6) (pa_cons (pe_call G__law_order hr (by rfl) T.g__law_order K__law_order B__law_order .nil pass0 (pa_cons (pv 0) (pa_cons (pv 2) pa_nil))) pa_nil))))) pss_nil)
      (pss_one (ps_ret (pe_lst (pa_cons (pv 2) (pa_cons (pv 6) (pa_cons (pv 5) (pa_cons (pv 4) pa_nil))))))))))))), ?_⟩
    obtain ⟨G, pl, e, hp, rfl, q⟩ := h
    refine ⟨_, rfl, _, rfl, G, pl, e, hp, rfl, fun n G1 H1 n2 n4 P1 => ?_⟩
    unfold gName
    dsimp only
    refine s_pick (p := 0) (m := 7) rfl ev_int (by decide) P1.e (Pl.ps P1) fun wd G2 H2 hwd p2 => ?_
    have P2 := P1.trans p2
    refine s_set (R := Ls IR) (x := []) (ev_lst .nil (by show 0 ≤ 100000; decide)) P2.e fun hv0 G3 H3 s3 r3 => ?_
    have P3 := P2.stp s3
    refine s_set (R := Ls (Ls IR)) (x := []) (ev_lst .nil (by show 0 ≤ 100000; decide)) P3.e fun sv0 G4 H4 s4 r4 => ?_
    have P4 := P3.stp s4
    have r3' := Mono.up s4.g r3
    -- behind the choice
    have fin : ∀ tv M sv S hv L c7 c8 G5 H5, PS pl G H G5 H5 → Wb n M → Lkd n (at2 M) → MxL G5 tv M → MxL G5 sv S → Ls IR G5 hv L → (L.length = 0 ∨ Sm n S 100) → tRet (tLst (tCons (tVar 2) (tCons (tVar 6) (tCons (tVar 5) (tCons (tVar 4) tNil))))) { nx := fun _ H' => Q .non H', rt := Q, bk := fun _ _ => False, ct := fun _ _ => False } [some (.ref pl), some (.int 4), some (.int (n : Int)), some (.int (wd : Int)), some hv, some sv, some tv, c7, c8] H5 := fun tv M sv S hv L c7 c8 G5 H5 P5 W L5 rt rs rh hL => by
      refine ⟨_, rfl, _, rfl, _, rfl, _, rfl, by show 4 ≤ sizeLine; decide, fun p hp' => ?_⟩
      have gn := P5.e.none hp'
      exact q (.ref p) ⟨n, M, S, L⟩ _ _ ⟨n2, n4, W, L5, hL⟩ (P5.stp (Stp.new P5.e hp')) ⟨p, tv, sv, hv, rfl, upd_same, Mono.up (Ex.new gn) rt, Mono.up (Ex.new gn) rs, Mono.up (Ex.new gn) rh⟩
    have rest : ∀ tv M sv S hv L c7 c8 G5 H5, PS pl G H G5 H5 → Wb n M → Lkd n (at2 M) → MxL G5 tv M → MxL G5 sv S → Ls IR G5 hv L → (L.length = 0 ∨ Sm n S 100) → tSeq (tIfS (tAnd (tTest (tOp rNe (tVar 3) (tC (.int 5)))) (tTest (tOp qGt (tCall (sp__law_pick K) [] E0 (tCons (tVar 0) (tCons (tC (.int 3)) tNil))) (tC (.int 0))))) (tAsg (tCall (sp__law_moved K) [] E0 (tCons (tVar 6) (tCons (tCall (sp__law_order K) [] E0 (tCons (tVar 0) (tCons (tVar 2) tNil))) tNil))) (gName 6)) tNext) (tRet (tLst (tCons (tVar 2) (tCons (tVar 6) (tCons (tVar 5) (tCons (tVar 4) tNil)))))) { nx := fun _ H' => Q .non H', rt := Q, bk := fun _ _ => False, ct := fun _ _ => False } [some (.ref pl), some (.int 4), some (.int (n : Int)), some (.int (wd : Int)), some hv, some sv, some tv, c7, c8] H5 := fun tv M sv S hv L c7 c8 G5 H5 P5 W L5 rt rs rh hL => by
      refine (et_test (ev_neI (i := (wd : Int)) (j := 5) (ev_varI (i := 3) rfl) ev_int)).run P5.e fun G6 H6 s6 => ?_
      have P6 := P5.stp s6
      by_cases c1 : (wd : Int) = 5
      · rw [decide_eq_true c1]
        exact fin tv M sv S hv L c7 c8 G6 H6 P6 W L5 (Mono.up s6.g rt) (Mono.up s6.g rs) (Mono.up s6.g rh) hL
      · rw [decide_eq_false c1]
        refine pick_run (p := 0) (m := 3) rfl ev_int (by decide) P6.e (Pl.ps P6) fun k G7 H7 hk p7 => ⟨(k : Int), 0, rfl, rfl, decide ((0 : Int) < (k : Int)), rfl, ?_⟩
        have P7 := P6.trans p7
        have g7 := s6.g.trans p7.eg
        by_cases c2 : (0 : Int) < (k : Int)
        · rw [decide_eq_true c2]
          refine ⟨_, rfl, _, rfl, _, rfl, G7, pl, n, P7.e, Pl.ps P7, n4, rfl, fun ov os G8 H8 hpm p8 r8 => ?_⟩
          have P8 := P7.trans p8
          refine ⟨G8, n, M, os, tv, ov, P8.e, n4, W.s, hpm, Mono.up (g7.trans p8.eg) rt, r8, rfl, fun tv' M' G9 H9 hS9 hM9 s9 r9 => ?_⟩
          obtain ⟨W9, L9⟩ := moved_wb hpm W L5 hS9 hM9
          have g9 := g7.trans (p8.eg.trans s9.g)
          exact fin tv' M' sv S hv L c7 c8 G9 H9 (P8.stp s9) W9 L9 r9 (Mono.up g9 rs) (Mono.up g9 rh) hL
        · rw [decide_eq_false c2]
          exact fin tv M sv S hv L c7 c8 G7 H7 P7 W L5 (Mono.up g7 rt) (Mono.up g7 rs) (Mono.up g7 rh) hL
    obtain ⟨b1, t1, _⟩ := et_in2 (K := K) (a := 0) (b := 6) (ev_varI (σ := [some (.ref pl), some (.int 4), some (.int (n : Int)), some (.int (wd : Int)), some hv0, some sv0, none, none, none]) (G := G4) (H := H4) (i := 3) (n := (wd : Int)) rfl)
    refine s_ifc (b := b1) t1 P4.e (fun G5 H5 s5 _ => ?_) (fun G5 H5 s5 _ => ?_)
    · have P5 := P4.stp s5
      refine ⟨_, rfl, _, rfl, G5, pl, n, P5.e, Pl.ps P5, n2, n4, rfl, fun tv M G6 H6 W L p6 r6 => ?_⟩
      exact rest tv M sv0 [] hv0 [] none none G6 H6 (P5.trans p6) W L r6 (Mono.up (s5.g.trans p6.eg) r4) (Mono.up (s5.g.trans p6.eg) r3') (.inl rfl)
    · have P5 := P4.stp s5
      refine s_if (b := decide ((wd : Int) = 4)) (et_test (ev_eqI (ev_varI rfl) ev_int)) P5.e (fun G6 H6 s6 _ => ?_) (fun G6 H6 s6 _ => ?_)
      · have P6 := P5.stp s6
        refine ⟨_, rfl, _, rfl, G6, pl, n, P6.e, Pl.ps P6, n2, n4, rfl, fun tv M G7 H7 W L p7 r7 => ?_⟩
        have g7 := s5.g.trans (s6.g.trans p7.eg)
        exact rest tv M sv0 [] hv0 [] none none G7 H7 (P6.trans p7) W L r7 (Mono.up g7 r4) (Mono.up g7 r3') (.inl rfl)
      · have P6 := P5.stp s6
        refine s_if (b := decide ((wd : Int) = 5)) (et_test (ev_eqI (ev_varI rfl) ev_int)) P6.e (fun G7 H7 s7 _ => ?_) (fun G7 H7 s7 _ => ?_)
        · have P7 := P6.stp s7
          refine ⟨_, rfl, _, rfl, G7, pl, n, P7.e, Pl.ps P7, n2, n4, rfl, fun sv S G8 H8 hS hR p8 r8 => ?_⟩
          have P8 := P7.trans p8
          dsimp only
          refine s_setP (P := fun v => v = 1 ∨ v = 2 ∨ v = 3 ∨ v = 4 ∨ v = 6) (n := n) (ev_varI rfl) (by omega) P8.e (Pl.ps P8) (fun i G' H' Qn hi ps k => ?_) fun D hs G9 H9 p9 hD gD dD hl hh => ?_
          · refine choose_run (xs := [1, 2, 3, 4, 6]) (m := 5) (.cons ev_int (.cons ev_int (.cons ev_int (.cons ev_int (.cons ev_int .nil))))) (by decide) rfl (fun _ _ _ => ev_int) (by decide) (by decide) ps.e (Pl.ps ps) fun v G1' H1' hv ps' => k v G1' H1' ?_ ps'
            simpa using hv
          have P9 := P8.trans p9
          have hD0 : H D = none := by
            refine Classical.byContradiction fun z => ?_
            cases hz : H D with
            | none => exact z hz
            | some o =>
              have nD : D ≠ pl := P8.c.ne hD
              rw [P8.x.h D o nD hz] at hD
              cases hD
          have P10 := P9.add hD0 gD dD
          have ex10 := Ex.new (o := .lst (hs.map V.int)) gD
          have rs10 := Mono.up (p9.eg.trans ex10) r8
          have rh10 : Ls IR (upd G9 D (.lst (hs.map V.int))) (.ref D) hs := ⟨D, _, rfl, upd_same, ints_paired _ _⟩
          refine s_new P10.e fun a ha ga => ?_
          have ha0 : H a = none := by
            refine Classical.byContradiction fun z => ?_
            cases hz : H a with
            | none => exact z hz
            | some o =>
              have nD : a ≠ pl := P10.c.ne ha
              rw [P10.x.h a o nD hz] at ha
              cases ha
          have P11 := P10.own (o := .lst []) ha
          refine s_for' (I := fun i σ G' H' => PS pl G H G' H' ∧ OL (Ls IR) G' H' a ((List.range i).map fun i => (S.getD i []).map fun x => (12 : Int).fdiv (hs.getD i 0) * x) ∧ ∃ c7 c8, σ = [some (.ref pl), some (.int 4), some (.int (n : Int)), some (.int (wd : Int)), some (.ref D), some sv, some (.ref a), c7, c8]) (ei_range1 (m := (n : Int)) (ea_consI (ev_varI rfl) ea_nil) (by omega) (by omega)) P11.e ?_ ?_ ?_
          · exact fun G12 H12 s12 => ⟨P11.stp s12, (OL.new ga).step s12, none, none, rfl⟩
          · rintro i x σ Gs Hs Gt Ht Gu hi z1 z2 ⟨P12, A12, c7, c8, rfl⟩ s13 rfl
            rw [Int.toNat_natCast] at hi
            have P13 := P12.stp s13
            have A13 := A12.step s13
            have g13 := z1.trans (z2.trans s13.g)
            obtain ⟨r, er, rl, rr⟩ := hS.s.row hi
            have hi2 : i < hs.length := by omega
            obtain ⟨hx, ehx⟩ : ∃ hx, hs[i]? = some hx := ⟨_, List.getElem?_eq_getElem hi2⟩
            have hh2 := hh hx (List.mem_of_getElem? ehx)
            refine s_appendO1 (R := Ls IR) (i := 6) rfl A13 (by rw [List.length_map, List.length_range]; omega) (y := (S.getD i []).map fun x => (12 : Int).fdiv (hs.getD i 0) * x) ?_ P13.e fun G14 H14 o14 s14 g14 A14 => ?_
            · rw [getD_of er]
              refine ev_lcL (R := IR) (xs := r) (ei_list (R := IR) (xs := r) (ev_ixL (R := Ls IR) (n := i) (xs := S) (ev_var rfl (Mono.up g13 rs10)) (ev_varI rfl) rfl er)) (by omega) fun j y v G14 H14 hy s14 ry => ?_
              obtain rfl := ry
              have hj : j < n := by rw [← rl]; exact (List.getElem?_eq_some_iff.mp hy).1
              rw [rr j hj] at hy
              cases hy
              have bb := hS.b i j hi hj
              have d12 : 2 ≤ (12 : Int).fdiv hx ∧ (12 : Int).fdiv hx ≤ 12 := by rcases hh2 with z | z | z | z | z <;> rw [z] <;> decide
              rw [getD_of ehx]
              refine ev_I (ev_I ev_int (ev_ixL (R := IR) (n := i) (xs := hs) (ev_var rfl (Mono.up (g13.trans s14.g) rh10)) (ev_varI rfl) rfl ehx) (fdivy (b := 3) (by omega) (by show Int.natAbs _ < 2 ^ 3; omega))) (ev_varI rfl) (mulx (a := 4) (b := 7) (by show Int.natAbs _ < 2 ^ 4; omega) (by show Int.natAbs _ < 2 ^ 7; omega))
            · refine ⟨G14, z2.trans (s13.g.trans s14.g), s14.v.mut g14, (P13.stp s14).mut ha0 g14, ?_, _, _, rfl⟩
              rw [List.range_succ, List.map_append]; exact A14
          · rintro σ Gs Hs z1 z2 ⟨P12, A12, c7, c8, rfl⟩
            rw [Int.toNat_natCast] at A12
            obtain ⟨us, P13, r13⟩ := A12.showP P12 ha0
            have g13 := z1.trans (Ex.new (o := .lst us) A12.1)
            have hMs : Sqm n ((List.range n).map fun i => (S.getD i []).map fun x => (12 : Int).fdiv (hs.getD i 0) * x) := ⟨by rw [List.length_map, List.length_range], fun x hx => by
              obtain ⟨i, hi, rfl⟩ := List.mem_map.mp hx
              obtain ⟨r, er, rl, _⟩ := hS.s.row (List.mem_range.mp hi)
              rw [getD_of er, List.length_map, rl]⟩
            obtain ⟨W13, L13⟩ := heavy_wb (by omega) hS hR hl hh hMs (fun i j hi hj => by
              obtain ⟨r, er, rl, rr⟩ := hS.s.row hi
              show (List.getD _ i []).getD j 0 = _
              rw [getD_of (x := (S.getD i []).map fun x => (12 : Int).fdiv (hs.getD i 0) * x) (by rw [List.getElem?_map, List.getElem?_range hi]; rfl), getD_of er, getD_of (x := (12 : Int).fdiv (hs.getD i 0) * at2 S i j) (by rw [List.getElem?_map, rr j hj]; rfl)])
            exact rest (.ref a) _ sv S (.ref D) hs c7 c8 _ _ P13 W13 L13 r13 (Mono.up g13 rs10) (Mono.up g13 rh10) (.inr hS)
        · have P7 := P6.stp s7
          refine ⟨_, rfl, _, rfl, _, rfl, _, _, rfl, rfl, G7, pl, n, (wd : Int) - 1, P7.e, Pl.ps P7, n2, n4, rfl, fun tv M G8 H8 W L p8 r8 => ?_⟩
          have g8 := s5.g.trans (s6.g.trans (s7.g.trans p8.eg))
          exact rest tv M sv0 [] hv0 [] none none G8 H8 (P7.trans p8) W L r8 (Mono.up g8 r4) (Mono.up g8 r3') (.inl rfl)

end Cy
namespace Cy
open PySem PySem.Spec PyProof.Rows L2 He
local macro_rules | `(tactic| tm_at "ex") => `(tactic| first
  | exact Ex.refl _ | assumption | exact Stp.g (by assumption) | exact Stp.v (by assumption)
  | (refine Ex.trans (Stp.g (by assumption)) ?_; tm_at "ex")
  | (refine Ex.trans (by assumption) ?_; tm_at "ex"))
local macro_rules | `(tactic| tm_at "rl") => `(tactic| first
  | exact rfl | assumption | (apply Mono.up; rotate_left; assumption; tm_at "ex"))
local macro_rules | `(tactic| tm_at "sc") => `(tactic| first | assumption | omega)
local macro_rules | `(tactic| tm_at "ev") => `(tactic| first
  | exact ev_int | exact ev_bl | assumption
  | (apply ev_varI; exact rfl)
  | (apply ev_var; exact rfl; tm_at "rl")
  | (apply ev_I0; tm_at "ev"; tm_at "ev")
  | (apply ev_B0; tm_at "ev"; tm_at "ev")
  | (apply ev_I; tm_at "ev"; tm_at "ev"; tm_at "sc")
  | (apply ev_un; tm_at "ev")
  | (apply ev_eqI; tm_at "ev"; tm_at "ev")
  | (apply ev_neI; tm_at "ev"; tm_at "ev")
  | (apply ev_fstI; tm_at "ev")
  | (apply ev_sndI; tm_at "ev")
  | (apply ev_max2; tm_at "ev"; tm_at "ev")
  | (apply ev_min2; tm_at "ev"; tm_at "ev")
  | (apply ev_abs; tm_at "ev")
  | (apply ev_int1; tm_at "ev")
  | (apply ev_bits; tm_at "ev")
  | (apply ev_gcd; tm_at "ev"; tm_at "ev")
  | (apply ev_len; tm_at "ev")
  | (apply ev_tup2; tm_at "ev"; tm_at "ev"))
local macro_rules | `(tactic| tm_at "ea") => `(tactic| first
  | exact ea_nil
  | (apply ea_consI; tm_at "ev"; tm_at "ea")
  | (apply ea_cons; tm_at "ev"; tm_at "ea"))
local macro_rules | `(tactic| tm_at "et") => `(tactic| first
  | (apply et_test; tm_at "ev")
  | (apply et_B; tm_at "ev")
  | (apply et_not; tm_at "et"))

open Cr
theorem dp_fr {K : PySem.W.Frag} {G H : Hp} {v : V} {p : Int × Int} (r : FR G v p) (e : Ex G H) : Dp K H v (.tuple [.int p.1, .int p.2]) := by
  obtain ⟨a, u, w, rfl, h, h1, h2⟩ := r
  obtain rfl : u = .int p.1 := h1
  obtain rfl : w = .int p.2 := h2
  exact .tup (SqT.of (e _ _ h)) (.cons (.int _) (.cons (.int _) .nil))
theorem et_eqFR {K : PySem.W.Frag} {σ : L2.St} {G H : Hp} {ta tb : TE} {p q : Int × Int} (ha : Ev ta σ G H FR p) (hb : Ev tb σ G H FR q) : EvT (tTest (tOp (rEqD K) ta tb)) σ G H (PyData.eqv (.tuple [.int p.1, .int p.2]) (.tuple [.int q.1, .int q.2])) :=
  et_test (ev_op (U := BR) (z := PyData.eqv (.tuple [.int p.1, .int p.2]) (.tuple [.int q.1, .int q.2])) ha hb fun G' v w _ r1 r2 G1 H1 eg v1 Q qq => ⟨_, _, dp_fr (Mono.up eg r1) v1, dp_fr (Mono.up eg r2) v1, rfl, rfl, qq _ G1 H1 (Stp.refl v1) rfl⟩)
structure ClOk (q : Wq) (C : Mx) : Prop where
  s : Sqm q.n C
  b : ∀ i j, i < q.n → j < q.n → 0 ≤ at2 C i j ∧ at2 C i j < 2 ^ 16
  t : ∀ i j, i < q.n → j < q.n → 0 < at2 C i j → 0 < at2 q.t i j
theorem ClOk.zero (q : Wq) : ClOk q (zeroM q.n) := ⟨zeroM_sq _, fun i j _ _ => by rw [zeroM_at]; omega, fun i j _ _ h => by rw [zeroM_at] at h; omega⟩
theorem ClOk.put {q : Wq} {C : Mx} {i j : Nat} {x : Int} (h : ClOk q C) (hi : i < q.n) (hj : j < q.n) (x0 : 0 ≤ x) (x1 : x < 2 ^ 16) (ht : 0 < at2 q.t i j) : ClOk q (put2 C i j x) := by
  refine ⟨put2_sq h.s hi, fun a b ha hb => ?_, fun a b ha hb => ?_⟩
  · rw [put2_at h.s hi hj]
    split
    · exact ⟨x0, x1⟩
    · exact h.b a b ha hb
  · rw [put2_at h.s hi hj]
    split
    · rename_i z
      obtain ⟨rfl, rfl⟩ := z
      exact fun _ => ht
    · exact h.t a b ha hb
abbrev N__law_calls : List Str := ["_law_pool_here", "_law_web_here", "_law_size_here", "_law_takes", "_law_calls_here", "_law_word", "_law_ties", "_law_i", "_law_alone", "_law_even", "_law_own", "_law_row", "_law_j"]
abbrev P__law_calls : List Str := ["_law_pool_here", "_law_web_here"]
theorem sc__law_calls : FnScope N__law_calls P__law_calls (defScope s__law_calls) := ⟨rfl, rfl, rfl, by decide +kernel, rfl, by decide +kernel, by decide +kernel⟩
def sp__law_calls (K : PySem.W.Frag) : Sp := fun vs H Q _ => ∃ (G : Hp) (pl : Addr) (q : Wq) (v : V), Ex G H ∧ Pl G H pl ∧ WqOk q ∧ WqR G v q ∧ vs = [.ref pl, v] ∧ ∀ u C G' H', ClOk q C → PS pl G H G' H' → MxL G' u C → Q u H'
theorem len__law_calls {K : PySem.W.Frag} {vs : List V} {H : Hp} {Q : VK} {E : XK} (h : sp__law_calls K vs H Q E) : vs.length = P__law_calls.length := by
  obtain ⟨_, _, _, _, _, _, _, _, rfl, _⟩ := h; rfl
def tiesP (n : Nat) (M : Mx) (m : Nat) : List (Int × Int) := (List.range m).flatMap fun i => (List.range n).filterMap fun j => if 0 < at2 M i j then some ((i : Int), (j : Int)) else none
theorem tiesP_len (n : Nat) (M : Mx) (n4 : n ≤ 4) : ∀ m, (tiesP n M m).length ≤ m * 4
  | 0 => by simp [tiesP]
  | m + 1 => by
    unfold tiesP
    rw [List.range_succ, List.flatMap_append, List.length_append, List.flatMap_singleton]
    have : ((List.range n).filterMap fun j => if 0 < at2 M m j then some ((m : Int), (j : Int)) else none).length ≤ 4 := Nat.le_trans (List.length_filterMap_le _ _) (by rw [List.length_range]; exact n4)
    have := tiesP_len n M n4 m
    unfold tiesP at this
    omega
theorem tiesP_pos {q : Wq} (h : WqOk q) : 0 < (tiesP q.n q.t q.n).length := by
  have n2 := h.n2
  obtain ⟨a, b, ha, hb, _, _, t⟩ := h.l (fun i => decide (i = 0)) ⟨0, by omega, rfl⟩ ⟨1, by omega, rfl⟩
  refine List.length_pos_of_mem (a := ((a : Int), (b : Int))) ?_
  exact List.mem_flatMap.mpr ⟨a, List.mem_range.mpr ha, List.mem_filterMap.mpr ⟨b, List.mem_range.mpr hb, by rw [if_pos t]⟩⟩
theorem ok__law_calls {P : Program} {w : World} {K : PySem.W.Frag} {mg : Str → Option Value} {base : Heap} {k : Nat} (T : Tx K mg) (G__law_blank : Ok P w K mg base k "_law_blank" P__law_blank (sp__law_blank K)) (G__law_pick : Ok P w K mg base k "_law_pick" P__law_pick (sp__law_pick K)) : Ok P w K mg base (k + 1) "_law_calls" P__law_calls (sp__law_calls K) := by
  obtain ⟨fd__law_blank, G__law_blank, B__law_blank, K__law_blank⟩ := G__law_blank
  obtain ⟨fd__law_pick, G__law_pick, B__law_pick, K__law_pick⟩ := G__law_pick
  refine ok_of T.d__law_calls sc__law_calls (fun _ _ _ _ _ _ us hl => match us, hl with | [_, _], _ => rfl) (fun vs H Q E h => ?_) (fun f cdv A outer s H vs Q E hr h => ?_)
  · exact len__law_calls h
  · refine ⟨_, (pss_cons (ps_set (i := 2) sc__law_calls.nd rfl (by first | exact Or.inl rfl | exact Or.inr rfl) (pe_ix ix_list (pv 1) pe_int (fun _ _ => rfl)))
      (pss_cons (ps_set (i := 3) sc__law_calls.nd rfl (by first | exact Or.inl rfl | exact Or.inr rfl) (pe_ix ix_list (pv 1) pe_int (fun _ _ => rfl)))
      (pss_cons (ps_set (i := 4) sc__law_calls.nd rfl (by first | exact Or.inl rfl | exact Or.inr rfl) (pe_call G__law_blank hr (by rfl) T.g__law_blank K__law_blank B__law_blank .nil pass0 (pa_cons (pv 2) pa_nil)))
      (pss_cons (ps_set (i := 5) sc__law_calls.nd rfl (by first | exact Or.inl rfl | exact Or.inr rfl) (pe_call G__law_pick hr (by rfl) T.g__law_pick K__law_pick B__law_pick .nil pass0 (pa_cons (pv 0) (pa_cons pe_int pa_nil))))
      (pss_cons (ps_set (i := 6) sc__law_calls.nd rfl (by first | exact Or.inl rfl | exact Or.inr rfl) (pe_lst pa_nil))
      (pss_cons (ps_for PassesOwn.never rfl (pi_range1 (by rfl) T.f_range (pa_cons (pv 2) pa_nil)) (pg_name (i := 7) sc__law_calls.nd rfl (by first | exact Or.inl rfl | exact Or.inr rfl)) (pss_one (ps_set (i := 6) sc__law_calls.nd rfl (by first | exact Or.inl rfl | exact Or.inr rfl) (pe_op op_cat (pv 6) (pe_lc (own := [("_law_j", 12)]) (g := (gName 12)) (tt := (tTest (tOp qGt (tOp (rIxL K) (tOp (rIxL K) (tVar 3) (tVar 7)) (tVar 12)) (tC (.int 0))))) (te := (tTup (tCons (tVar 7) (tCons (tVar 12) tNil)))) (by rfl) sc__law_calls.nd (pi_range1 (by rfl) T.f_range (pa_cons (pv 2) pa_nil)) (blkOk_by (by kernel_rfl)) (fun _ _ _ _ _ => (pg_name (i := 12) sc__law_calls.nd rfl (by first | exact Or.inl rfl | exact Or.inr rfl))) (fun _ _ _ _ _ => (pts_one (pt_cmpR op_gt (pe_ix ix_list (pe_ix ix_list (pv 3) (pv 7) (fun _ _ => rfl)) (pv 12) (fun _ _ => rfl)) pe_int (nomark _)))) (fun _ _ _ _ _ => (pe_tup (pa_cons (pv 7) (pa_cons (pv 12) pa_nil)))))))))
      (pss_cons (ps_set (i := 8) sc__law_calls.nd rfl (by first | exact Or.inl rfl | exact Or.inr rfl) (pe_ix ix_list (pv 6) (pe_op op_mod (pe_callTy call_int1 (by rfl) T.f_int (by decide +kernel) (pa_cons (pe_call G__law_pick hr (by rfl) T.g__law_pick K__law_pick B__law_pick .nil pass0 (pa_cons (pv 0) (pa_cons pe_int pa_nil))) pa_nil)) (pe_callB call_len_seq (by rfl) T.f_len PySem.boot_len (pa_cons (pv 6) pa_nil))) (fun _ _ => rfl)))
      (pss_cons (ps_set (i := 9) sc__law_calls.nd rfl (by first | exact Or.inl rfl | exact Or.inr rfl) (pe_op op_add pe_int (pe_call G__law_pick hr (by rfl) T.g__law_pick K__law_pick B__law_pick .nil pass0 (pa_cons (pv 0) (pa_cons pe_int pa_nil)))))
      (pss_cons (ps_if (PW.pt (pw_or (pt_cmpR op_eq (pv 5) pe_int (nomark _)) (pw_or1 (PW.pt (pw_and (pt_cmpR op_eq (pv 5) pe_int (nomark _)) (pw_and1 (pt_cmpR op_eq (pe_callB call_len_seq (by rfl) T.f_len PySem.boot_len (pa_cons (pe_ix ix_list (pv 1) pe_int (fun _ _ => rfl)) pa_nil)) pe_int (nomark _)))))))) (pss_one (ps_ret (pv 4))) pss_nil)
      (pss_cons (ps_for PassesOwn.never rfl (pi_range1 (by rfl) T.f_range (pa_cons (pv 2) pa_nil)) (pg_name (i := 7) sc__law_calls.nd rfl (by first | exact Or.inl rfl | exact Or.inr rfl)) (pss_cons (ps_set (i := 10) sc__law_calls.nd rfl (by first | exact Or.inl rfl | exact Or.inr rfl) (pe_call G__law_pick hr (by rfl) T.g__law_pick K__law_pick B__law_pick .nil pass0 (pa_cons (pv 0) (pa_cons pe_int pa_nil))))
      (pss_cons (ps_set (i := 11) sc__law_calls.nd rfl (by first | exact Or.inl rfl | exact Or.inr rfl) (pe_ix ix_list (pv 4) (pv 7) (fun _ _ => rfl)))
      (pss_one (ps_for PassesOwn.never rfl (pi_range1 (by rfl) T.f_range (pa_cons (pv 2) pa_nil)) (pg_name (i := 12) sc__law_calls.nd rfl (by first | exact Or.inl rfl | exact Or.inr rfl)) (pss_one (ps_if (pt_cmpR op_gt (pe_ix ix_list (pe_ix ix_list (pv 3) (pv 7) (fun _ _ => rfl)) (pv 12) (fun _ _ => rfl)) pe_int (nomark _)) (pss_one (ps_if (pt_cmpR op_in_seq (pv 5) (pe_tup (pa_cons pe_int (pa_cons pe_int pa_nil))) (by rfl)) (pss_one (ps_asg (pe_call G__law_pick hr (by rfl) T.g__law_pick K__law_pick B__law_pick .nil pass0 (pa_cons (pv 0) (pa_cons pe_int pa_nil))) (pg_sub (pv 11) (pv 12) set_list))) (pss_one (ps_if (PW.pt (pw_and (pt_cmpR op_eq (pv 5) pe_int (nomark _)) (pw_and1 (pt_cmpR (op_eqD hr.units) (pv 8) (pe_tup (pa_cons (pv 7) (pa_cons (pv 12) pa_nil))) (nomark _))))) (pss_one (ps_asg (pv 9) (pg_sub (pv 11) (pv 12) set_list))) (pss_one (ps_if (pt_cmpR op_in_seq (pv 5) (pe_tup (pa_cons pe_int (pa_cons pe_int pa_nil))) (by rfl)) (pss_one (ps_asg (pe_op op_mulX (pv 9) (pe_ix ix_list (pe_ix ix_list (pv 3) (pv 7) (fun _ _ => rfl)) (pv 12) (fun _ _ => rfl))) (pg_sub (pv 11) (pv 12) set_list))) (pss_one (ps_if (pt_cmpR op_eq (pv 5) pe_int (nomark _)) (pss_one (ps_asg (pe_op op_mulX (pv 10) (pe_ix ix_list (pe_ix ix_list (pv 3) (pv 7) (fun _ _ => rfl)) (pv 12) (fun _ _ => rfl))) (pg_sub (pv 11) (pv 12) set_list))) (pss_one (ps_if (pt_cmpR op_eq (pv 5) pe_int (nomark _)) (pss_one (ps_asg (pe_op op_mulX (pv 9) (pe_ix ix_list (pe_ix ix_list (pe_ix ix_list (pv 1) pe_int (fun _ _ => rfl)) (pv 7) (fun _ _ => rfl)) (pv 12) (fun _ _ => rfl))) (pg_sub (pv 11) (pv 12) set_list))) pss_nil)))))))))) pss_nil)))))))
      (pss_one (ps_ret (pv 4))))))))))))), ?_⟩
    obtain ⟨G, pl, w', v, e, hp, hw, hv, rfl, q⟩ := h
    have n2 := hw.n2
    have n4 := hw.n4
    have tS := hw.w.s
    refine s_set (R := IR) (x := (w'.n : Int)) (ev_wq0 rfl hv) e fun x G1 H1 s1 r1 => ?_
    obtain rfl := r1
    have hv1 := Mono.up s1.g hv
    refine s_set (R := MxL) (x := w'.t) (ev_wq1 rfl hv1) s1.v fun tk G2 H2 s2 r2 => ?_
    have S2 := s1.trans s2
    refine s_blank (ev_varI rfl) (by omega) S2.v fun a bs G3 H3 s3 O3 => ?_
    have O3 : OM H G3 H3 a bs (zeroM w'.n) := ⟨S2.h.none O3.a0, O3.ga, O3.ea, O3.nd, paired_imp (fun _ _ ⟨e, g, z⟩ => ⟨e, g, S2.h.none z⟩) O3.rows⟩
    have P3 := (hp.refl e).stp (S2.trans s3)
    refine s_pick (p := 0) (m := 8) rfl ev_int (by decide) P3.e (Pl.ps P3) fun wd G4 H4 hwd p4 => ?_
    have P4 := P3.trans p4
    have O4 := O3.ps p4 P3.b
    refine s_set (R := Ls FR) (x := []) (ev_lst .nil (by show 0 ≤ 100000; decide)) P4.e fun ti0 G5 H5 s5 r5 => ?_
    have P5 := P4.stp s5
    have O5 := O4.stp s5
    have g25 := s3.g.trans (p4.eg.trans s5.g)
    refine s_for (I := fun i σ G' H' => PS pl G H G' H' ∧ OM H G' H' a bs (zeroM w'.n) ∧ ∃ tv c7, Ls FR G' tv (tiesP w'.n w'.t i) ∧ σ = [some (.ref pl), some v, some (.int (w'.n : Int)), some tk, some (.ref a), some (.int (wd : Int)), some tv, c7, none, none, none, none, none]) (ei_range1 (m := (w'.n : Int)) (ea_consI (ev_varI rfl) ea_nil) (by omega) (by omega)) P5.e ?_ ?_ ?_
    · exact fun G6 H6 s6 => ⟨P5.stp s6, O5.stp s6, ti0, none, Mono.up s6.g r5, rfl⟩
    · rintro i x σ Gp Hq G' H' G1' hi e1 e2 ⟨P6, O6, tv, c7, r6, rfl⟩ s7 rfl
      rw [Int.toNat_natCast] at hi
      have P7 := P6.stp s7
      have r7 := Mono.up s7.g r6
      have t7 := Mono.up (g25.trans (e1.trans (e2.trans s7.g))) r2
      obtain ⟨r, er, hl, hr⟩ := tS.row hi
      refine s_set1 (R := Ls FR) (x := tiesP w'.n w'.t (i + 1)) (Ev.eq (ev_cat (ev_var rfl r7) (ev_lc1 (S := FR) (W := fun j _ v => v = .int (j : Int)) (n := w'.n) (f := fun j => if 0 < at2 w'.t i j then some ((i : Int), (j : Int)) else none) (ei_range1 (m := (w'.n : Int)) (by tm_at "ea") (by omega) (by omega)) (by omega) (fun j v G8 H8 hj s8 ev => ?_) (fun j v y G8 H8 hj s8 ev hy => ?_)) ?_) ?_) s7.v fun tv' G8 H8 s8 r8 => ?_
      · obtain rfl := ev
        refine EvT.eq (et_test (ev_B0 (f := fun i j => decide (j < i)) (i := at2 w'.t i j) (j := 0) (ev_ixL (R := IR) (n := j) (xs := r) (ev_ixL (R := Ls IR) (n := i) (xs := w'.t) (ev_var rfl (Mono.up s8.g t7)) (ev_varI rfl) rfl er) (ev_varI rfl) rfl (hr j hj)) ev_int)) ?_
        by_cases z : 0 < at2 w'.t i j
        · rw [if_pos z, decide_eq_true z]; rfl
        · rw [if_neg z, decide_eq_false z]; rfl
      · obtain rfl := ev
        by_cases z : 0 < at2 w'.t i j
        · rw [if_pos z] at hy; cases hy
          exact ev_tup2 (ev_varI rfl) (ev_varI rfl)
        · rw [if_neg z] at hy; cases hy
      · have a1 := tiesP_len w'.n w'.t n4 i
        have a2 : ((List.range w'.n).filterMap fun j => if 0 < at2 w'.t i j then some ((i : Int), (j : Int)) else none).length ≤ 4 := Nat.le_trans (List.length_filterMap_le _ _) (by rw [List.length_range]; exact n4)
        omega
      · unfold tiesP
        rw [List.range_succ, List.flatMap_append, List.flatMap_singleton]
      · exact ⟨G8, e2.trans (s7.g.trans s8.g), s8.v, P7.stp s8, (O6.stp s7).stp s8, tv', _, r8, rfl⟩
    · rintro σ Gp Hq e1 e2 ⟨P6, O6, tv, c7, r6, rfl⟩
      rw [Int.toNat_natCast] at r6
      have tl := tiesP_pos hw
      have tl4 := tiesP_len w'.n w'.t n4 w'.n
      -- alone = ties[pick % len]
      refine ⟨_, rfl, ?_⟩
      refine pick_run (p := 0) (m := 30) rfl ev_int (by decide) P6.e (Pl.ps P6) fun k G7 H7 hk p7 => .inl ⟨(k : Int), rfl, ?_⟩
      have P7 := P6.trans p7
      have O7 := O6.ps p7 P6.b
      have r7 := Mono.up p7.eg r6
      obtain ⟨ta, us, rfl, hta, pta⟩ := r7
      refine ⟨_, rfl, ta, us, rfl, .inl (SqL.of (P7.e _ _ hta)), (k : Int), (us.length : Int), rfl, rfl, by rw [paired_len pta]; show (0 : Int) < _; omega, ?_⟩
      have em : (k : Int) % (us.length : Int) = ((k % us.length : Nat) : Int) := by push_cast; rfl
      have km : k % us.length < us.length := Nat.mod_lt _ (by rw [paired_len pta]; omega)
      obtain ⟨al, hal⟩ : ∃ al, us[k % us.length]? = some al := ⟨_, List.getElem?_eq_getElem km⟩
      obtain ⟨ap, hap, rap⟩ := paired_get2 pta hal
      refine ⟨ta, us, _, al, rfl, rfl, SqL.of (P7.e _ _ hta), by rw [em]; exact atI_nat hal, ?_⟩
      unfold gName
      dsimp only
      -- even
      refine pick_run (p := 0) (m := 3) rfl ev_int (by decide) P7.e (Pl.ps P7) fun k2 G8 H8 hk2 p8 => ⟨1, (k2 : Int), rfl, rfl, ?_⟩
      have P8 := P7.trans p8
      have O8 := O7.ps p8 P7.b
      obtain ⟨ev_, hev⟩ : ∃ ev_, ev_ = 1 + (k2 : Int) := ⟨_, rfl⟩
      dsimp only
      rw [← hev]
      have rap8 := Mono.up p8.eg rap
      have g28 := g25.trans (e1.trans (p7.eg.trans p8.eg))
      have t8 := Mono.up g28 r2
      have v8 := Mono.up (s2.g.trans g28) hv1
      refine s_ifn (b := decide ((wd : Int) = 7) || (decide ((wd : Int) = 6) && decide ((w'.h.length : Int) = 0))) (et_or (et_test (ev_eqI (ev_varI rfl) ev_int)) fun _ => et_and (et_test (ev_eqI (ev_varI rfl) ev_int)) fun _ => et_test (ev_eqI (ev_lenL (R := IR) (xs := w'.h) (ev_wq3 rfl v8)) ev_int)) P8.e (fun G9 H9 s9 _ => ?_) (fun G9 H9 s9 hb => ?_)
      · obtain ⟨G10, P10, e10, r10⟩ := (O8.stp s9).show_ (P8.stp s9) (fun b h => h)
        exact s_ret (R := MxL) (x := zeroM w'.n) (ev_var rfl r10) P10.e fun u G11 H11 s11 r11 => q u _ G11 H11 (.zero w') (P10.stp s11) r11
      · have h6 : (wd : Int) = 6 → Sm w'.n w'.s 100 := fun z => by
          rcases hw.h with y | y
          · rw [z, y] at hb
            simp at hb
          · exact y
        have P9 := P8.stp s9
        have O9 := O8.stp s9
        refine s_for (I := fun i σ G' H' => PS pl G H G' H' ∧ (∃ C, OM H G' H' a bs C ∧ ClOk w' C) ∧ ∃ c7 c10 c11 c12, σ = [some (.ref pl), some v, some (.int (w'.n : Int)), some tk, some (.ref a), some (.int (wd : Int)), some (.ref ta), c7, some al, some (.int ev_), c10, c11, c12]) (ei_range1 (m := (w'.n : Int)) (ea_consI (ev_varI rfl) ea_nil) (by omega) (by omega)) P9.e ?_ ?_ ?_
        · exact fun G10 H10 s10 => ⟨P9.stp s10, ⟨_, O9.stp s10, .zero w'⟩, _, _, _, _, rfl⟩
        · rintro i x σ Gp' Hq' G' H' G1' hi f1 f2 ⟨P10, ⟨C, O10, C10⟩, d7, d10, d11, d12, rfl⟩ s11 rfl
          rw [Int.toNat_natCast] at hi
          have P11 := P10.stp s11
          have O11 := O10.stp s11
          refine s_pick (p := 0) (m := 4) rfl ev_int (by decide) P11.e (Pl.ps P11) fun ow G12 H12 how p12 => ?_
          have P12 := P11.trans p12
          have O12 := O11.ps p12 P11.b
          obtain ⟨b, hb'⟩ : ∃ b, bs[i]? = some b := ⟨_, List.getElem?_eq_getElem (by rw [O12.len, C10.s.l]; exact hi)⟩
          refine s_set (R := VR) (x := .ref b) (ev_rowOwn O12 rfl hb' (ev_varI rfl)) P12.e fun u G13 H13 s13 r13 => ?_
          obtain rfl := r13
          have P13 := P12.stp s13
          have g13 := s9.g.trans (f1.trans (f2.trans (s11.g.trans (p12.eg.trans s13.g))))
          refine s_for' (I := fun j σ G' H' => PS pl G H G' H' ∧ (∃ C, OM H G' H' a bs C ∧ ClOk w' C) ∧ ∃ c12, σ = [some (.ref pl), some v, some (.int (w'.n : Int)), some tk, some (.ref a), some (.int (wd : Int)), some (.ref ta), some (.int (i : Int)), some al, some (.int ev_), some (.int (ow : Int)), some (.ref b), c12]) (ei_range1 (m := (w'.n : Int)) (ea_consI (ev_varI rfl) ea_nil) (by omega) (by omega)) P13.e ?_ ?_ ?_
          · exact fun G14 H14 s14 => ⟨P13.stp s14, ⟨_, (O12.stp s13).stp s14, C10⟩, _, rfl⟩
          · rintro j x σ Gs Hs Gt Ht Gu hj z1 z2 ⟨P14, ⟨C14, O14, K14⟩, e12, rfl⟩ s15 rfl
            rw [Int.toNat_natCast] at hj
            have P15 := P14.stp s15
            have O15 := O14.stp s15
            have g15 := g13.trans (z1.trans (z2.trans s15.g))
            obtain ⟨r, er, hl, hr⟩ := tS.row hi
            have tij : ∀ {σ' : L2.St} {G' H'}, Ex Gt G' → σ'[3]? = some (some tk) → σ'[7]? = some (some (.int (i : Int))) → σ'[12]? = some (some (.int (j : Int))) → Ev (tOp (rIxL K) (tOp (rIxL K) (tVar 3) (tVar 7)) (tVar 12)) σ' G' H' IR (at2 w'.t i j) := fun ex a1 a2 a3 => ev_ixL (R := IR) (n := j) (xs := r) (ev_ixL (R := Ls IR) (n := i) (xs := w'.t) (ev_var a1 (Mono.up (g15.trans ex) t8)) (ev_varI a2) rfl er) (ev_varI a3) rfl (hr j hj)
            obtain ⟨tb0, tb1⟩ := hw.w.b i j hi hj
            have skip : ∀ G' H', PS pl G H G' H' → OM H G' H' a bs C14 → Ex Gt G' → ∃ G'', Ex Gu G'' ∧ Ex G'' H' ∧ PS pl G H G'' H' ∧ (∃ C, OM H G'' H' a bs C ∧ ClOk w' C) ∧ ∃ c12, ([some (.ref pl), some v, some (.int (w'.n : Int)), some tk, some (.ref a), some (.int (wd : Int)), some (.ref ta), some (.int (i : Int)), some al, some (.int ev_), some (.int (ow : Int)), some (.ref b), some (.int (j : Int))] : L2.St) = [some (.ref pl), some v, some (.int (w'.n : Int)), some tk, some (.ref a), some (.int (wd : Int)), some (.ref ta), some (.int (i : Int)), some al, some (.int ev_), some (.int (ow : Int)), some (.ref b), c12] := fun G' H' P O ex => ⟨G', z2.trans (s15.g.trans ex), P.e, P, ⟨_, O, K14⟩, _, rfl⟩
            refine s_if (b := decide (0 < at2 w'.t i j)) (et_test (ev_B0 (f := fun i j => decide (j < i)) (tij (Ex.refl _) rfl rfl rfl) ev_int)) P15.e (fun G16 H16 s16 hpos => ?_) (fun G16 H16 s16 _ => skip G16 H16 (P15.stp s16) (O15.stp s16) s16.g)
            have hpos := of_decide_eq_true hpos
            have P16 := P15.stp s16
            have O16 := O15.stp s16
            have fin : ∀ x G' H', 0 ≤ x → x < 2 ^ 16 → PS pl G H G' H' → OM H G' H' a bs (put2 C14 i j x) → Ex Gt G' → ∃ G'', Ex Gu G'' ∧ Ex G'' H' ∧ PS pl G H G'' H' ∧ (∃ C, OM H G'' H' a bs C ∧ ClOk w' C) ∧ ∃ c12, ([some (.ref pl), some v, some (.int (w'.n : Int)), some tk, some (.ref a), some (.int (wd : Int)), some (.ref ta), some (.int (i : Int)), some al, some (.int ev_), some (.int (ow : Int)), some (.ref b), some (.int (j : Int))] : L2.St) = [some (.ref pl), some v, some (.int (w'.n : Int)), some tk, some (.ref a), some (.int (wd : Int)), some (.ref ta), some (.int (i : Int)), some al, some (.int ev_), some (.int (ow : Int)), some (.ref b), c12] := fun x G' H' x0 x1 P O ex => ⟨G', z2.trans (s15.g.trans ex), P.e, P, ⟨_, O, K14.put hi hj x0 x1 hpos⟩, _, rfl⟩
            have mu : ∀ (m y : Int), 0 ≤ m → m ≤ 4 → 0 ≤ y → y < 4000 → CMulX m y ∧ 0 ≤ m * y ∧ m * y < 2 ^ 16 := fun m y m0 m4 y0 y4 => by
              refine ⟨mulx (a := 3) (b := 12) (by show Int.natAbs _ < 2 ^ 3; omega) (by show Int.natAbs _ < 2 ^ 12; omega), Int.mul_nonneg m0 y0, ?_⟩
              have : m = 0 ∨ m = 1 ∨ m = 2 ∨ m = 3 ∨ m = 4 := by omega
              rcases this with rfl | rfl | rfl | rfl | rfl <;> omega
            obtain ⟨b1, t1, _⟩ := et_in2 (K := K) (a := 0) (b := 4) (ev_varI (σ := [some (.ref pl), some v, some (.int (w'.n : Int)), some tk, some (.ref a), some (.int (wd : Int)), some (.ref ta), some (.int (i : Int)), some al, some (.int ev_), some (.int (ow : Int)), some (.ref b), some (.int (j : Int))]) (G := G16) (H := H16) (i := 5) (n := (wd : Int)) rfl)
            refine s_if (b := b1) t1 P16.e (fun G17 H17 s17 _ => ?_) (fun G17 H17 s17 _ => ?_)
            · have P17 := P16.stp s17
              have O17 := O16.stp s17
              refine pick_run (p := 0) (m := 5) rfl ev_int (by decide) P17.e (Pl.ps P17) fun k3 G18 H18 hk3 p18 => ?_
              have P18 := P17.trans p18
              obtain ⟨us', e1', l1', g1', P19, O19⟩ := (O17.ps p18 P17.b).putS (x := (k3 : Int)) P18 K14.s hi hj hb'
              exact ⟨_, rfl, _, rfl, b, us', (j : Int), j, rfl, rfl, e1', ixN_nat l1', fin (k3 : Int) G18 _ (by omega) (by omega) P19 O19 (s16.g.trans (s17.g.trans p18.eg))⟩
            · have P17 := P16.stp s17
              have O17 := O16.stp s17
              have g17 := s16.g.trans s17.g
              refine s_if (b := decide ((wd : Int) = 1) && PyData.eqv (.tuple [.int ap.1, .int ap.2]) (.tuple [.int (i : Int), .int (j : Int)])) (et_and (et_test (ev_eqI (ev_varI rfl) ev_int)) fun _ => et_eqFR (p := ap) (q := ((i : Int), (j : Int))) (ev_var rfl (Mono.up (g15.trans g17) rap8)) (ev_tup2 (ev_varI rfl) (ev_varI rfl))) P17.e (fun G18 H18 s18 _ => ?_) (fun G18 H18 s18 _ => ?_)
              · exact s_putP1 (i := i) (j := j) (x := 11) (y := 12) (b := b) (v := ev_) (P17.stp s18) (O17.stp s18) K14.s hi hj hb' rfl rfl (ev_varI rfl) fun G19 H19 P19 e19 O19 => fin ev_ G19 H19 (by omega) (by omega) P19 O19 (g17.trans (s18.g.trans e19))
              · have P18 := P17.stp s18
                have O18 := O17.stp s18
                have g18 := g17.trans s18.g
                obtain ⟨b2, t2, _⟩ := et_in2 (K := K) (a := 2) (b := 5) (ev_varI (σ := [some (.ref pl), some v, some (.int (w'.n : Int)), some tk, some (.ref a), some (.int (wd : Int)), some (.ref ta), some (.int (i : Int)), some al, some (.int ev_), some (.int (ow : Int)), some (.ref b), some (.int (j : Int))]) (G := G18) (H := H18) (i := 5) (n := (wd : Int)) rfl)
                refine s_if (b := b2) t2 P18.e (fun G19 H19 s19 _ => ?_) (fun G19 H19 s19 _ => ?_)
                · obtain ⟨m1, m2, m3⟩ := mu ev_ (at2 w'.t i j) (by omega) (by omega) tb0 tb1
                  exact s_putP1 (i := i) (j := j) (x := 11) (y := 12) (b := b) (v := ev_ * at2 w'.t i j) (P18.stp s19) (O18.stp s19) K14.s hi hj hb' rfl rfl (ev_I (ev_varI rfl) (tij (g18.trans s19.g) rfl rfl rfl) m1) fun G20 H20 P20 e20 O20 => fin _ G20 H20 m2 m3 P20 O20 (g18.trans (s19.g.trans e20))
                · have P19 := P18.stp s19
                  have O19 := O18.stp s19
                  have g19 := g18.trans s19.g
                  refine s_if (b := decide ((wd : Int) = 3)) (et_test (ev_eqI (ev_varI rfl) ev_int)) P19.e (fun G20 H20 s20 _ => ?_) (fun G20 H20 s20 _ => ?_)
                  · obtain ⟨m1, m2, m3⟩ := mu (ow : Int) (at2 w'.t i j) (by omega) (by omega) tb0 tb1
                    exact s_putP1 (i := i) (j := j) (x := 11) (y := 12) (b := b) (v := (ow : Int) * at2 w'.t i j) (P19.stp s20) (O19.stp s20) K14.s hi hj hb' rfl rfl (ev_I (ev_varI rfl) (tij (g19.trans s20.g) rfl rfl rfl) m1) fun G21 H21 P21 e21 O21 => fin _ G21 H21 m2 m3 P21 O21 (g19.trans (s20.g.trans e21))
                  · have P20 := P19.stp s20
                    have O20 := O19.stp s20
                    have g20 := g19.trans s20.g
                    refine s_if (b := decide ((wd : Int) = 6)) (et_test (ev_eqI (ev_varI rfl) ev_int)) P20.e (fun G21 H21 s21 h6' => ?_) (fun G21 H21 s21 _ => skip G21 H21 (P20.stp s21) (O20.stp s21) (g20.trans s21.g))
                    have hS := h6 (of_decide_eq_true h6')
                    obtain ⟨sb0, sb1⟩ := hS.b i j hi hj
                    obtain ⟨m1, m2, m3⟩ := mu ev_ (at2 w'.s i j) (by omega) (by omega) sb0 (by omega)
                    obtain ⟨r', er', hl', hr'⟩ := hS.s.row hi
                    exact s_putP1 (i := i) (j := j) (x := 11) (y := 12) (b := b) (v := ev_ * at2 w'.s i j) (P20.stp s21) (O20.stp s21) K14.s hi hj hb' rfl rfl (ev_I (ev_varI rfl) (ev_ixL (R := IR) (n := j) (xs := r') (ev_ixL (R := Ls IR) (n := i) (xs := w'.s) (ev_wq2 rfl (Mono.up (g15.trans (g20.trans s21.g)) v8)) (ev_varI rfl) rfl er') (ev_varI rfl) rfl (hr' j hj)) m1) fun G22 H22 P22 e22 O22 => fin _ G22 H22 m2 m3 P22 O22 (g20.trans (s21.g.trans e22))
          · rintro σ Gs Hs z1 z2 ⟨P14, ⟨C14, O14, K14⟩, e12, rfl⟩
            exact ⟨Gs, f2.trans (s11.g.trans (p12.eg.trans (s13.g.trans z1))), z2, P14, ⟨C14, O14, K14⟩, _, _, _, _, rfl⟩
        · rintro σ G' H' f1 f2 ⟨P10, ⟨C, O10, C10⟩, d7, d10, d11, d12, rfl⟩
          obtain ⟨G11, P11, e11, r11⟩ := O10.show_ P10 (fun b h => h)
          exact s_ret (R := MxL) (x := C) (ev_var rfl r11) P11.e fun u G12 H12 s12 r12 => q u C G12 H12 C10 (P11.stp s12) r12

end Cy
namespace Cy
open PySem PySem.Spec PyProof.Rows L2 He
local macro_rules | `(tactic| tm_at "ex") => `(tactic| first
  | exact Ex.refl _ | assumption | exact Stp.g (by assumption) | exact Stp.v (by assumption)
  | (refine Ex.trans (Stp.g (by assumption)) ?_; tm_at "ex")
  | (refine Ex.trans (by assumption) ?_; tm_at "ex"))
local macro_rules | `(tactic| tm_at "rl") => `(tactic| first
  | exact rfl | assumption | (apply Mono.up; rotate_left; assumption; tm_at "ex"))
local macro_rules | `(tactic| tm_at "sc") => `(tactic| first | assumption | omega)
local macro_rules | `(tactic| tm_at "ev") => `(tactic| first
  | exact ev_int | exact ev_bl | assumption
  | (apply ev_varI; exact rfl)
  | (apply ev_var; exact rfl; tm_at "rl")
  | (apply ev_I0; tm_at "ev"; tm_at "ev")
  | (apply ev_B0; tm_at "ev"; tm_at "ev")
  | (apply ev_I; tm_at "ev"; tm_at "ev"; tm_at "sc")
  | (apply ev_un; tm_at "ev")
  | (apply ev_eqI; tm_at "ev"; tm_at "ev")
  | (apply ev_neI; tm_at "ev"; tm_at "ev")
  | (apply ev_fstI; tm_at "ev")
  | (apply ev_sndI; tm_at "ev")
  | (apply ev_max2; tm_at "ev"; tm_at "ev")
  | (apply ev_min2; tm_at "ev"; tm_at "ev")
  | (apply ev_abs; tm_at "ev")
  | (apply ev_int1; tm_at "ev")
  | (apply ev_bits; tm_at "ev")
  | (apply ev_gcd; tm_at "ev"; tm_at "ev")
  | (apply ev_len; tm_at "ev")
  | (apply ev_tup2; tm_at "ev"; tm_at "ev"))
local macro_rules | `(tactic| tm_at "ea") => `(tactic| first
  | exact ea_nil
  | (apply ea_consI; tm_at "ev"; tm_at "ea")
  | (apply ea_cons; tm_at "ev"; tm_at "ea"))
local macro_rules | `(tactic| tm_at "et") => `(tactic| first
  | (apply et_test; tm_at "ev")
  | (apply et_B; tm_at "ev")
  | (apply et_not; tm_at "et"))

open Cr
/-! the pool -/
theorem s_ifj {σ : L2.St} {G H : Hp} {tc : TT} {t w : TS} {D : Ends} {b : Bool} (J : L2.St → Hp → Prop) (h : EvT tc σ G H b) (e : Ex G H) (k1 : (∀ σ H, J σ H → w D σ H) → ∀ G' H', Stp G H G' H' → b = true → t { D with nx := w D } σ H') (k2 : ∀ G' H', Stp G H G' H' → b = false → J σ H') (K : ∀ σ H, J σ H → w D σ H) : tSeq (tIfS tc t tNext) w D σ H :=
  s_ifn h e (k1 K) fun G' H' s hb => K _ _ (k2 G' H' s hb)
/-- the script: a list of ints that is only read -/
abbrev ScR (K : PySem.W.Frag) : Rel (List Int) := fun G v ns => ∃ a, v = .ref a ∧ SqL K G a (ns.map V.int)
theorem sq_up {K : PySem.W.Frag} {G H : Hp} {a : Addr} {xs : List V} (e : Ex G H) (h : SqL K G a xs) : SqL K H a xs := by
  rcases h with h | h
  · exact .inl (h.elim (fun h => .inl (e _ _ h)) fun ⟨o, h⟩ => .inr ⟨o, e _ _ h⟩)
  · exact .inr h
instance (K : PySem.W.Frag) : Mono (ScR K) := ⟨fun e ⟨a, h1, h2⟩ => ⟨a, h1, sq_up e h2⟩⟩
section
variable {K : PySem.W.Frag} {σ : L2.St} {G H : Hp} {ta tb : TE} {ns : List Int} {i x : Int} {n : Nat}
theorem ev_lenS (ha : Ev ta σ G H (ScR K) ns) : Ev (tCB (qLen K) (tCons ta tNil)) σ G H IR (ns.length : Int) := fun G1 H1 s Q q =>
  ha G1 H1 s _ fun v G2 H2 s2 ⟨a, e, h⟩ => ⟨a, ns.map V.int, by rw [e], .inl (sq_up s2.v h), by rw [List.length_map]; exact q _ G2 H2 s2 rfl⟩
theorem ev_ixS1 (ha : Ev ta σ G H (ScR K) ns) (hb : Ev tb σ G H IR i) (e : i = (n : Int)) (hx : ns[n]? = some x) : Ev (tOp (rIxL K) ta tb) σ G H IR x :=
  ev_op ha hb fun G' v w _ ⟨a, e1, h⟩ r2 G1 H1 eg v1 Q qq => ⟨a, ns.map V.int, (n : Int), .int x, e1, by rw [← e]; exact r2, sq_up (eg.trans v1) h, atI_nat (by rw [List.getElem?_map, hx]; rfl), qq _ G1 H1 (Stp.refl v1) rfl⟩
end
abbrev N__law_pool : List Str := ["_law_script", "_law_pool_here", "_law_at", "_law_cell", "_law_turn", "_law_mixed"]
abbrev P__law_pool : List Str := ["_law_script"]
theorem sc__law_pool : FnScope N__law_pool P__law_pool (defScope s__law_pool) := ⟨rfl, rfl, rfl, by decide +kernel, rfl, by decide +kernel, by decide +kernel⟩
def sp__law_pool (K : PySem.W.Frag) : Sp := fun vs H Q _ => ∃ (G : Hp) (v : V) (ns : List Int), Ex G H ∧ ScR K G v ns ∧ ns.length ≤ 63 ∧ (∀ z ∈ ns, Builtin.Int.intBits z ≤ 1048576) ∧ vs = [v] ∧ ∀ pl G' H', Stp G H G' H' → Pl G' H' pl → Q (.ref pl) H'
theorem len__law_pool {K : PySem.W.Frag} {vs : List V} {H : Hp} {Q : VK} {E : XK} (h : sp__law_pool K vs H Q E) : vs.length = P__law_pool.length := by
  obtain ⟨_, _, _, _, _, _, _, rfl, _⟩ := h; rfl
theorem pw_ofBits {z : Int} {b : Nat} (h : Builtin.Int.intBits z ≤ b) : pw b z :=
  Nat.lt_of_lt_of_le (PyProof.Rows.natAbs_lt_pow_bits z) (Nat.pow_le_pow_right (by decide) h)
theorem fdiv_n (z j : Int) (h : 0 ≤ j) : z.fdiv j = z / j := Int.fdiv_eq_ediv_of_nonneg _ h
def PoI (G H : Hp) (v : V) (a : Addr) (i : Nat) (σ : L2.St) (G' H' : Hp) : Prop := Stp G H G' H' ∧ H a = none ∧ ∃ xs : List Int, OL IR G' H' a xs ∧ xs.length ≤ i * 50 ∧ ∃ c2 c3 c4 c5, σ = [some v, some (.ref a), c2, c3, c4, c5]
theorem ok__law_pool {P : Program} {w : World} {K : PySem.W.Frag} {mg : Str → Option Value} {base : Heap} {k : Nat} (T : Tx K mg)  : Ok P w K mg base (k + 1) "_law_pool" P__law_pool (sp__law_pool K) := by
  refine ok_of T.d__law_pool sc__law_pool (fun _ _ _ _ _ _ us hl => match us, hl with | [_], _ => rfl) (fun vs H Q E h => ?_) (fun f cdv A outer s H vs Q E hr h => ?_)
  · exact len__law_pool h
  · refine ⟨_, (pss_cons (ps_set (i := 1) sc__law_pool.nd rfl (by first | exact Or.inl rfl | exact Or.inr rfl) (pe_lst pa_nil))
      (pss_cons (ps_for PassesOwn.never rfl (pi_range1 (by rfl) T.f_range (pa_cons (pe_callB (call_min2 rfl) (by rfl) T.f_min (by decide +kernel) (pa_cons pe_int (pa_cons (pe_callB call_len_seq (by rfl) T.f_len PySem.boot_len (pa_cons (pv 0) pa_nil)) pa_nil))) pa_nil)) (pg_name (i := 2) sc__law_pool.nd rfl (by first | exact Or.inl rfl | exact Or.inr rfl)) (pss_cons (ps_set (i := 3) sc__law_pool.nd rfl (by first | exact Or.inl rfl | exact Or.inr rfl) (pe_callTy call_int1 (by rfl) T.f_int (by decide +kernel) (pa_cons (pe_ix ix_list (pv 0) (pv 2) (fun _ _ => rfl)) pa_nil)))
      (pss_cons (ps_if (pt_cmpR op_lt (pv 3) pe_int (nomark _)) (pss_one (ps_set (i := 3) sc__law_pool.nd rfl (by first | exact Or.inl rfl | exact Or.inr rfl) (pe_op op_sub pe_int (pe_op op_mulX pe_int (pv 3))))) pss_nil)
      (pss_one (ps_if (pt_cmpR op_ge (pv 3) (pe_op op_pow pe_int pe_int) (nomark _)) (pss_one (ps_for PassesOwn.never rfl (pi_range1 (by rfl) T.f_range (pa_cons pe_int pa_nil)) (pg_name (i := 4) sc__law_pool.nd rfl (by first | exact Or.inl rfl | exact Or.inr rfl)) (pss_one (ps_if (pt_cmpR op_gt (pv 3) pe_int (nomark _)) (pss_cons (ps_expr (pe_bm PySem.F.plainAttrs_list PySem.F.slot_list_append PySem.F.type_list_append mt_append (pv 1) (pa_cons (pe_op op_mod (pe_callTy call_int1 (by rfl) T.f_int (by decide +kernel) (pa_cons (pv 3) pa_nil)) pe_int) pa_nil)))
      (pss_one (ps_set (i := 3) sc__law_pool.nd rfl (by first | exact Or.inl rfl | exact Or.inr rfl) (pe_op op_fdivY (pv 3) pe_int)))) pss_nil)))) (pss_cons (ps_set (i := 5) sc__law_pool.nd rfl (by first | exact Or.inl rfl | exact Or.inr rfl) (pe_op op_mod (pe_callTy call_int1 (by rfl) T.f_int (by decide +kernel) (pa_cons (pe_op op_add (pe_op op_add (pe_op op_mulX (pv 3) pe_int) (pe_op op_mulX (pv 2) pe_int)) pe_int) pa_nil)) pe_int))
      (pss_one (ps_for PassesOwn.never rfl (pi_range1 (by rfl) T.f_range (pa_cons pe_int pa_nil)) (pg_name (i := 4) sc__law_pool.nd rfl (by first | exact Or.inl rfl | exact Or.inr rfl)) (pss_cons (ps_set (i := 5) sc__law_pool.nd rfl (by first | exact Or.inl rfl | exact Or.inr rfl) (pe_op op_mod (pe_callTy call_int1 (by rfl) T.f_int (by decide +kernel) (pa_cons (pe_op op_add (pe_op op_add (pe_op op_mulX (pv 5) (pv 5)) (pe_op op_mulX (pe_op op_add (pv 4) pe_int) pe_int)) (pv 3)) pa_nil)) pe_int))
      (pss_cons (ps_set (i := 5) sc__law_pool.nd rfl (by first | exact Or.inl rfl | exact Or.inr rfl) (pe_op op_mod (pe_callTy call_int1 (by rfl) T.f_int (by decide +kernel) (pa_cons (pe_op op_add (pe_op op_add (pe_op op_mulX (pv 5) pe_int) (pv 2)) (pv 4)) pa_nil)) pe_int))
      (pss_one (ps_expr (pe_bm PySem.F.plainAttrs_list PySem.F.slot_list_append PySem.F.type_list_append mt_append (pv 1) (pa_cons (pe_op op_fdivY (pv 5) pe_int) pa_nil))))))))))))))
      (pss_cons (ps_expr (pe_bm0 PySem.F.plainAttrs_list PySem.F.slot_list_reverse PySem.F.type_list_reverse mt_reverse (pv 1)))
      (pss_one (ps_ret (pv 1)))))), ?_⟩
    obtain ⟨G, v, ns, e, hv, hl, hz, rfl, q⟩ := h
    refine s_new e fun a ha ga => ?_
    have S1 := (Stp.refl e).own (o := .lst []) ha
    have hv1 := Mono.up S1.g hv
    refine s_for (I := PoI G H v a) (ei_range1 (m := (ns.length : Int)) (ea_consI (Ev.eq (ev_min2 ev_int (ev_lenS (ns := ns) (ev_var rfl hv1))) (by omega)) ea_nil) (by omega) (by omega)) S1.v ?_ ?_ ?_
    · exact fun G2 H2 s2 => ⟨S1.trans s2, ha, [], OL.step (OL.new ga) s2, by decide, _, _, _, _, rfl⟩
    · rintro i x σ Gp Hq G' H' G1' hi e1 e2 ⟨P1, _, xs, O1, l1, c2, c3, c4, c5, rfl⟩ s2 rfl
      rw [Int.toNat_natCast] at hi
      have P2 := P1.trans s2
      have O2 := O1.step s2
      obtain ⟨z, ez⟩ : ∃ z, ns[i]? = some z := ⟨_, List.getElem?_eq_getElem hi⟩
      have bz := pw_ofBits (hz z (List.mem_of_getElem? ez))
      refine s_set (R := IR) (x := z) (ev_int1 (ev_ixS1 (n := i) (ns := ns) (ev_var rfl (Mono.up P2.g hv)) (ev_varI rfl) rfl ez)) s2.v fun y G3 H3 s3 r3 => ?_
      obtain rfl := r3
      have P3 := P2.trans s3
      have O3 := O2.step s3
      have e3 := e2.trans (s2.g.trans s3.g)
      refine s_ifj (fun σ Hc => ∃ Gc z, Stp G H Gc Hc ∧ Ex G1' Gc ∧ OL IR Gc Hc a xs ∧ 0 ≤ z ∧ pw 1048580 z ∧ ∃ c4 c5, σ = [some v, some (.ref a), some (.int (i : Int)), some (.int z), c4, c5]) (et_test (ev_B0 (f := fun i j => decide (i < j)) (ev_varI rfl) ev_int)) s3.v (fun KK G4 H4 s4 hb => ?_) (fun G4 H4 s4 hb => ?_) ?_
      · refine s_set1 (R := IR) (x := 1 - 2 * z) (ev_I0 (f := fun i j => i - j) ev_int (ev_I (f := fun i j => i * j) ev_int (ev_varI rfl) (mulx (a := 5) (b := 1048576) (by show Int.natAbs 2 < 2 ^ 5; decide) bz))) s4.v fun y G5 H5 s5 r5 => ?_
        obtain rfl := r5
        have hn := of_decide_eq_true hb
        refine KK _ _ ⟨G5, 1 - 2 * z, P3.trans (s4.trans s5), e3.trans (s4.g.trans s5.g), (O3.step s4).step s5, by omega, ?_, _, _, rfl⟩
        have : (2 : Nat) ^ 1048580 = 16 * 2 ^ 1048576 := by rw [show 1048580 = 4 + 1048576 from rfl, Nat.pow_add]
        show (1 - 2 * z).natAbs < 2 ^ 1048580
        have bz' : z.natAbs < 2 ^ 1048576 := bz
        rw [this]
        generalize (2 : Nat) ^ 1048576 = B at bz' ⊢
        omega
      · have hn := of_decide_eq_false hb
        exact ⟨G4, z, P3.trans s4, e3.trans s4.g, O3.step s4, by omega, Nat.lt_of_lt_of_le bz (Nat.pow_le_pow_right (by decide) (by decide)), _, _, rfl⟩
      · rintro σ Hc ⟨Gc, z, Pc, ec, Oc, z0, zb, d4, d5, rfl⟩
        refine s_if (b := decide ((10 : Int) ^ (18 : Int).toNat ≤ z)) (et_test (ev_B0 (f := fun i j => decide (j ≤ i)) (ev_varI rfl) (ev_I (f := fun i j => i ^ j.toNat) ev_int ev_int ⟨by decide, by decide, by decide⟩))) Pc.v (fun G4 H4 s4 hb => ?_) (fun G4 H4 s4 hb => ?_)
        · refine s_for' (I := fun t σ G' H' => Stp G H G' H' ∧ ∃ xs' z, OL IR G' H' a xs' ∧ xs'.length ≤ i * 50 + t ∧ 0 ≤ z ∧ ∃ c4 c5, σ = [some v, some (.ref a), some (.int (i : Int)), some (.int z), c4, c5]) (ei_range1 (m := 50) (ea_consI ev_int ea_nil) (by omega) (by omega)) s4.v ?_ ?_ ?_
          · exact fun G5 H5 s5 => ⟨Pc.trans (s4.trans s5), xs, z, (Oc.step s4).step s5, l1, z0, _, _, rfl⟩
          · rintro t x σ Gq Hq' G'' H'' G1'' ht f1 f2 ⟨P6, xs', z', O6, l6, z6, g4, g5, rfl⟩ s7 rfl
            have ht : t < 50 := ht
            refine s_if (b := decide ((0 : Int) < z')) (et_test (ev_B0 (f := fun i j => decide (j < i)) (ev_varI rfl) ev_int)) s7.v (fun G8 H8 s8 hb => ?_) (fun G8 H8 s8 hb => ?_)
            · have P8 := P6.trans (s7.trans s8)
              refine s_appendO (R := IR) (y := z' % 30) rfl ((O6.step s7).step s8) (by omega) (ev_I (f := fun i j => i % j) (ev_int1 (ev_varI rfl)) ev_int (by decide)) s8.v fun G9 H9 o s9 g9 O9 => ?_
              have P9 := (P8.trans s9).mut (o := o) ha g9
              refine s_set1 (R := IR) (x := z'.fdiv 30) (ev_I (f := fun i j => i.fdiv j) (ev_varI rfl) ev_int (fdivy (b := 5) (by decide) (by show Int.natAbs 30 < 2 ^ 5; decide))) P9.v fun y G10 H10 s10 r10 => ?_
              obtain rfl := r10
              refine ⟨G10, f2.trans (s7.g.trans (s8.g.trans (s9.g.trans s10.g))), s10.v, P9.trans s10, _, _, O9.step s10, by rw [List.length_append]; show _ + 1 ≤ _; omega, by rw [fdiv_n _ _ (by decide)]; omega, _, _, rfl⟩
            · exact ⟨G8, f2.trans (s7.g.trans s8.g), s8.v, P6.trans (s7.trans s8), _, _, (O6.step s7).step s8, by omega, z6, _, _, rfl⟩
          · rintro σ G5 H5 f1 f2 ⟨P6, xs', z', O6, l6, z6, g4, g5, rfl⟩
            exact ⟨G5, ec.trans (s4.g.trans f1), f2, P6, ha, xs', O6, by rw [Nat.succ_mul]; exact l6, _, _, _, _, rfl⟩
        · have zs := of_decide_eq_false hb
          have zs : z < 10 ^ 18 := by
            have : (10 : Int) ^ (18 : Int).toNat = 10 ^ 18 := rfl
            omega
          have i63 : i < 63 := by omega
          refine s_set (R := IR) (x := (z * 39373 + (i : Int) * 10007 + 17) % 1000003) (ev_I (f := fun i j => i % j) (ev_int1 (ev_I0 (f := fun i j => i + j) (ev_I0 (f := fun i j => i + j) (ev_I (f := fun i j => i * j) (ev_varI rfl) ev_int (mulx (a := 70) (b := 20) (by show Int.natAbs _ < 2 ^ 70; omega) (by show Int.natAbs 39373 < 2 ^ 20; decide))) (ev_I (f := fun i j => i * j) (ev_varI rfl) ev_int (mulx (a := 70) (b := 20) (by show Int.natAbs _ < 2 ^ 70; omega) (by show Int.natAbs 10007 < 2 ^ 20; decide)))) ev_int)) ev_int (by decide)) s4.v fun y G5 H5 s5 r5 => ?_
          obtain rfl := r5
          refine s_for' (I := fun t σ G' H' => Stp G H G' H' ∧ ∃ xs' m, OL IR G' H' a xs' ∧ xs'.length ≤ i * 50 + t ∧ 0 ≤ m ∧ m < 1000037 ∧ ∃ c4, σ = [some v, some (.ref a), some (.int (i : Int)), some (.int z), c4, some (.int m)]) (ei_range1 (m := 6) (ea_consI ev_int ea_nil) (by omega) (by omega)) s5.v ?_ ?_ ?_
          · exact fun G6 H6 s6 => ⟨Pc.trans (s4.trans (s5.trans s6)), xs, _, ((Oc.step s4).step s5).step s6, l1, by omega, by omega, _, rfl⟩
          · rintro t x σ Gq Hq' G'' H'' G1'' ht f1 f2 ⟨P6, xs', m, O6, l6, m0, m1, g4, rfl⟩ s7 rfl
            have ht : t < 6 := ht
            refine s_set (R := IR) (x := (m * m + ((t : Int) + 3) * 7919 + z) % 1000033) (ev_I (f := fun i j => i % j) (ev_int1 (ev_I0 (f := fun i j => i + j) (ev_I0 (f := fun i j => i + j) (ev_I (f := fun i j => i * j) (ev_varI rfl) (ev_varI rfl) (mulx (a := 70) (b := 70) (by show Int.natAbs _ < 2 ^ 70; omega) (by show Int.natAbs _ < 2 ^ 70; omega))) (ev_I (f := fun i j => i * j) (ev_I0 (f := fun i j => i + j) (ev_varI rfl) ev_int) ev_int (mulx (a := 70) (b := 20) (by show Int.natAbs _ < 2 ^ 70; omega) (by show Int.natAbs 7919 < 2 ^ 20; decide)))) (ev_varI rfl))) ev_int (by decide)) s7.v fun y G8 H8 s8 r8 => ?_
            obtain rfl := r8
            obtain ⟨m2, hm2⟩ : ∃ m2, m2 = (m * m + ((t : Int) + 3) * 7919 + z) % 1000033 := ⟨_, rfl⟩
            have m20 : 0 ≤ m2 := by rw [hm2]; exact Int.emod_nonneg _ (by decide)
            have m21 : m2 < 1000033 := by rw [hm2]; exact Int.emod_lt_of_pos _ (by decide)
            rw [← hm2]
            refine s_set (R := IR) (x := (m2 * 40014 + (i : Int) + (t : Int)) % 1000037) (ev_I (f := fun i j => i % j) (ev_int1 (ev_I0 (f := fun i j => i + j) (ev_I0 (f := fun i j => i + j) (ev_I (f := fun i j => i * j) (ev_varI rfl) ev_int (mulx (a := 70) (b := 20) (by show Int.natAbs _ < 2 ^ 70; omega) (by show Int.natAbs 40014 < 2 ^ 20; decide))) (ev_varI rfl)) (ev_varI rfl))) ev_int (by decide)) s8.v fun y G9 H9 s9 r9 => ?_
            obtain rfl := r9
            have S9 := s7.trans (s8.trans s9)
            have P9 := P6.trans S9
            refine s_appendO1 (R := IR) (y := ((m2 * 40014 + (i : Int) + (t : Int)) % 1000037).fdiv 5) rfl (O6.step S9) (by omega) (ev_I (f := fun i j => i.fdiv j) (ev_varI rfl) ev_int (fdivy (b := 5) (by decide) (by show Int.natAbs 5 < 2 ^ 5; decide))) s9.v fun G10 H10 o s10 g10 O10 => ?_
            refine ⟨G10, f2.trans (S9.g.trans s10.g), s10.v.mut g10, (P9.trans s10).mut ha g10, _, _, O10, by rw [List.length_append]; show _ + 1 ≤ _; omega, Int.emod_nonneg _ (by decide), Int.emod_lt_of_pos _ (by decide), _, rfl⟩
          · rintro σ G6 H6 f1 f2 ⟨P6, xs', m, O6, l6, m0, m1, g4, rfl⟩
            have l6 : xs'.length ≤ i * 50 + 6 := l6
            exact ⟨G6, ec.trans (s4.g.trans (s5.g.trans f1)), f2, P6, ha, xs', O6, by rw [Nat.succ_mul]; omega, _, _, _, _, rfl⟩
    · rintro σ Gp Hq e1 e2 ⟨P1, _, xs, O1, l1, c2, c3, c4, c5, rfl⟩
      rw [Int.toNat_natCast] at l1
      obtain ⟨ga1, us, hus, pu⟩ := O1
      refine ⟨_, rfl, .inl ⟨rfl, _, SqL.of hus⟩, a, us, rfl, rfl, hus, ?_⟩
      have P2 := P1.mut (o := .lst us.reverse) ha ga1
      refine s_ret (R := VR) (x := .ref a) (ev_var rfl rfl) P2.v fun y G3 H3 s3 r3 => ?_
      obtain rfl := r3
      refine q a G3 H3 (P2.trans s3) ⟨s3.n _ _ upd_same ga1, xs.reverse, ?_, ?_⟩
      · have := s3.h _ _ (upd_same : upd Hq a (.lst us.reverse) a = _)
        rw [this, paired_ints pu, List.map_reverse]
      · rw [List.length_reverse]
        omega

end Cy
namespace Cy
open PySem PySem.Spec PyProof.Rows L2 He
local macro_rules | `(tactic| tm_at "ex") => `(tactic| first
  | exact Ex.refl _ | assumption | exact Stp.g (by assumption) | exact Stp.v (by assumption)
  | (refine Ex.trans (Stp.g (by assumption)) ?_; tm_at "ex")
  | (refine Ex.trans (by assumption) ?_; tm_at "ex"))
local macro_rules | `(tactic| tm_at "rl") => `(tactic| first
  | exact rfl | assumption | (apply Mono.up; rotate_left; assumption; tm_at "ex"))
local macro_rules | `(tactic| tm_at "sc") => `(tactic| first | assumption | omega)
local macro_rules | `(tactic| tm_at "ev") => `(tactic| first
  | exact ev_int | exact ev_bl | assumption
  | (apply ev_varI; exact rfl)
  | (apply ev_var; exact rfl; tm_at "rl")
  | (apply ev_I0; tm_at "ev"; tm_at "ev")
  | (apply ev_B0; tm_at "ev"; tm_at "ev")
  | (apply ev_I; tm_at "ev"; tm_at "ev"; tm_at "sc")
  | (apply ev_un; tm_at "ev")
  | (apply ev_eqI; tm_at "ev"; tm_at "ev")
  | (apply ev_neI; tm_at "ev"; tm_at "ev")
  | (apply ev_fstI; tm_at "ev")
  | (apply ev_sndI; tm_at "ev")
  | (apply ev_max2; tm_at "ev"; tm_at "ev")
  | (apply ev_min2; tm_at "ev"; tm_at "ev")
  | (apply ev_abs; tm_at "ev")
  | (apply ev_int1; tm_at "ev")
  | (apply ev_bits; tm_at "ev")
  | (apply ev_gcd; tm_at "ev"; tm_at "ev")
  | (apply ev_len; tm_at "ev")
  | (apply ev_tup2; tm_at "ev"; tm_at "ev"))
local macro_rules | `(tactic| tm_at "ea") => `(tactic| first
  | exact ea_nil
  | (apply ea_consI; tm_at "ev"; tm_at "ea")
  | (apply ea_cons; tm_at "ev"; tm_at "ea"))
local macro_rules | `(tactic| tm_at "et") => `(tactic| first
  | (apply et_test; tm_at "ev")
  | (apply et_B; tm_at "ev")
  | (apply et_not; tm_at "et"))

open Cr
/-! law's looks at the calls, the lots, the line -/
abbrev N__law_called : List Str := ["_law_size_here", "_law_calls_here", "_law_found", "_law_i", "_law_j"]
abbrev P__law_called : List Str := ["_law_size_here", "_law_calls_here"]
theorem sc__law_called : FnScope N__law_called P__law_called (defScope s__law_called) := ⟨rfl, rfl, rfl, by decide +kernel, rfl, by decide +kernel, by decide +kernel⟩
def sp__law_called (K : PySem.W.Frag) : Sp := Pu (fun (x : Nat × Mx) vs G => (x.1 ≤ 4 ∧ Sqm x.1 x.2) ∧ AC IR (x.1 : Int) (AC MxL x.2 A0) vs G) (fun x G u => Ls FR G u (tiesP x.1 x.2 x.1))
theorem len__law_called {K : PySem.W.Frag} {vs : List V} {H : Hp} {Q : VK} {E : XK} (h : sp__law_called K vs H Q E) : vs.length = P__law_called.length := by
  obtain ⟨G, x, e, ⟨_, a⟩, _⟩ := h
  obtain ⟨_, _, rfl, _⟩ := ac2 a; rfl
theorem ok__law_called {P : Program} {w : World} {K : PySem.W.Frag} {mg : Str → Option Value} {base : Heap} {k : Nat} (T : Tx K mg)  : Ok P w K mg base (k + 1) "_law_called" P__law_called (sp__law_called K) := by
  refine ok_of T.d__law_called sc__law_called (fun _ _ _ _ _ _ us hl => match us, hl with | [_, _], _ => rfl) (fun vs H Q E h => ?_) (fun f cdv A outer s H vs Q E hr h => ?_)
  · exact len__law_called h
  · refine ⟨_, (pss_cons (ps_set (i := 2) sc__law_called.nd rfl (by first | exact Or.inl rfl | exact Or.inr rfl) (pe_lst pa_nil))
      (pss_cons (ps_for PassesOwn.never rfl (pi_range1 (by rfl) T.f_range (pa_cons (pv 0) pa_nil)) (pg_name (i := 3) sc__law_called.nd rfl (by first | exact Or.inl rfl | exact Or.inr rfl)) (pss_one (ps_set (i := 2) sc__law_called.nd rfl (by first | exact Or.inl rfl | exact Or.inr rfl) (pe_op op_cat (pv 2) (pe_lc (own := [("_law_j", 4)]) (g := (gName 4)) (tt := (tTest (tOp qGt (tOp (rIxL K) (tOp (rIxL K) (tVar 1) (tVar 3)) (tVar 4)) (tC (.int 0))))) (te := (tTup (tCons (tVar 3) (tCons (tVar 4) tNil)))) (by rfl) sc__law_called.nd (pi_range1 (by rfl) T.f_range (pa_cons (pv 0) pa_nil)) (blkOk_by (by kernel_rfl)) (fun _ _ _ _ _ => (pg_name (i := 4) sc__law_called.nd rfl (by first | exact Or.inl rfl | exact Or.inr rfl))) (fun _ _ _ _ _ => (pts_one (pt_cmpR op_gt (pe_ix ix_list (pe_ix ix_list (pv 1) (pv 3) (fun _ _ => rfl)) (pv 4) (fun _ _ => rfl)) pe_int (nomark _)))) (fun _ _ _ _ _ => (pe_tup (pa_cons (pv 3) (pa_cons (pv 4) pa_nil)))))))))
      (pss_one (ps_ret (pv 2))))), ?_⟩
    obtain ⟨G, ⟨n, C⟩, e, ⟨⟨n4, tS⟩, hv⟩, q⟩ := h
    dsimp only at n4 tS hv q
    obtain ⟨u, cv, rfl, rfl, hc⟩ := ac2 hv
    refine s_set (R := Ls FR) (x := []) (ev_lst .nil (by show 0 ≤ 100000; decide)) e fun f0 G1 H1 s1 r1 => ?_
    refine s_for (I := fun i σ G' H' => Stp G H G' H' ∧ ∃ tv c3, Ls FR G' tv (tiesP n C i) ∧ σ = [some (.int (n : Int)), some cv, some tv, c3, none]) (ei_range1 (m := (n : Int)) (ea_consI (ev_varI rfl) ea_nil) (by omega) (by omega)) s1.v ?_ ?_ ?_
    · exact fun G2 H2 s2 => ⟨s1.trans s2, f0, none, Mono.up s2.g r1, rfl⟩
    · rintro i x σ Gp Hq G' H' G1' hi e1 e2 ⟨S6, tv, c3, r6, rfl⟩ s7 rfl
      rw [Int.toNat_natCast] at hi
      have S7 := S6.trans s7
      have r7 := Mono.up s7.g r6
      have t7 := Mono.up S7.g hc
      obtain ⟨r, er, hl, hr⟩ := tS.row hi
      refine s_set1 (R := Ls FR) (x := tiesP n C (i + 1)) (Ev.eq (ev_cat (ev_var rfl r7) (ev_lc1 (S := FR) (W := fun j _ v => v = .int (j : Int)) (n := n) (f := fun j => if 0 < at2 C i j then some ((i : Int), (j : Int)) else none) (ei_range1 (m := (n : Int)) (by tm_at "ea") (by omega) (by omega)) (by omega) (fun j v G8 H8 hj s8 ev => ?_) (fun j v y G8 H8 hj s8 ev hy => ?_)) ?_) ?_) s7.v fun tv' G8 H8 s8 r8 => ?_
      · obtain rfl := ev
        refine EvT.eq (et_test (ev_B0 (f := fun i j => decide (j < i)) (i := at2 C i j) (j := 0) (ev_ixL (R := IR) (n := j) (xs := r) (ev_ixL (R := Ls IR) (n := i) (xs := C) (ev_var rfl (Mono.up s8.g t7)) (ev_varI rfl) rfl er) (ev_varI rfl) rfl (hr j hj)) ev_int)) ?_
        by_cases z : 0 < at2 C i j
        · rw [if_pos z, decide_eq_true z]; rfl
        · rw [if_neg z, decide_eq_false z]; rfl
      · obtain rfl := ev
        by_cases z : 0 < at2 C i j
        · rw [if_pos z] at hy; cases hy
          exact ev_tup2 (ev_varI rfl) (ev_varI rfl)
        · rw [if_neg z] at hy; cases hy
      · have a1 := tiesP_len n C n4 i
        have a2 : ((List.range n).filterMap fun j => if 0 < at2 C i j then some ((i : Int), (j : Int)) else none).length ≤ 4 := Nat.le_trans (List.length_filterMap_le _ _) (by rw [List.length_range]; exact n4)
        omega
      · unfold tiesP
        rw [List.range_succ, List.flatMap_append, List.flatMap_singleton]
      · exact ⟨G8, e2.trans (s7.g.trans s8.g), s8.v, S7.trans s8, tv', _, r8, rfl⟩
    · rintro σ Gp Hq e1 e2 ⟨S6, tv, c3, r6, rfl⟩
      rw [Int.toNat_natCast] at r6
      exact s_ret (R := Ls FR) (x := tiesP n C n) (ev_var rfl r6) S6.v fun u G11 H11 s11 r11 => q u G11 H11 (S6.trans s11) r11
/-- the lots of m places, in their order -/
def lotsP : Nat → List (List Nat)
  | 0 => [[]]
  | m + 1 => lotsP m ++ (lotsP m).map fun l => l ++ [m]
theorem lotsP_len : ∀ m, (lotsP m).length = 2 ^ m
  | 0 => rfl
  | m + 1 => by
    show (lotsP m ++ (lotsP m).map fun l => l ++ [m]).length = _
    rw [List.length_append, List.length_map, lotsP_len m, Nat.pow_succ]; omega
theorem lotsP_sub : ∀ m l, l ∈ lotsP m → l.length ≤ m ∧ l.Nodup ∧ ∀ p ∈ l, p < m
  | 0, l, h => by
    obtain rfl : l = [] := List.mem_singleton.mp h
    exact ⟨Nat.le_refl _, List.nodup_nil, fun p hp => by cases hp⟩
  | m + 1, l, h => by
    rcases (List.mem_append.mp h) with h | h
    · obtain ⟨a, b, c⟩ := lotsP_sub m l h
      exact ⟨by omega, b, fun p hp => by have := c p hp; omega⟩
    · obtain ⟨l', h', rfl⟩ := List.mem_map.mp h
      obtain ⟨a, b, c⟩ := lotsP_sub m l' h'
      refine ⟨by rw [List.length_append]; show l'.length + 1 ≤ m + 1; omega, ?_, fun p hp => ?_⟩
      · rw [List.nodup_append]
        refine ⟨b, List.nodup_cons.mpr ⟨fun z => (by cases z), List.nodup_nil⟩, fun x hx y hy => ?_⟩
        obtain rfl := List.mem_singleton.mp hy
        have := c x hx
        omega
      · rcases (List.mem_append.mp hp) with hp | hp
        · have := c p hp; omega
        · obtain rfl := List.mem_singleton.mp hp; omega
theorem lotsP_msk : ∀ m S l, (lotsP m)[S]? = some l → msk l = S
  | 0, S, l, h => by
    match S, h with
    | 0, h => cases h; rfl
    | S + 1, h => cases h
  | m + 1, S, l, h => by
    have h : (lotsP m ++ (lotsP m).map fun l => l ++ [m])[S]? = some l := h
    by_cases z : S < (lotsP m).length
    · rw [List.getElem?_append_left z] at h
      exact lotsP_msk m S l h
    · rw [List.getElem?_append_right (by omega), List.getElem?_map] at h
      obtain ⟨l', h', rfl⟩ := Option.map_eq_some_iff.mp h
      have e := lotsP_msk m _ l' h'
      have hb := (List.getElem?_eq_some_iff.mp h').1
      rw [lotsP_len] at *
      rw [msk_app, e]
      have := Nat.two_pow_add_eq_or_of_lt (b := S - 2 ^ m) hb 1
      rw [Nat.mul_one] at this
      rw [Nat.or_comm]
      omega
abbrev N__law_lots : List Str := ["_law_size_here", "_law_lots_here", "_law_place", "_law_lot"]
abbrev P__law_lots : List Str := ["_law_size_here"]
theorem sc__law_lots : FnScope N__law_lots P__law_lots (defScope s__law_lots) := ⟨rfl, rfl, rfl, by decide +kernel, rfl, by decide +kernel, by decide +kernel⟩
def sp__law_lots (K : PySem.W.Frag) : Sp := Pu (fun (x : Nat) vs G => (x ≤ 4) ∧ AC IR (x : Int) A0 vs G) (fun x G u => Ls (Ls NR) G u (lotsP x))
theorem len__law_lots {K : PySem.W.Frag} {vs : List V} {H : Hp} {Q : VK} {E : XK} (h : sp__law_lots K vs H Q E) : vs.length = P__law_lots.length := by
  obtain ⟨G, x, e, ⟨_, a⟩, _⟩ := h
  obtain ⟨_, rfl, _⟩ := ac1 a; rfl
theorem ok__law_lots {P : Program} {w : World} {K : PySem.W.Frag} {mg : Str → Option Value} {base : Heap} {k : Nat} (T : Tx K mg)  : Ok P w K mg base (k + 1) "_law_lots" P__law_lots (sp__law_lots K) := by
  refine ok_of T.d__law_lots sc__law_lots (fun _ _ _ _ _ _ us hl => match us, hl with | [_], _ => rfl) (fun vs H Q E h => ?_) (fun f cdv A outer s H vs Q E hr h => ?_)
  · exact len__law_lots h
  · refine ⟨_, (pss_cons (ps_set (i := 1) sc__law_lots.nd rfl (by first | exact Or.inl rfl | exact Or.inr rfl) (pe_lst (pa_cons (pe_lst pa_nil) pa_nil)))
      (pss_cons (ps_for PassesOwn.never rfl (pi_range1 (by rfl) T.f_range (pa_cons (pv 0) pa_nil)) (pg_name (i := 2) sc__law_lots.nd rfl (by first | exact Or.inl rfl | exact Or.inr rfl)) (pss_one (ps_set (i := 1) sc__law_lots.nd rfl (by first | exact Or.inl rfl | exact Or.inr rfl) (pe_op op_cat (pv 1) (pe_lc (own := [("_law_lot", 3)]) (g := (gName 3)) (tt := tYes) (te := (tOp rCat (tVar 3) (tLst (tCons (tVar 2) tNil)))) (by rfl) sc__law_lots.nd (pi_list (pv 1)) (blkOk_by (by kernel_rfl)) (fun _ _ _ _ _ => (pg_name (i := 3) sc__law_lots.nd rfl (by first | exact Or.inl rfl | exact Or.inr rfl))) (fun _ _ _ _ _ => pts_nil) (fun _ _ _ _ _ => (pe_op op_cat (pv 3) (pe_lst (pa_cons (pv 2) pa_nil)))))))))
      (pss_one (ps_ret (pv 1))))), ?_⟩
    obtain ⟨G, n, e, ⟨n4, hv⟩, q⟩ := h
    obtain ⟨u, rfl, rfl⟩ := ac1 hv
    refine s_set (R := Ls (Ls NR)) (x := [[]]) (ev_lst (.cons (ev_lst (R := NR) (xs := []) .nil (by show 0 ≤ 100000; decide)) .nil) (by show 1 ≤ 100000; decide)) e fun f0 G1 H1 s1 r1 => ?_
    refine s_for (I := fun i σ G' H' => Stp G H G' H' ∧ ∃ tv c3, Ls (Ls NR) G' tv (lotsP i) ∧ σ = [some (.int (n : Int)), some tv, c3, none]) (ei_range1 (m := (n : Int)) (ea_consI (ev_varI rfl) ea_nil) (by omega) (by omega)) s1.v ?_ ?_ ?_
    · exact fun G2 H2 s2 => ⟨s1.trans s2, f0, none, Mono.up s2.g r1, rfl⟩
    · rintro i x σ Gp Hq G' H' G1' hi e1 e2 ⟨S6, tv, c3, r6, rfl⟩ s7 rfl
      rw [Int.toNat_natCast] at hi
      have S7 := S6.trans s7
      have r7 := Mono.up s7.g r6
      have lz : (lotsP i).length ≤ 16 := by
        rw [lotsP_len]
        exact Nat.pow_le_pow_right (n := 2) (by decide) (show i ≤ 4 by omega)
      refine s_set1 (R := Ls (Ls NR)) (x := lotsP (i + 1)) (ev_cat (ev_var rfl r7) (ev_lcL (R := Ls NR) (S := Ls NR) (f := fun l => l ++ [i]) (ei_list (R := Ls NR) (xs := lotsP i) (ev_var rfl r7)) (by omega) fun j l v G8 H8 hj s8 rv => ?_) (by rw [List.length_map]; omega)) s7.v fun tv' G8 H8 s8 r8 => ?_
      · have := (lotsP_sub i l (List.mem_of_getElem? hj)).1
        exact ev_cat (ev_var rfl rv) (ev_lst (.cons (ev_var (R := NR) (x := i) rfl rfl) .nil) (by show 1 ≤ 100000; decide)) (by show l.length + 1 ≤ 100000; omega)
      · exact ⟨G8, e2.trans (s7.g.trans s8.g), s8.v, S7.trans s8, tv', _, r8, rfl⟩
    · rintro σ Gp Hq e1 e2 ⟨S6, tv, c3, r6, rfl⟩
      rw [Int.toNat_natCast] at r6
      exact s_ret (R := Ls (Ls NR)) (x := lotsP n) (ev_var rfl r6) S6.v fun u G11 H11 s11 r11 => q u G11 H11 (S6.trans s11) r11
theorem or_add : ∀ a, a < 64 → ∀ p, p < 6 → a.testBit p = false → a ||| 2 ^ p = a + 2 ^ p := by decide +kernel
abbrev N__law_number : List Str := ["_law_lot", "_law_number_here", "_law_place"]
abbrev P__law_number : List Str := ["_law_lot"]
theorem sc__law_number : FnScope N__law_number P__law_number (defScope s__law_number) := ⟨rfl, rfl, rfl, by decide +kernel, rfl, by decide +kernel, by decide +kernel⟩
def sp__law_number (K : PySem.W.Frag) : Sp := Pu (fun (x : List Nat) vs G => (x.Nodup ∧ ∀ p ∈ x, p < 6) ∧ AC (Ls NR) x A0 vs G) (fun x G u => IR G u (msk x : Nat))
theorem len__law_number {K : PySem.W.Frag} {vs : List V} {H : Hp} {Q : VK} {E : XK} (h : sp__law_number K vs H Q E) : vs.length = P__law_number.length := by
  obtain ⟨G, x, e, ⟨_, a⟩, _⟩ := h
  obtain ⟨_, rfl, _⟩ := ac1 a; rfl
theorem pw6 : ∀ p, p < 6 → ([1, 2, 4, 8, 16, 32] : List Int)[p]? = some ((2 ^ p : Nat) : Int) := by decide
theorem ok__law_number {P : Program} {w : World} {K : PySem.W.Frag} {mg : Str → Option Value} {base : Heap} {k : Nat} (T : Tx K mg)  : Ok P w K mg base (k + 1) "_law_number" P__law_number (sp__law_number K) := by
  refine ok_of T.d__law_number sc__law_number (fun _ _ _ _ _ _ us hl => match us, hl with | [_], _ => rfl) (fun vs H Q E h => ?_) (fun f cdv A outer s H vs Q E hr h => ?_)
  · exact len__law_number h
  · refine ⟨_, (pss_cons (ps_set (i := 1) sc__law_number.nd rfl (by first | exact Or.inl rfl | exact Or.inr rfl) pe_int)
      (pss_cons (ps_for PassesOwn.never rfl (pi_list (pv 0)) (pg_name (i := 2) sc__law_number.nd rfl (by first | exact Or.inl rfl | exact Or.inr rfl)) (pss_one (ps_set (i := 1) sc__law_number.nd rfl (by first | exact Or.inl rfl | exact Or.inr rfl) (pe_op op_add (pv 1) (pe_ix ix_list (pe_lst (pa_cons pe_int (pa_cons pe_int (pa_cons pe_int (pa_cons pe_int (pa_cons pe_int (pa_cons pe_int pa_nil))))))) (pv 2) (fun _ _ => rfl))))))
      (pss_one (ps_ret (pv 1))))), ?_⟩
    obtain ⟨G, xs, e, ⟨⟨hd, hx⟩, hv⟩, q⟩ := h
    obtain ⟨u, rfl, hu⟩ := ac1 hv
    refine s_set (R := IR) (x := 0) ev_int e fun x0 G1 H1 s1 r1 => ?_
    obtain rfl := r1
    refine s_for (I := fun i σ G' H' => Stp G H G' H' ∧ ∃ c, σ = [some u, some (.int (msk (xs.take i) : Nat)), c]) (ei_list (R := NR) (xs := xs) (ev_var rfl (Mono.up s1.g hu))) s1.v ?_ ?_ ?_
    · exact fun G2 H2 s2 => ⟨s1.trans s2, none, rfl⟩
    · rintro i v σ Gp Hq G' H' G1 hi e1 e2 ⟨S2, c, rfl⟩ s3 ⟨p, hp, rfl⟩
      have hp2 := hx p (List.mem_of_getElem? hp)
      have hb : (msk (xs.take i)).testBit p = false := by
        rw [msk_test]
        refine decide_eq_false fun z => ?_
        obtain ⟨j, hj, ej⟩ := List.mem_iff_getElem.mp z
        rw [List.length_take] at hj
        rw [List.getElem_take] at ej
        obtain ⟨h1, h2⟩ := List.getElem?_eq_some_iff.mp hp
        exact (List.pairwise_iff_getElem.mp hd) j i (by omega) h1 (by omega) (ej.trans h2.symm)
      refine s_set1 (R := IR) (x := ((msk (xs.take i) : Nat) : Int) + ((2 ^ p : Nat) : Int)) (ev_I0 (f := fun i j => i + j) (ev_varI rfl) (ev_ixL (R := IR) (n := p) (xs := [1, 2, 4, 8, 16, 32]) (ev_lst (.cons ev_int (.cons ev_int (.cons ev_int (.cons ev_int (.cons ev_int (.cons ev_int .nil)))))) (by show 6 ≤ 100000; decide)) (ev_varI rfl) rfl (pw6 p hp2))) s3.v fun v G4 H4 s4 r4 => ?_
      obtain rfl := r4
      refine ⟨G4, e2.trans (s3.g.trans s4.g), s4.v, S2.trans (s3.trans s4), ?_⟩
      rw [take_more hp, msk_app, or_add _ (msk_lt (n := 6) fun p hp => hx p (List.mem_of_mem_take hp)) p hp2 hb, Int.natCast_add]
      exact ⟨_, rfl⟩
    · rintro σ G' H' e1 e2 ⟨S2, c, rfl⟩
      rw [List.take_length]
      exact s_ret (R := IR) (ev_varI rfl) S2.v fun v G3 H3 s3 r3 => q v G3 H3 (S2.trans s3) r3
/-- the places that i takes of -/
def nearP (n : Nat) (M : Mx) (i : Nat) : List Nat := (List.range n).filterMap fun j => if 0 < at2 M i j then some j else none
def endsP (n : Nat) (M : Mx) : Nat → Nat
  | 0 => 0
  | m + 1 => endsP n M m + if (nearP n M m).length = 1 then 1 else 0
def LineP (n : Nat) (M : Mx) : Prop := (∀ i, i < n → (∀ j ∈ nearP n M i, at2 M j i ≠ 0) ∧ (nearP n M i).length ≤ 2) ∧ endsP n M n = 2
theorem nearP_lt {n : Nat} {M : Mx} {i j : Nat} (h : j ∈ nearP n M i) : j < n := by
  obtain ⟨k, hk, e⟩ := List.mem_filterMap.mp h
  split at e
  · cases e; exact List.mem_range.mp hk
  · cases e
theorem nearP_len (n : Nat) (M : Mx) (i : Nat) : (nearP n M i).length ≤ n := Nat.le_trans (List.length_filterMap_le _ _) (by rw [List.length_range]; exact Nat.le_refl _)
theorem endsP_le (n : Nat) (M : Mx) : ∀ m, endsP n M m ≤ m
  | 0 => Nat.le_refl _
  | m + 1 => by
    have := endsP_le n M m
    unfold endsP
    split <;> omega
abbrev N__law_is_line : List Str := ["_law_size_here", "_law_takes", "_law_ends", "_law_i", "_law_near", "_law_j"]
abbrev P__law_is_line : List Str := ["_law_size_here", "_law_takes"]
theorem sc__law_is_line : FnScope N__law_is_line P__law_is_line (defScope s__law_is_line) := ⟨rfl, rfl, rfl, by decide +kernel, rfl, by decide +kernel, by decide +kernel⟩
def sp__law_is_line (K : PySem.W.Frag) : Sp := Pu (fun (x : Nat × Mx) vs G => (x.1 ≤ 4 ∧ Sqm x.1 x.2) ∧ AC IR (x.1 : Int) (AC MxL x.2 A0) vs G) (fun x G u => ∃ b, BR G u b ∧ (b = true ↔ LineP x.1 x.2))
theorem len__law_is_line {K : PySem.W.Frag} {vs : List V} {H : Hp} {Q : VK} {E : XK} (h : sp__law_is_line K vs H Q E) : vs.length = P__law_is_line.length := by
  obtain ⟨G, x, e, ⟨_, a⟩, _⟩ := h
  obtain ⟨_, _, rfl, _⟩ := ac2 a; rfl
theorem ok__law_is_line {P : Program} {w : World} {K : PySem.W.Frag} {mg : Str → Option Value} {base : Heap} {k : Nat} (T : Tx K mg)  : Ok P w K mg base (k + 1) "_law_is_line" P__law_is_line (sp__law_is_line K) := by
  refine ok_of T.d__law_is_line sc__law_is_line (fun _ _ _ _ _ _ us hl => match us, hl with | [_, _], _ => rfl) (fun vs H Q E h => ?_) (fun f cdv A outer s H vs Q E hr h => ?_)
  · exact len__law_is_line h
  · refine ⟨_, (pss_cons (ps_set (i := 2) sc__law_is_line.nd rfl (by first | exact Or.inl rfl | exact Or.inr rfl) pe_int)
      (pss_cons (ps_for PassesOwn.never rfl (pi_range1 (by rfl) T.f_range (pa_cons (pv 0) pa_nil)) (pg_name (i := 3) sc__law_is_line.nd rfl (by first | exact Or.inl rfl | exact Or.inr rfl)) (pss_cons (ps_setLc (i := 4) (own := [("_law_j", 5)]) (g := (gName 5)) (tt := (tTest (tOp qGt (tOp (rIxL K) (tOp (rIxL K) (tVar 1) (tVar 3)) (tVar 5)) (tC (.int 0))))) (te := (tVar 5)) (by rfl) sc__law_is_line.nd rfl rfl (sw_true rfl rfl rfl (by kernel_rfl)) (pi_range1 (by rfl) T.f_range (pa_cons (pv 0) pa_nil)) (blkOk_by (by kernel_rfl)) (fun _ _ _ _ _ => (pg_name (i := 5) sc__law_is_line.nd rfl (by first | exact Or.inl rfl | exact Or.inr rfl))) (fun _ _ _ _ _ => (pts_one (pt_cmpR op_gt (pe_ix ix_list (pe_ix ix_list (pv 1) (pv 3) (fun _ _ => rfl)) (pv 5) (fun _ _ => rfl)) pe_int (nomark _)))) (fun _ _ _ _ _ => (pv 5)))
      (pss_cons (ps_for PassesOwn.never rfl (pi_list (pv 4)) (pg_name (i := 5) sc__law_is_line.nd rfl (by first | exact Or.inl rfl | exact Or.inr rfl)) (pss_one (ps_if (pt_cmpR op_eq (pe_ix ix_list (pe_ix ix_list (pv 1) (pv 5) (fun _ _ => rfl)) (pv 3) (fun _ _ => rfl)) pe_int (nomark _)) (pss_one (ps_ret pe_bl)) pss_nil)))
      (pss_cons (ps_if (pt_cmpR op_gt (pe_callB call_len_seq (by rfl) T.f_len PySem.boot_len (pa_cons (pv 4) pa_nil)) pe_int (nomark _)) (pss_one (ps_ret pe_bl)) pss_nil)
      (pss_one (ps_if (pt_cmpR op_eq (pe_callB call_len_seq (by rfl) T.f_len PySem.boot_len (pa_cons (pv 4) pa_nil)) pe_int (nomark _)) (pss_one (ps_set (i := 2) sc__law_is_line.nd rfl (by first | exact Or.inl rfl | exact Or.inr rfl) (pe_op op_add (pv 2) pe_int))) pss_nil))))))
      (pss_one (ps_ret (pe_cmpR op_eq (pv 2) pe_int (nomark _)))))), ?_⟩
    obtain ⟨G, ⟨n, C⟩, e, ⟨⟨n4, tS⟩, hv⟩, q⟩ := h
    dsimp only at n4 tS hv q
    obtain ⟨u, cv, rfl, rfl, hc⟩ := ac2 hv
    have qF : ∀ G' H', Stp G H G' H' → ¬ LineP n C → ∀ v G2 H2, Stp G' H' G2 H2 → BR G2 v false → _ := fun G' H' s nl v G2 H2 s2 r => q v G2 H2 (s.trans s2) ⟨false, r, by simp [nl]⟩
    refine s_set (R := IR) (x := 0) ev_int e fun f0 G1 H1 s1 r1 => ?_
    obtain rfl := r1
    refine s_for (I := fun i σ G' H' => Stp G H G' H' ∧ (∀ k, k < i → (∀ j ∈ nearP n C k, at2 C j k ≠ 0) ∧ (nearP n C k).length ≤ 2) ∧ ∃ c3 c4 c5, σ = [some (.int (n : Int)), some cv, some (.int (endsP n C i : Nat)), c3, c4, c5]) (ei_range1 (m := (n : Int)) (ea_consI (ev_varI rfl) ea_nil) (by omega) (by omega)) s1.v ?_ ?_ ?_
    · exact fun G2 H2 s2 => ⟨s1.trans s2, fun k hk => absurd hk (Nat.not_lt_zero _), _, _, _, rfl⟩
    · rintro i x σ Gp Hq G' H' G1' hi e1 e2 ⟨S6, hk, c3, c4, c5, rfl⟩ s7 rfl
      rw [Int.toNat_natCast] at hi
      have S7 := S6.trans s7
      have t7 := Mono.up S7.g hc
      obtain ⟨r, er, hl, hr⟩ := tS.row hi
      refine s_set (R := Ls NR) (x := nearP n C i) (ev_lc1 (S := NR) (W := fun j _ v => v = .int (j : Int)) (n := n) (f := fun j => if 0 < at2 C i j then some j else none) (ei_range1 (m := (n : Int)) (by tm_at "ea") (by omega) (by omega)) (by omega) (fun j v G8 H8 hj s8 ev => ?_) (fun j v y G8 H8 hj s8 ev hy => ?_)) s7.v fun nv G8 H8 s8 r8 => ?_
      · obtain rfl := ev
        refine EvT.eq (et_test (ev_B0 (f := fun i j => decide (j < i)) (i := at2 C i j) (j := 0) (ev_ixL (R := IR) (n := j) (xs := r) (ev_ixL (R := Ls IR) (n := i) (xs := C) (ev_var rfl (Mono.up s8.g t7)) (ev_varI rfl) rfl er) (ev_varI rfl) rfl (hr j hj)) ev_int)) ?_
        by_cases z : 0 < at2 C i j
        · rw [if_pos z, decide_eq_true z]; rfl
        · rw [if_neg z, decide_eq_false z]; rfl
      · obtain rfl := ev
        by_cases z : 0 < at2 C i j
        · rw [if_pos z] at hy; cases hy
          exact ev_var rfl rfl
        · rw [if_neg z] at hy; cases hy
      have S8 := S7.trans s8
      refine s_for (I := fun k σ G' H' => Stp G H G' H' ∧ (∀ t, t < k → ∀ j, (nearP n C i)[t]? = some j → at2 C j i ≠ 0) ∧ ∃ c5, σ = [some (.int (n : Int)), some cv, some (.int (endsP n C i : Nat)), some (.int (i : Int)), some nv, c5]) (ei_list (R := NR) (xs := nearP n C i) (ev_var rfl r8)) s8.v ?_ ?_ ?_
      · exact fun G9 H9 s9 => ⟨S8.trans s9, fun t ht => absurd ht (Nat.not_lt_zero _), _, rfl⟩
      · rintro k v σ Gs Hs Gt Ht Gu hk' z1 z2 ⟨S9, hz, d5, rfl⟩ s10 ⟨j, hj, rfl⟩
        have S10 := S9.trans s10
        have jn := nearP_lt (List.mem_of_getElem? hj)
        obtain ⟨r', er', hl', hr'⟩ := tS.row jn
        refine s_if (b := decide (at2 C j i = 0)) (et_test (ev_eqI (ev_ixL (R := IR) (n := i) (xs := r') (ev_ixL (R := Ls IR) (n := j) (xs := C) (ev_var rfl (Mono.up S10.g hc)) (ev_varI rfl) rfl er') (ev_varI rfl) rfl (hr' i hi)) ev_int)) s10.v (fun G11 H11 s11 hb => ?_) (fun G11 H11 s11 hb => ?_)
        · exact s_ret (R := BR) (x := false) ev_bl s11.v fun v G12 H12 s12 r12 => qF G11 H11 (S10.trans s11) (fun L => (L.1 i hi).1 j (List.mem_of_getElem? hj) (of_decide_eq_true hb)) v G12 H12 s12 r12
        · refine ⟨G11, z2.trans (s10.g.trans s11.g), s11.v, S10.trans s11, fun t ht j' hj' => ?_, _, rfl⟩
          rcases Nat.lt_succ_iff_lt_or_eq.mp ht with ht | rfl
          · exact hz t ht j' hj'
          · rw [hj] at hj'; cases hj'
            exact of_decide_eq_false hb
      · rintro σ Gs Hs z1 z2 ⟨S9, hz, d5, rfl⟩
        have r9 := Mono.up z1 r8
        have ne : ∀ j ∈ nearP n C i, at2 C j i ≠ 0 := fun j hj => by
          obtain ⟨t, ht, et⟩ := List.mem_iff_getElem.mp hj
          exact hz t ht j (by rw [List.getElem?_eq_getElem ht, et])
        refine s_ifn (b := decide ((2 : Int) < ((nearP n C i).length : Int))) (et_test (ev_B0 (f := fun i j => decide (j < i)) (ev_lenL (R := NR) (xs := nearP n C i) (ev_var rfl r9)) ev_int)) S9.v (fun G11 H11 s11 hb => ?_) (fun G11 H11 s11 hb => ?_)
        · exact s_ret (R := BR) (x := false) ev_bl s11.v fun v G12 H12 s12 r12 => qF G11 H11 (S9.trans s11) (fun L => by
            have := (L.1 i hi).2
            have := of_decide_eq_true hb
            omega) v G12 H12 s12 r12
        · have h2 := of_decide_eq_false hb
          have hk1 : ∀ k, k < i + 1 → (∀ j ∈ nearP n C k, at2 C j k ≠ 0) ∧ (nearP n C k).length ≤ 2 := fun k kl => by
            rcases Nat.lt_succ_iff_lt_or_eq.mp kl with kl | rfl
            · exact hk k kl
            · exact ⟨ne, by omega⟩
          refine s_if (b := decide (((nearP n C i).length : Int) = 1)) (et_test (ev_eqI (ev_lenL (R := NR) (xs := nearP n C i) (ev_var rfl (Mono.up s11.g r9))) ev_int)) s11.v (fun G13 H13 s13 hb => ?_) (fun G13 H13 s13 hb => ?_)
          · have e1' := of_decide_eq_true hb
            refine s_set1 (R := IR) (x := ((endsP n C i : Nat) : Int) + 1) (ev_I0 (f := fun i j => i + j) (ev_varI rfl) ev_int) s13.v fun v G14 H14 s14 r14 => ?_
            obtain rfl := r14
            refine ⟨G14, e2.trans (s7.g.trans (s8.g.trans (z1.trans (s11.g.trans (s13.g.trans s14.g))))), s14.v, S9.trans (s11.trans (s13.trans s14)), hk1, some (.int (i : Int)), some nv, d5, ?_⟩
            rw [show endsP n C (i + 1) = endsP n C i + 1 by show endsP n C i + (if _ then 1 else 0) = _; rw [if_pos (by omega)]]
            rfl
          · have e1' := of_decide_eq_false hb
            refine ⟨G13, e2.trans (s7.g.trans (s8.g.trans (z1.trans (s11.g.trans s13.g)))), s13.v, S9.trans (s11.trans s13), hk1, some (.int (i : Int)), some nv, d5, ?_⟩
            rw [show endsP n C (i + 1) = endsP n C i by show endsP n C i + (if _ then 1 else 0) = _; rw [if_neg (by omega)]; rfl]
    · rintro σ Gp Hq e1 e2 ⟨S6, hk, c3, c4, c5, rfl⟩
      rw [Int.toNat_natCast] at hk ⊢
      refine s_ret (R := BR) (x := decide (((endsP n C n : Nat) : Int) = 2)) (ev_eqI (ev_varI rfl) ev_int) S6.v fun u G11 H11 s11 r11 => q u G11 H11 (S6.trans s11) ⟨_, r11, ?_⟩
      rw [decide_eq_true_iff]
      exact ⟨fun h => ⟨hk, by omega⟩, fun h => by have := h.2; omega⟩

end Cy
namespace Cy
open PySem PySem.Spec PyProof.Rows L2 He
local macro_rules | `(tactic| tm_at "ex") => `(tactic| first
  | exact Ex.refl _ | assumption | exact Stp.g (by assumption) | exact Stp.v (by assumption)
  | (refine Ex.trans (Stp.g (by assumption)) ?_; tm_at "ex")
  | (refine Ex.trans (by assumption) ?_; tm_at "ex"))
local macro_rules | `(tactic| tm_at "rl") => `(tactic| first
  | exact rfl | assumption | (apply Mono.up; rotate_left; assumption; tm_at "ex"))
local macro_rules | `(tactic| tm_at "sc") => `(tactic| first | assumption | omega)
local macro_rules | `(tactic| tm_at "ev") => `(tactic| first
  | exact ev_int | exact ev_bl | assumption
  | (apply ev_varI; exact rfl)
  | (apply ev_var; exact rfl; tm_at "rl")
  | (apply ev_I0; tm_at "ev"; tm_at "ev")
  | (apply ev_B0; tm_at "ev"; tm_at "ev")
  | (apply ev_I; tm_at "ev"; tm_at "ev"; tm_at "sc")
  | (apply ev_un; tm_at "ev")
  | (apply ev_eqI; tm_at "ev"; tm_at "ev")
  | (apply ev_neI; tm_at "ev"; tm_at "ev")
  | (apply ev_fstI; tm_at "ev")
  | (apply ev_sndI; tm_at "ev")
  | (apply ev_max2; tm_at "ev"; tm_at "ev")
  | (apply ev_min2; tm_at "ev"; tm_at "ev")
  | (apply ev_abs; tm_at "ev")
  | (apply ev_int1; tm_at "ev")
  | (apply ev_bits; tm_at "ev")
  | (apply ev_gcd; tm_at "ev"; tm_at "ev")
  | (apply ev_len; tm_at "ev")
  | (apply ev_tup2; tm_at "ev"; tm_at "ev"))
local macro_rules | `(tactic| tm_at "ea") => `(tactic| first
  | exact ea_nil
  | (apply ea_consI; tm_at "ev"; tm_at "ea")
  | (apply ea_cons; tm_at "ev"; tm_at "ea"))
local macro_rules | `(tactic| tm_at "et") => `(tactic| first
  | (apply et_test; tm_at "ev")
  | (apply et_B; tm_at "ev")
  | (apply et_not; tm_at "et"))

open Cr
theorem inV_nv (i : Nat) : ∀ xs : List Nat, inV (.int (i : Int)) (nv xs) = decide (i ∈ xs)
  | [] => rfl
  | a :: r => by
    show (decide ((a : Int) = (i : Int)) || inV (.int (i : Int)) (nv r)) = _
    rw [inV_nv i r]
    by_cases z : a = i
    · subst z; simp
    · have : ¬ ((a : Int) = (i : Int)) := by omega
      simp [this, Ne.symm z, List.mem_cons]
theorem flat_nv : ∀ xs : List Nat, (nv xs).all flatV = true
  | [] => rfl
  | a :: r => flat_nv r
section
variable {α β : Type} {K : PySem.W.Frag} {σ : L2.St} {G H : Hp} {te ta tb : TE} {R : Rel α} {S : Rel β} {x : α} {y : β}
theorem et_inN {b : Bool} {i : Nat} {xs : List Nat} (ha : Ev ta σ G H NR i) (hb : Ev tb σ G H (Ls NR) xs) : EvT (tTest (tOp (rIn K b) ta tb)) σ G H (if b then !decide (i ∈ xs) else decide (i ∈ xs)) :=
  et_test (ev_op (U := BR) (z := if b then !decide (i ∈ xs) else decide (i ∈ xs)) ha hb fun G' v w _ r1 r2 G1 H1 eg v1 Q qq => by
    obtain rfl : v = .int (i : Int) := r1
    obtain ⟨p, us, rfl, hp, pp⟩ := r2
    obtain rfl := paired_nv pp
    refine ⟨p, nv xs, rfl, .inl (SqL.of (v1 _ _ (eg _ _ hp))), rfl, flat_nv xs, ?_⟩
    rw [inV_nv]
    exact qq _ G1 H1 (Stp.refl v1) rfl)
theorem ev_l2a [Mono R] [Mono S] {p : α × β} (ha : Ev ta σ G H (L2_ R S) p) : Ev (tOp (rIxL K) ta (tC (.int 0))) σ G H R p.1 :=
  ev_op (R := L2_ R S) (S := IR) (y := 0) ha ev_int fun G' v w _ r1 r2 G1 H1 eg v1 Q qq => by
    obtain ⟨a, u, w', rfl, h, h1, h2⟩ := r1
    obtain rfl : w = .int 0 := r2
    exact ⟨a, [u, w'], 0, u, rfl, rfl, SqL.of (v1 _ _ (eg _ _ h)), rfl, qq _ G1 H1 (Stp.refl v1) (Mono.up eg h1)⟩
theorem ev_l2b [Mono R] [Mono S] {p : α × β} (ha : Ev ta σ G H (L2_ R S) p) : Ev (tOp (rIxL K) ta (tC (.int 1))) σ G H S p.2 :=
  ev_op (R := L2_ R S) (S := IR) (y := 1) ha ev_int fun G' v w _ r1 r2 G1 H1 eg v1 Q qq => by
    obtain ⟨a, u, w', rfl, h, h1, h2⟩ := r1
    obtain rfl : w = .int 1 := r2
    exact ⟨a, [u, w'], 1, w', rfl, rfl, SqL.of (v1 _ _ (eg _ _ h)), rfl, qq _ G1 H1 (Stp.refl v1) (Mono.up eg h2)⟩
end
abbrev N__law_common : List Str := ["_law_row", "_law_whole", "_law_value"]
abbrev P__law_common : List Str := ["_law_row"]
theorem sc__law_common : FnScope N__law_common P__law_common (defScope s__law_common) := ⟨rfl, rfl, rfl, by decide +kernel, rfl, by decide +kernel, by decide +kernel⟩
def sp__law_common (K : PySem.W.Frag) : Sp := Pu (fun (x : List (Int × Int) × Int) vs G => (x.1.length ≤ 100 ∧ 0 < x.2 ∧ pw 4000 x.2 ∧ ∀ p ∈ x.1, 0 < p.2 ∧ p.2 ∣ x.2 ∧ pw 4000 p.1) ∧ AC (Tp FR) x.1 A0 vs G) (fun x G u => ∃ W : Int, 0 < W ∧ W ∣ x.2 ∧ (∀ p ∈ x.1, p.2 ∣ W) ∧ L2_ IR (Ls IR) G u (W, x.1.map fun p => p.1 * W.fdiv p.2))
theorem len__law_common {K : PySem.W.Frag} {vs : List V} {H : Hp} {Q : VK} {E : XK} (h : sp__law_common K vs H Q E) : vs.length = P__law_common.length := by
  obtain ⟨G, x, e, ⟨_, a⟩, _⟩ := h
  obtain ⟨_, rfl, _⟩ := ac1 a; rfl
theorem pw_dvd {k : Nat} {a b : Int} (h : a ∣ b) (hb : b ≠ 0) (p : pw k b) : pw k a := Nat.lt_of_le_of_lt (Nat.le_of_dvd (by omega) (Int.natAbs_dvd_natAbs.mpr h)) p
theorem lcm_step {a d B : Int} (ha : 0 < a) (hd : 0 < d) (h1 : a ∣ B) (h2 : d ∣ B) (hB : 0 < B) : let c := a.fdiv (Nat.gcd a.natAbs d.natAbs : Nat) * d; 0 < c ∧ a ∣ c ∧ d ∣ c ∧ c ∣ B := by
  obtain ⟨x, rfl⟩ := Int.eq_ofNat_of_zero_le (Int.le_of_lt ha)
  obtain ⟨y, rfl⟩ := Int.eq_ofNat_of_zero_le (Int.le_of_lt hd)
  obtain ⟨z, rfl⟩ := Int.eq_ofNat_of_zero_le (Int.le_of_lt hB)
  have e : ((x : Int).fdiv (Nat.gcd (x : Int).natAbs (y : Int).natAbs : Nat) * (y : Int)) = ((Nat.lcm x y : Nat) : Int) := by
    rw [Int.natAbs_natCast, Int.natAbs_natCast, fdiv_n _ _ (by omega), ← Int.natCast_ediv, ← Int.natCast_mul]
    congr 1
    unfold Nat.lcm
    exact Nat.div_mul_right_comm (Nat.gcd_dvd_left x y) y
  dsimp only
  rw [e]
  have x0 : 0 < x := by omega
  have y0 : 0 < y := by omega
  refine ⟨by have := Nat.lcm_pos x0 y0; omega, Int.natCast_dvd_natCast.mpr (Nat.dvd_lcm_left x y), Int.natCast_dvd_natCast.mpr (Nat.dvd_lcm_right x y), Int.natCast_dvd_natCast.mpr (Nat.lcm_dvd (Int.natCast_dvd_natCast.mp h1) (Int.natCast_dvd_natCast.mp h2))⟩
theorem ok__law_common {P : Program} {w : World} {K : PySem.W.Frag} {mg : Str → Option Value} {base : Heap} {k : Nat} (T : Tx K mg) (G__law_gcd : Ok P w K mg base k "_law_gcd" P__law_gcd (sp__law_gcd K)) : Ok P w K mg base (k + 1) "_law_common" P__law_common (sp__law_common K) := by
  obtain ⟨fd__law_gcd, G__law_gcd, B__law_gcd, K__law_gcd⟩ := G__law_gcd
  refine ok_of T.d__law_common sc__law_common (fun _ _ _ _ _ _ us hl => match us, hl with | [_], _ => rfl) (fun vs H Q E h => ?_) (fun f cdv A outer s H vs Q E hr h => ?_)
  · exact len__law_common h
  · refine ⟨_, (pss_cons (ps_set (i := 1) sc__law_common.nd rfl (by first | exact Or.inl rfl | exact Or.inr rfl) pe_int)
      (pss_cons (ps_for PassesOwn.never rfl (pi_tup (pv 0)) (pg_name (i := 2) sc__law_common.nd rfl (by first | exact Or.inl rfl | exact Or.inr rfl)) (pss_one (ps_set (i := 1) sc__law_common.nd rfl (by first | exact Or.inl rfl | exact Or.inr rfl) (pe_op op_mulX (pe_op op_fdivY (pv 1) (pe_call G__law_gcd hr (by rfl) T.g__law_gcd K__law_gcd B__law_gcd .nil pass0 (pa_cons (pv 1) (pa_cons (pe_ix ix_tup (pv 2) pe_int (fun _ _ => rfl)) pa_nil)))) (pe_ix ix_tup (pv 2) pe_int (fun _ _ => rfl))))))
      (pss_one (ps_ret (pe_lst (pa_cons (pv 1) (pa_cons (pe_lc (own := [("_law_value", 2)]) (g := (gName 2)) (tt := tYes) (te := (tOp qMul (tOp (rIxT K) (tVar 2) (tC (.int 0))) (tOp qDiv (tVar 1) (tOp (rIxT K) (tVar 2) (tC (.int 1)))))) (by rfl) sc__law_common.nd (pi_tup (pv 0)) (blkOk_by (by kernel_rfl)) (fun _ _ _ _ _ => (pg_name (i := 2) sc__law_common.nd rfl (by first | exact Or.inl rfl | exact Or.inr rfl))) (fun _ _ _ _ _ => pts_nil) (fun _ _ _ _ _ => (pe_op op_mulX (pe_ix ix_tup (pv 2) pe_int (fun _ _ => rfl)) (pe_op op_fdivY (pv 1) (pe_ix ix_tup (pv 2) pe_int (fun _ _ => rfl)))))) pa_nil))))))), ?_⟩
    obtain ⟨G, ⟨xs, B⟩, e, ⟨⟨hl, b0, bp, hx⟩, hv⟩, q⟩ := h
    dsimp only at hl b0 bp hx hv q
    obtain ⟨u, rfl, hu⟩ := ac1 hv
    refine s_set (R := IR) (x := 1) ev_int e fun x0 G1 H1 s1 r1 => ?_
    obtain rfl := r1
    refine s_for (I := fun i σ G' H' => Stp G H G' H' ∧ ∃ (W : Int) (c : Option V), 0 < W ∧ W ∣ B ∧ (∀ p ∈ xs.take i, p.2 ∣ W) ∧ σ = [some u, some (.int W), c]) (ei_tup (R := FR) (xs := xs) (ev_var rfl (Mono.up s1.g hu))) s1.v ?_ ?_ ?_
    · exact fun G2 H2 s2 => ⟨s1.trans s2, 1, none, by decide, Int.one_dvd _, fun p hp => (by rw [List.take_zero] at hp; cases hp), rfl⟩
    · rintro i v σ Gp Hq G' H' G1' hi e1 e2 ⟨S2, W, c, w0, wd, wp, rfl⟩ s3 ⟨p, hp, rp⟩
      obtain ⟨p0, pd, pp⟩ := hx p (List.mem_of_getElem? hp)
      have S3 := S2.trans s3
      have pW := pw_dvd wd (by omega) bp
      have pD := pw_dvd pd (by omega) bp
      have g0 : ((Nat.gcd W.natAbs p.2.natAbs : Nat) : Int) ≠ 0 := by
        have := Nat.gcd_pos_of_pos_left p.2.natAbs (show 0 < W.natAbs by omega)
        omega
      obtain ⟨c0, c1, c2, c3⟩ := lcm_step w0 p0 wd pd b0
      have pG : pw 4000 ((Nat.gcd W.natAbs p.2.natAbs : Nat) : Int) := pw_gcd (by omega) pD
      have pQ : pw 4000 (W.fdiv (Nat.gcd W.natAbs p.2.natAbs : Nat)) := pw_dvd (b := W) ⟨(Nat.gcd W.natAbs p.2.natAbs : Nat), by
        rw [fdiv_n _ _ (by omega), Int.ediv_mul_cancel (Int.ofNat_dvd_left.mpr (Nat.gcd_dvd_left _ _))]⟩ (by omega) pW
      refine s_set1 (R := IR) (x := W.fdiv (Nat.gcd W.natAbs p.2.natAbs : Nat) * p.2) (ev_I (f := fun i j => i * j) (ev_I (f := fun i j => i.fdiv j) (ev_varI rfl) (ev_call (W, p.2) (ea_consI (ev_varI rfl) (ea_consI (ev_sndI (p := p) (ev_var rfl rp)) ea_nil)) (fun vs G' _ h => ⟨⟨pw_mono pW, pw_mono pD⟩, h⟩) (fun _ _ h => h)) (fdivy g0 pG)) (ev_sndI (p := p) (ev_var rfl rp)) (mulx pQ pD)) s3.v fun v' G4 H4 s4 r4 => ?_
      obtain rfl := r4
      refine ⟨G4, e2.trans (s3.g.trans s4.g), s4.v, S3.trans s4, _, _, c0, c3, fun p' hp' => ?_, rfl⟩
      rw [take_more hp] at hp'
      rcases (List.mem_append.mp hp') with hp' | hp'
      · exact Int.dvd_trans (wp p' hp') c1
      · obtain rfl := List.mem_singleton.mp hp'
        exact c2
    · rintro σ G' H' e1 e2 ⟨S2, W, c, w0, wd, wp, rfl⟩
      rw [List.take_length] at wp
      have pW := pw_dvd wd (by omega) bp
      refine s_ret (R := L2_ IR (Ls IR)) (x := (W, xs.map fun p => p.1 * W.fdiv p.2)) (ev_lst2 (ev_varI rfl) (ev_lcL (R := FR) (S := IR) (f := fun p => p.1 * W.fdiv p.2) (ei_tup (R := FR) (xs := xs) (ev_var rfl (Mono.up S2.g hu))) (by omega) fun j p v G8 H8 hj s8 rp => ?_)) S2.v fun v G3 H3 s3 r3 => q v G3 H3 (S2.trans s3) ⟨W, w0, wd, wp, r3⟩
      have hm := List.mem_of_getElem? hj
      obtain ⟨p0, pd, pp⟩ := hx p hm
      have pD := pw_dvd pd (by omega) bp
      have pQ : pw 4000 (W.fdiv p.2) := pw_dvd (b := W) ⟨p.2, by rw [fdiv_n _ _ (by omega), Int.ediv_mul_cancel (wp p hm)]⟩ (by omega) pW
      exact ev_I (f := fun i j => i * j) (ev_fstI (p := p) (ev_var rfl rp)) (ev_I (f := fun i j => i.fdiv j) (ev_varI rfl) (ev_sndI (p := p) (ev_var rfl rp)) (fdivy (by omega) pD)) (mulx pp pQ)

end Cy
namespace Cy
open PySem PySem.Spec PyProof.Rows L2 He
local macro_rules | `(tactic| tm_at "ex") => `(tactic| first
  | exact Ex.refl _ | assumption | exact Stp.g (by assumption) | exact Stp.v (by assumption)
  | (refine Ex.trans (Stp.g (by assumption)) ?_; tm_at "ex")
  | (refine Ex.trans (by assumption) ?_; tm_at "ex"))
local macro_rules | `(tactic| tm_at "rl") => `(tactic| first
  | exact rfl | assumption | (apply Mono.up; rotate_left; assumption; tm_at "ex"))
local macro_rules | `(tactic| tm_at "sc") => `(tactic| first | assumption | omega)
local macro_rules | `(tactic| tm_at "ev") => `(tactic| first
  | exact ev_int | exact ev_bl | assumption
  | (apply ev_varI; exact rfl)
  | (apply ev_var; exact rfl; tm_at "rl")
  | (apply ev_I0; tm_at "ev"; tm_at "ev")
  | (apply ev_B0; tm_at "ev"; tm_at "ev")
  | (apply ev_I; tm_at "ev"; tm_at "ev"; tm_at "sc")
  | (apply ev_un; tm_at "ev")
  | (apply ev_eqI; tm_at "ev"; tm_at "ev")
  | (apply ev_neI; tm_at "ev"; tm_at "ev")
  | (apply ev_fstI; tm_at "ev")
  | (apply ev_sndI; tm_at "ev")
  | (apply ev_max2; tm_at "ev"; tm_at "ev")
  | (apply ev_min2; tm_at "ev"; tm_at "ev")
  | (apply ev_abs; tm_at "ev")
  | (apply ev_int1; tm_at "ev")
  | (apply ev_bits; tm_at "ev")
  | (apply ev_gcd; tm_at "ev"; tm_at "ev")
  | (apply ev_len; tm_at "ev")
  | (apply ev_tup2; tm_at "ev"; tm_at "ev"))
local macro_rules | `(tactic| tm_at "ea") => `(tactic| first
  | exact ea_nil
  | (apply ea_consI; tm_at "ev"; tm_at "ea")
  | (apply ea_cons; tm_at "ev"; tm_at "ea"))
local macro_rules | `(tactic| tm_at "et") => `(tactic| first
  | (apply et_test; tm_at "ev")
  | (apply et_B; tm_at "ev")
  | (apply et_not; tm_at "et"))

open Cr
theorem lw_dvd {p : Int × Int} {t b : Int} (h : Lw p t b) : p.2 ∣ b := by
  have e := h.eq
  have c : Nat.Coprime p.2.natAbs p.1.natAbs := by unfold Nat.Coprime; rw [Nat.gcd_comm]; exact h.low
  refine Int.natAbs_dvd_natAbs.mp (c.dvd_of_dvd_mul_left ⟨t.natAbs, ?_⟩)
  rw [← Int.natAbs_mul, e, Int.natAbs_mul, Nat.mul_comm]
theorem WOk.wb {w : Wd} (h : WOk w) : 0 < wB w ∧ pw 600 (wB w) := ⟨h.sv.pos, h.sv.bB⟩
theorem lotF_pw {n : Nat} {X : Nat → Int} {e : Int} {S : Nat} (he : pw 600 e) (hX : ∀ i, i < 2 ^ n - 2 → pw 600 (X i)) (hS : S < 2 ^ n) : pw 600 (lotF n X e S) := by
  unfold lotF
  split
  · show (0 : Nat) < _; exact Nat.two_pow_pos _
  · split
    · exact he
    · exact hX _ (by omega)
theorem WOk.wf {w : Wd} (h : WOk w) {S : Nat} (hS : S < 2 ^ w.n) : pw 600 (wF w S) := lotF_pw h.wb.2 (fun i hi => h.sv.bX hi) hS
theorem WOk.rf {w : Wd} (h : WOk w) {S : Nat} (hS : S < 2 ^ w.n) : pw 600 (rF w S) := lotF_pw (by show (0 : Nat) < _; exact Nat.two_pow_pos _) (fun i hi => h.rsv.bX hi) hS
theorem pow4 {n : Nat} (n4 : n ≤ 4) : 2 ^ n ≤ 16 := Nat.pow_le_pow_right (n := 2) (by decide) n4
theorem lotF_0 {n : Nat} {X : Nat → Int} {e : Int} : lotF n X e 0 = 0 := by unfold lotF; rw [if_pos rfl]
theorem lotF_1 {n : Nat} {X : Nat → Int} {e : Int} (n1 : 0 < n) : lotF n X e (2 ^ n - 1) = e := by
  have : 2 ^ 1 ≤ 2 ^ n := Nat.pow_le_pow_right (by decide) n1
  unfold lotF
  rw [if_neg (by omega), if_pos rfl]
theorem low_pw {t b : Int} (h : pw 600 t) (h' : pw 600 b) : pwF 600 (lowf t b) := ⟨Nat.lt_of_le_of_lt (lowf_bound t b).1 h, Nat.lt_of_le_of_lt (lowf_bound t b).2 h'⟩
/-- the top of a lot over the common bottom -/
def tF (w : Wd) (W : Int) (S : Nat) : Int := (lowf (wF w S) (wB w)).1 * W.fdiv (lowf (wF w S) (wB w)).2
theorem wRow_get {w : Wd} {S : Nat} (hS : S < 2 ^ w.n) : (wRow w)[S]? = some (lowf (wF w S) (wB w)) := by
  unfold wRow
  rw [List.getElem?_map, List.getElem?_range hS]; rfl
theorem wRow_len {w : Wd} : (wRow w).length = 2 ^ w.n := by unfold wRow; rw [List.length_map, List.length_range]
theorem wRow_mem {w : Wd} {p : Int × Int} (h : p ∈ wRow w) : ∃ S, S < 2 ^ w.n ∧ p = lowf (wF w S) (wB w) := by
  obtain ⟨S, hS, rfl⟩ := List.mem_map.mp h
  exact ⟨S, List.mem_range.mp hS, rfl⟩
theorem tops_of {w : Wd} (hw : WOk w) {W : Int} (w0 : 0 < W) (wd : W ∣ wB w) (wp : ∀ p ∈ wRow w, p.2 ∣ W) : ∃ m : Int, 0 < m ∧ wB w = W * m ∧ ∀ S, S < 2 ^ w.n → wF w S = tF w W S * m := by
  obtain ⟨m, em⟩ := wd
  have b0 := hw.wb.1
  have m0 : 0 < m := by
    refine Int.lt_of_not_ge fun z => ?_
    have : W * m ≤ 0 := Int.mul_nonpos_of_nonneg_of_nonpos (by omega) z
    omega
  refine ⟨m, m0, em, fun S hS => ?_⟩
  have l := lowf_lw (wF w S) (b := wB w) (by omega)
  obtain ⟨k, ek⟩ := wp _ (List.mem_of_getElem? (wRow_get hS))
  have p0 := l.pos
  have e := l.eq
  unfold tF
  generalize lowf (wF w S) (wB w) = p at *
  rw [ek, Int.mul_fdiv_cancel_left _ (by omega)]
  refine Int.eq_of_mul_eq_mul_right (a := p.2) (by omega) ?_
  rw [← e, em, ek]
  grind
/-- what the law adds for a look -/
def blF (n : Nat) (T C : Nat → Nat → Int) (F : Nat → Int) (S i j : Nat) : Int := if S.testBit j = S.testBit i then 0 else if S.testBit i = true then -(T i j * (F S - F (S ^^^ 2 ^ i))) else (T i j + C i j) * (F (S ^^^ 2 ^ i) - F S)
theorem bl_sum {n : Nat} {T C : Nat → Nat → Int} {F : Nat → Int} {S : Nat} : sm n (fun i => sm n (blF n T C F S i)) = - Lop n T C F S := by
  unfold Lop dif
  rw [← sm_neg]
  refine sm_congr fun i _ => ?_
  rw [← sm_neg]
  refine sm_congr fun j _ => ?_
  unfold blF rt
  by_cases z : S.testBit j = S.testBit i
  · rw [if_pos z, if_pos z]; rfl
  · rw [if_neg z, if_neg z]
    by_cases b : S.testBit i = true
    · dsimp only; rw [if_pos b, if_pos b]
    · dsimp only; rw [if_neg b, if_neg b]; grind
theorem xor_dn : ∀ S, S < 16 → ∀ i, i < 4 → S.testBit i = true → S ^^^ 2 ^ i = S - 2 ^ i ∧ 2 ^ i ≤ S := by decide +kernel
theorem msk_one (i : Nat) : msk [i] = 2 ^ i := by
  show 0 ||| 2 ^ i = 2 ^ i
  rw [Nat.zero_or]
abbrev N__law_win_fits : List Str := ["_law_size_here", "_law_takes", "_law_calls_here", "_law_row", "_law_drawn", "_law_tops", "_law_lots_here", "_law_number_here", "_law_lot", "_law_balance", "_law_i", "_law_j", "_law_rise", "_law_fall"]
abbrev P__law_win_fits : List Str := ["_law_size_here", "_law_takes", "_law_calls_here", "_law_row"]
theorem sc__law_win_fits : FnScope N__law_win_fits P__law_win_fits (defScope s__law_win_fits) := ⟨rfl, rfl, rfl, by decide +kernel, rfl, by decide +kernel, by decide +kernel⟩
def sp__law_win_fits (K : PySem.W.Frag) : Sp := Pu (fun (x : Wd) vs G => WOk x ∧ AC IR (x.n : Int) (AC MxL x.t (AC MxL x.c (AC (Tp FR) (wRow x) A0))) vs G) (fun x G u => BR G u true)
theorem len__law_win_fits {K : PySem.W.Frag} {vs : List V} {H : Hp} {Q : VK} {E : XK} (h : sp__law_win_fits K vs H Q E) : vs.length = P__law_win_fits.length := by
  obtain ⟨G, x, e, ⟨_, a⟩, _⟩ := h
  obtain ⟨_, _, _, _, rfl, _⟩ := ac4 a; rfl
theorem ok__law_win_fits {P : Program} {w : World} {K : PySem.W.Frag} {mg : Str → Option Value} {base : Heap} {k : Nat} (T : Tx K mg) (G__law_common : Ok P w K mg base k "_law_common" P__law_common (sp__law_common K)) (G__law_lots : Ok P w K mg base k "_law_lots" P__law_lots (sp__law_lots K)) (G__law_number : Ok P w K mg base k "_law_number" P__law_number (sp__law_number K)) : Ok P w K mg base (k + 1) "_law_win_fits" P__law_win_fits (sp__law_win_fits K) := by
  obtain ⟨fd__law_common, G__law_common, B__law_common, K__law_common⟩ := G__law_common
  obtain ⟨fd__law_lots, G__law_lots, B__law_lots, K__law_lots⟩ := G__law_lots
  obtain ⟨fd__law_number, G__law_number, B__law_number, K__law_number⟩ := G__law_number
  refine ok_of T.d__law_win_fits sc__law_win_fits (fun _ _ _ _ _ _ us hl => match us, hl with | [_, _, _, _], _ => rfl) (fun vs H Q E h => ?_) (fun f cdv A outer s H vs Q E hr h => ?_)
  · exact len__law_win_fits h
  · refine ⟨_, (pss_cons (ps_set (i := 4) sc__law_win_fits.nd rfl (by first | exact Or.inl rfl | exact Or.inr rfl) (pe_call G__law_common hr (by rfl) T.g__law_common K__law_common B__law_common .nil pass0 (pa_cons (pv 3) pa_nil)))
      (pss_cons (ps_set (i := 5) sc__law_win_fits.nd rfl (by first | exact Or.inl rfl | exact Or.inr rfl) (pe_ix ix_list (pv 4) pe_int (fun _ _ => rfl)))
      (pss_cons (ps_set (i := 6) sc__law_win_fits.nd rfl (by first | exact Or.inl rfl | exact Or.inr rfl) (pe_call G__law_lots hr (by rfl) T.g__law_lots K__law_lots B__law_lots .nil pass0 (pa_cons (pv 0) pa_nil)))
      (pss_cons (ps_if (PW.pt (pw_or (pt_cmpR op_ne (pe_ix ix_list (pv 5) pe_int (fun _ _ => rfl)) pe_int (nomark _)) (pw_or1 (pt_cmpR op_ne (pe_ix ix_list (pv 5) (pe_op op_sub (pe_callB call_len_seq (by rfl) T.f_len PySem.boot_len (pa_cons (pv 6) pa_nil)) pe_int) (fun _ _ => rfl)) (pe_ix ix_list (pv 4) pe_int (fun _ _ => rfl)) (nomark _))))) (pss_one (ps_ret pe_bl)) pss_nil)
      (pss_cons (ps_for PassesOwn.never rfl (pi_range2 (by rfl) T.f_range (pa_cons pe_int (pa_cons (pe_op op_sub (pe_callB call_len_seq (by rfl) T.f_len PySem.boot_len (pa_cons (pv 6) pa_nil)) pe_int) pa_nil))) (pg_name (i := 7) sc__law_win_fits.nd rfl (by first | exact Or.inl rfl | exact Or.inr rfl)) (pss_cons (ps_set (i := 8) sc__law_win_fits.nd rfl (by first | exact Or.inl rfl | exact Or.inr rfl) (pe_ix ix_list (pv 6) (pv 7) (fun _ _ => rfl)))
      (pss_cons (ps_set (i := 9) sc__law_win_fits.nd rfl (by first | exact Or.inl rfl | exact Or.inr rfl) pe_int)
      (pss_cons (ps_for PassesOwn.never rfl (pi_range1 (by rfl) T.f_range (pa_cons (pv 0) pa_nil)) (pg_name (i := 10) sc__law_win_fits.nd rfl (by first | exact Or.inl rfl | exact Or.inr rfl)) (pss_one (ps_for PassesOwn.never rfl (pi_range1 (by rfl) T.f_range (pa_cons (pv 0) pa_nil)) (pg_name (i := 11) sc__law_win_fits.nd rfl (by first | exact Or.inl rfl | exact Or.inr rfl)) (pss_cons (ps_if (PW.pt (pw_and (pt_cmpR op_notIn_seq (pv 10) (pv 8) (by rfl)) (pw_and1 (pt_cmpR op_in_seq (pv 11) (pv 8) (by rfl))))) (pss_cons (ps_set (i := 12) sc__law_win_fits.nd rfl (by first | exact Or.inl rfl | exact Or.inr rfl) (pe_op op_sub (pe_ix ix_list (pv 5) (pe_op op_add (pv 7) (pe_call G__law_number hr (by rfl) T.g__law_number K__law_number B__law_number .nil pass0 (pa_cons (pe_lst (pa_cons (pv 10) pa_nil)) pa_nil))) (fun _ _ => rfl)) (pe_ix ix_list (pv 5) (pv 7) (fun _ _ => rfl))))
      (pss_one (ps_set (i := 9) sc__law_win_fits.nd rfl (by first | exact Or.inl rfl | exact Or.inr rfl) (pe_op op_add (pv 9) (pe_op op_mulX (pe_op op_add (pe_ix ix_list (pe_ix ix_list (pv 1) (pv 10) (fun _ _ => rfl)) (pv 11) (fun _ _ => rfl)) (pe_ix ix_list (pe_ix ix_list (pv 2) (pv 10) (fun _ _ => rfl)) (pv 11) (fun _ _ => rfl))) (pv 12)))))) pss_nil)
      (pss_one (ps_if (PW.pt (pw_and (pt_cmpR op_in_seq (pv 10) (pv 8) (by rfl)) (pw_and1 (pt_cmpR op_notIn_seq (pv 11) (pv 8) (by rfl))))) (pss_cons (ps_set (i := 13) sc__law_win_fits.nd rfl (by first | exact Or.inl rfl | exact Or.inr rfl) (pe_op op_sub (pe_ix ix_list (pv 5) (pv 7) (fun _ _ => rfl)) (pe_ix ix_list (pv 5) (pe_op op_sub (pv 7) (pe_call G__law_number hr (by rfl) T.g__law_number K__law_number B__law_number .nil pass0 (pa_cons (pe_lst (pa_cons (pv 10) pa_nil)) pa_nil))) (fun _ _ => rfl))))
      (pss_one (ps_set (i := 9) sc__law_win_fits.nd rfl (by first | exact Or.inl rfl | exact Or.inr rfl) (pe_op op_sub (pv 9) (pe_op op_mulX (pe_ix ix_list (pe_ix ix_list (pv 1) (pv 10) (fun _ _ => rfl)) (pv 11) (fun _ _ => rfl)) (pv 13)))))) pss_nil))))))
      (pss_one (ps_if (pt_cmpR op_ne (pv 9) pe_int (nomark _)) (pss_one (ps_ret pe_bl)) pss_nil))))))
      (pss_one (ps_ret pe_bl))))))), ?_⟩
    obtain ⟨G, w', e, ⟨hw, hv⟩, q⟩ := h
    obtain ⟨nv_, tk, cl, rw_, rfl, rfl, htk, hcl, hrw⟩ := ac4 hv
    have n2 := hw.n2
    have n4 := hw.n4
    have p16 := pow4 n4
    have p4 : 2 ^ 2 ≤ 2 ^ w'.n := Nat.pow_le_pow_right (by decide) n2
    obtain ⟨b0, bp⟩ := hw.wb
    refine s_setCall (A := AC (Tp FR) (wRow w') A0) (ea_cons (ev_var rfl hrw) ea_nil) e fun vs G1 H1 s1 a1 => ?_
    refine ⟨G1, (wRow w', wB w'), s1.v, ⟨⟨by rw [wRow_len]; omega, b0, pw_mono bp, fun p hp => ?_⟩, a1⟩, fun dv G2 H2 s2 ⟨W, w0, wd, wp, r2⟩ => ?_⟩
    · obtain ⟨S, hS, rfl⟩ := wRow_mem hp
      have l := lowf_lw (wF w' S) (b := wB w') (by omega)
      exact ⟨l.pos, lw_dvd l, pw_mono (low_pw (hw.wf hS) bp).1⟩
    have S2 := s1.trans s2
    obtain ⟨m, m0, em, tm⟩ := tops_of hw w0 wd wp
    have tl : (List.map (fun p => p.1 * W.fdiv p.2) (wRow w')).length = 2 ^ w'.n := by rw [List.length_map, wRow_len]
    have tg : ∀ {S}, S < 2 ^ w'.n → (List.map (fun p => p.1 * W.fdiv p.2) (wRow w'))[S]? = some (tF w' W S) := fun {S} hS => by
      rw [List.getElem?_map, wRow_get hS]; rfl
    have tp6 : ∀ {S}, S < 2 ^ w'.n → pw 600 (tF w' W S) := fun {S} hS => by
      have a := hw.wf hS
      rw [tm S hS] at a
      show Int.natAbs _ < _
      refine Nat.lt_of_le_of_lt ?_ a
      rw [Int.natAbs_mul]
      exact Nat.le_mul_of_pos_right _ (by omega)
    have t0 : tF w' W 0 = 0 := by
      have a := tm 0 (by omega)
      have b : wF w' 0 = 0 := lotF_0
      rw [b] at a
      rcases Int.mul_eq_zero.mp a.symm with z | z
      · exact z
      · omega
    have t1 : tF w' W (2 ^ w'.n - 1) = W := by
      have a := tm (2 ^ w'.n - 1) (by omega)
      have b : wF w' (2 ^ w'.n - 1) = wB w' := lotF_1 (by omega)
      rw [b, em] at a
      exact (Int.eq_of_mul_eq_mul_right (by omega) a).symm
    have bal : ∀ S, 0 < S → S < 2 ^ w'.n - 1 → Lop w'.n (at2 w'.t) (at2 w'.c) (tF w' W) S = 0 := fun S h0 h1 => by
      have a := hw.win_eq h0 h1
      have b : Lop w'.n (at2 w'.t) (at2 w'.c) (wF w') S = Lop w'.n (at2 w'.t) (at2 w'.c) (fun S => m * tF w' W S - 0 * tF w' W S) S := by
        unfold Lop
        refine dif_congr fun i j hi hj _ => ?_
        rw [tm S (by omega), tm _ (xor_lt (by omega) hi)]
        grind
      rw [b, lop_lin] at a
      rcases Int.mul_eq_zero.mp (show m * Lop w'.n (at2 w'.t) (at2 w'.c) (tF w' W) S = 0 by omega) with z | z
      · omega
      · exact z
    refine s_set (R := Ls IR) (x := List.map (fun p => p.1 * W.fdiv p.2) (wRow w')) (ev_l2b (p := (W, List.map (fun p => p.1 * W.fdiv p.2) (wRow w'))) (ev_var rfl r2)) s2.v fun tv G3 H3 s3 r3 => ?_
    have S3 := S2.trans s3
    refine s_set (R := Ls (Ls NR)) (x := lotsP w'.n) (ev_call w'.n (ea_consI (ev_varI rfl) ea_nil) (fun vs G' _ h => ⟨n4, h⟩) (fun _ _ h => h)) s3.v fun lv G4 H4 s4 r4 => ?_
    have S4 := S3.trans s4
    have ll : ∀ {σ : L2.St} {G' H'}, Ex G4 G' → σ[6]? = some (some lv) → Ev (tOp (rI0 fun i j => .int (i - j)) (tCB (qLen K) (tCons (tVar 6) tNil)) (tC (.int 1))) σ G' H' IR ((2 ^ w'.n - 1 : Nat) : Int) := fun ex h => Ev.eq (ev_I0 (f := fun i j => i - j) (ev_lenL (R := Ls NR) (xs := lotsP w'.n) (ev_var h (Mono.up ex r4))) ev_int) (by rw [lotsP_len]; omega)
    have g23 := s3.g
    refine s_chk (et_or (b := false) (c := false) ?_ fun _ => ?_) s4.v fun G5 H5 s5 => ?_
    · refine EvT.eq (et_test (ev_neI (i := tF w' W 0) (j := 0) (ev_ixL (R := IR) (n := 0) (ev_var rfl (Mono.up s4.g r3)) ev_int rfl (tg (by omega))) ev_int)) ?_
      rw [t0]; rfl
    · refine EvT.eq (et_test (ev_neI (i := tF w' W (2 ^ w'.n - 1)) (j := W) (ev_ixL (R := IR) (n := 2 ^ w'.n - 1) (ev_var rfl (Mono.up s4.g r3)) (ll (Ex.refl _) rfl) rfl (tg (by omega))) (ev_l2a (p := (W, List.map (fun p => p.1 * W.fdiv p.2) (wRow w'))) (ev_var rfl (Mono.up (s3.g.trans s4.g) r2))))) ?_
      rw [t1, decide_eq_true rfl]; rfl
    have S5 := S4.trans s5
    refine s_for (I := fun i σ G' H' => Stp G H G' H' ∧ ∃ c7 c8 c9 c10 c11 c12 c13, σ = [some (.int (w'.n : Int)), some tk, some cl, some rw_, some dv, some tv, some lv, c7, c8, c9, c10, c11, c12, c13]) (ei_range2 (a := 1) (b := ((2 ^ w'.n - 1 : Nat) : Int)) (ea_consI ev_int (ea_consI (ll s5.g rfl) ea_nil)) ⟨by omega, by omega, by omega, by omega⟩) s5.v ?_ ?_ ?_
    · exact fun G6 H6 s6 => ⟨S5.trans s6, _, _, _, _, _, _, _, rfl⟩
    · rintro s x σ Gp Hq G' H' G1' hi e1 e2 ⟨S6, c7, c8, c9, c10, c11, c12, c13, rfl⟩ s7 ev
      have hi : s < 2 ^ w'.n - 2 := by omega
      obtain ⟨Sl, hSl⟩ : ∃ Sl, Sl = s + 1 := ⟨_, rfl⟩
      obtain rfl : x = .int (Sl : Int) := by rw [ev]; congr 1; omega
      have S7 := S6.trans s7
      have g7 := s5.g.trans (e1.trans (e2.trans s7.g))
      obtain ⟨l, el⟩ : ∃ l, (lotsP w'.n)[Sl]? = some l := ⟨_, List.getElem?_eq_getElem (by rw [lotsP_len]; omega)⟩
      have ml := lotsP_msk _ _ _ el
      have mem : ∀ i, decide (i ∈ l) = Sl.testBit i := fun i => by rw [← ml, msk_test]
      refine s_set (R := Ls NR) (x := l) (ev_ixL (R := Ls NR) (n := Sl) (xs := lotsP w'.n) (ev_var rfl (Mono.up g7 r4)) (ev_varI rfl) rfl el) s7.v fun lo G8 H8 s8 r8 => ?_
      refine s_set (R := IR) (x := 0) ev_int s8.v fun z0 G9 H9 s9 r9 => ?_
      obtain rfl := r9
      have S9 := S7.trans (s8.trans s9)
      have g9 := g7.trans (s8.g.trans s9.g)
      refine s_for (I := fun i σ G' H' => Stp G H G' H' ∧ ∃ c10 c11 c12 c13, σ = [some (.int (w'.n : Int)), some tk, some cl, some rw_, some dv, some tv, some lv, some (.int (Sl : Int)), some lo, some (.int (sm i fun i => sm w'.n (blF w'.n (at2 w'.t) (at2 w'.c) (tF w' W) Sl i))), c10, c11, c12, c13]) (ei_range1 (m := (w'.n : Int)) (ea_consI (ev_varI rfl) ea_nil) (by omega) (by omega)) s9.v ?_ ?_ ?_
      · exact fun G10 H10 s10 => ⟨S9.trans s10, _, _, _, _, rfl⟩
      · rintro i x σ Gs Hs Gt Ht Gu hi z1 z2 ⟨S10, d10, d11, d12, d13, rfl⟩ s11 rfl
        rw [Int.toNat_natCast] at hi
        have S11 := S10.trans s11
        obtain ⟨acc, hacc⟩ : ∃ acc, acc = sm i fun i => sm w'.n (blF w'.n (at2 w'.t) (at2 w'.c) (tF w' W) Sl i) := ⟨_, rfl⟩
        rw [← hacc]
        refine s_for' (I := fun j σ G' H' => Stp G H G' H' ∧ ∃ c11 c12 c13, σ = [some (.int (w'.n : Int)), some tk, some cl, some rw_, some dv, some tv, some lv, some (.int (Sl : Int)), some lo, some (.int (acc + sm j (blF w'.n (at2 w'.t) (at2 w'.c) (tF w' W) Sl i))), some (.int (i : Int)), c11, c12, c13]) (ei_range1 (m := (w'.n : Int)) (ea_consI (ev_varI rfl) ea_nil) (by omega) (by omega)) s11.v ?_ ?_ ?_
        · exact fun G12 H12 s12 => ⟨S11.trans s12, d11, d12, d13, by show _ = [_, _, _, _, _, _, _, _, _, some (V.int (acc + 0)), _, _, _, _]; rw [Int.add_zero]; rfl⟩
        · rintro j x σ Gy Hy Gz Hz Gx hj y1 y2 ⟨S12, f11, f12, f13, rfl⟩ s13 rfl
          rw [Int.toNat_natCast] at hj
          have S13 := S12.trans s13
          have g13 := g9.trans (z1.trans (z2.trans (s11.g.trans (y1.trans (y2.trans s13.g)))))
          obtain ⟨ac2, hac2⟩ : ∃ ac2, ac2 = acc + sm j (blF w'.n (at2 w'.t) (at2 w'.c) (tF w' W) Sl i) := ⟨_, rfl⟩
          rw [← hac2]
          have lo13 := Mono.up (s9.g.trans (z1.trans (z2.trans (s11.g.trans (y1.trans (y2.trans s13.g)))))) r8
          have Slt : Sl < 2 ^ w'.n := by omega
          have xl := xor_lt Slt hi
          have go : ∀ {v G' H'}, Stp Gz Hz G' H' → v = ac2 + blF w'.n (at2 w'.t) (at2 w'.c) (tF w' W) Sl i j → ∀ c12 c13, ∃ G'', Ex Gx G'' ∧ Ex G'' H' ∧ Stp G H G'' H' ∧ ∃ c11 c12' c13', ([some (.int (w'.n : Int)), some tk, some cl, some rw_, some dv, some tv, some lv, some (.int (Sl : Int)), some lo, some (.int v), some (.int (i : Int)), some (.int (j : Int)), c12, c13] : L2.St) = [some (.int (w'.n : Int)), some tk, some cl, some rw_, some dv, some tv, some lv, some (.int (Sl : Int)), some lo, some (.int (acc + sm (j + 1) (blF w'.n (at2 w'.t) (at2 w'.c) (tF w' W) Sl i))), some (.int (i : Int)), c11, c12', c13'] := fun {v G' H'} s hv c12 c13 => ⟨G', y2.trans (s13.g.trans s.g), s.v, S13.trans s, some (.int (j : Int)), c12, c13, by
            rw [hv, hac2, Int.add_assoc]; rfl⟩
          have num : ∀ {σ : L2.St} {G' H'}, σ[10]? = some (some (.int (i : Int))) → Ev (tCall (sp__law_number K) [] E0 (tCons (tLst (tCons (tVar 10) tNil)) tNil)) σ G' H' IR ((2 ^ i : Nat) : Int) := fun h => Ev.eq (ev_call [i] (ea_cons (R := Ls NR) (x := [i]) (ev_lst (.cons (ev_var (R := NR) (x := i) h rfl) .nil) (by show 1 ≤ 100000; decide)) ea_nil) (fun vs G' _ h => ⟨⟨List.nodup_cons.mpr ⟨fun z => (by cases z), List.nodup_nil⟩, fun p hp => by
            obtain rfl := (List.mem_singleton.mp hp)
            omega⟩, h⟩) (fun _ _ h => h)) (by rw [msk_one])
          obtain ⟨r, er, hl, hr⟩ := hw.st.row hi
          obtain ⟨rc, erc, hlc, hrc⟩ := hw.sc.row hi
          have tij : ∀ {σ : L2.St} {G' H'}, Ex Gz G' → σ[1]? = some (some tk) → σ[10]? = some (some (.int (i : Int))) → σ[11]? = some (some (.int (j : Int))) → Ev (tOp (rIxL K) (tOp (rIxL K) (tVar 1) (tVar 10)) (tVar 11)) σ G' H' IR (at2 w'.t i j) := fun ex a1 a2 a3 => ev_ixL (R := IR) (n := j) (xs := r) (ev_ixL (R := Ls IR) (n := i) (xs := w'.t) (ev_var a1 (Mono.up ((S4.g.trans g13).trans ex) htk)) (ev_varI a2) rfl er) (ev_varI a3) rfl (hr j hj)
          have cij : ∀ {σ : L2.St} {G' H'}, Ex Gz G' → σ[2]? = some (some cl) → σ[10]? = some (some (.int (i : Int))) → σ[11]? = some (some (.int (j : Int))) → Ev (tOp (rIxL K) (tOp (rIxL K) (tVar 2) (tVar 10)) (tVar 11)) σ G' H' IR (at2 w'.c i j) := fun ex a1 a2 a3 => ev_ixL (R := IR) (n := j) (xs := rc) (ev_ixL (R := Ls IR) (n := i) (xs := w'.c) (ev_var a1 (Mono.up ((S4.g.trans g13).trans ex) hcl)) (ev_varI a2) rfl erc) (ev_varI a3) rfl (hrc j hj)
          have top : ∀ {σ : L2.St} {G' H'} {te : TE} {k : Int} {U : Nat}, Ex Gz G' → σ[5]? = some (some tv) → Ev te σ G' H' IR k → k = (U : Int) → U < 2 ^ w'.n → Ev (tOp (rIxL K) (tVar 5) te) σ G' H' IR (tF w' W U) := fun ex a1 h hk hU => ev_ixL (R := IR) (ev_var a1 (Mono.up ((s4.g.trans g13).trans ex) r3)) h hk (tg hU)
          have tb := hw.t0 i j hi hj
          have cb := hw.c0 i j hi hj
          have tS := tp6 Slt
          have tX := tp6 xl
          have mI := mem i
          have mJ := mem j
          refine s_ifn (b := !decide (i ∈ l) && decide (j ∈ l)) (et_and (et_inN (b := true) (ev_var (R := NR) rfl rfl) (ev_var rfl lo13)) fun _ => et_inN (b := false) (ev_var (R := NR) rfl rfl) (ev_var rfl lo13)) s13.v (fun G14 H14 s14 hb => ?_) (fun G14 H14 s14 hb => ?_)
          · rw [mI, mJ, Bool.and_eq_true, Bool.not_eq_true'] at hb
            obtain ⟨bi, bj⟩ := hb
            have up := xor_up Sl (by omega) i (by omega) bi
            refine s_set (R := IR) (x := tF w' W (Sl ^^^ 2 ^ i) - tF w' W Sl) (ev_I0 (f := fun i j => i - j) (top s14.g rfl (ev_I0 (f := fun i j => i + j) (ev_varI rfl) (num rfl)) (by rw [up, Int.natCast_add]) xl) (top s14.g rfl (ev_varI rfl) rfl Slt)) s14.v fun v G15 H15 s15 r15 => ?_
            obtain rfl := r15
            have S15 := s14.trans s15
            refine s_set1 (R := IR) (x := ac2 + (at2 w'.t i j + at2 w'.c i j) * (tF w' W (Sl ^^^ 2 ^ i) - tF w' W Sl)) (ev_I0 (f := fun i j => i + j) (ev_varI rfl) (ev_I (f := fun i j => i * j) (ev_I0 (f := fun i j => i + j) (tij S15.g rfl rfl rfl) (cij S15.g rfl rfl rfl)) (ev_varI rfl) (mulx (a := 20) (b := 601) (by show Int.natAbs _ < 2 ^ 20; omega) (pws tX tS)))) s15.v fun v G16 H16 s16 r16 => ?_
            obtain rfl := r16
            -- the second look is passed by
            have S16 := S15.trans s16
            refine s_if (b := decide (i ∈ l) && !decide (j ∈ l)) (et_and (et_inN (b := false) (ev_var (R := NR) rfl rfl) (ev_var rfl (Mono.up S16.g lo13))) fun _ => et_inN (b := true) (ev_var (R := NR) rfl rfl) (ev_var rfl (Mono.up S16.g lo13))) s16.v (fun G17 H17 s17 hb => ?_) (fun G17 H17 s17 _ => ?_)
            · rw [mI, bi] at hb; cases hb
            · refine go (S16.trans s17) ?_ _ _
              unfold blF
              rw [if_neg (by rw [bi, bj]; decide), if_neg (by rw [bi]; decide)]
          · refine s_if (b := decide (i ∈ l) && !decide (j ∈ l)) (et_and (et_inN (b := false) (ev_var (R := NR) rfl rfl) (ev_var rfl (Mono.up s14.g lo13))) fun _ => et_inN (b := true) (ev_var (R := NR) rfl rfl) (ev_var rfl (Mono.up s14.g lo13))) s14.v (fun G15 H15 s15 hb2 => ?_) (fun G15 H15 s15 hb2 => ?_)
            · rw [mI, mJ, Bool.and_eq_true, Bool.not_eq_true'] at hb2
              obtain ⟨bi, bj⟩ := hb2
              obtain ⟨dn, dl⟩ := xor_dn Sl (by omega) i (by omega) bi
              have S15 := s14.trans s15
              refine s_set (R := IR) (x := tF w' W Sl - tF w' W (Sl ^^^ 2 ^ i)) (ev_I0 (f := fun i j => i - j) (top S15.g rfl (ev_varI rfl) rfl Slt) (top S15.g rfl (ev_I0 (f := fun i j => i - j) (ev_varI rfl) (num rfl)) (by rw [dn]; omega) xl)) s15.v fun v G16 H16 s16 r16 => ?_
              obtain rfl := r16
              have S16 := S15.trans s16
              refine s_set1 (R := IR) (x := ac2 - at2 w'.t i j * (tF w' W Sl - tF w' W (Sl ^^^ 2 ^ i))) (ev_I0 (f := fun i j => i - j) (ev_varI rfl) (ev_I (f := fun i j => i * j) (tij S16.g rfl rfl rfl) (ev_varI rfl) (mulx (a := 20) (b := 601) (by show Int.natAbs _ < 2 ^ 20; omega) (pws tS tX)))) s16.v fun v G17 H17 s17 r17 => ?_
              obtain rfl := r17
              refine go (S16.trans s17) ?_ _ _
              unfold blF
              rw [if_neg (by rw [bi, bj]; decide), if_pos bi]
              omega
            · refine go (s14.trans s15) ?_ _ _
              rw [mI, mJ] at hb hb2
              unfold blF
              rw [if_pos (by cases hI : Sl.testBit i <;> cases hJ : Sl.testBit j <;> simp [hI, hJ] at hb hb2 ⊢)]
              omega
        · rintro σ Gy Hy y1 y2 ⟨S12, f11, f12, f13, rfl⟩
          refine ⟨Gy, z2.trans (s11.g.trans y1), y2, S12, some (.int (i : Int)), f11, f12, f13, ?_⟩
          rw [Int.toNat_natCast, hacc]
          rfl
      · rintro σ Gs Hs z1 z2 ⟨S10, d10, d11, d12, d13, rfl⟩
        rw [Int.toNat_natCast, bl_sum, bal Sl (by omega) (by omega)]
        refine s_if (b := false) (EvT.eq (et_test (ev_neI (i := -0) (j := 0) (ev_varI rfl) ev_int)) rfl) S10.v (fun _ _ _ z => by cases z) fun G11 H11 s11 _ => ?_
        exact ⟨G11, e2.trans (s7.g.trans (s8.g.trans (s9.g.trans (z1.trans s11.g)))), s11.v, S10.trans s11, _, _, _, _, _, _, _, rfl⟩
    · rintro σ Gp Hq e1 e2 ⟨S6, c7, c8, c9, c10, c11, c12, c13, rfl⟩
      exact s_ret (R := BR) (x := true) ev_bl S6.v fun v G7 H7 s7 r7 => q v G7 H7 (S6.trans s7) r7

end Cy
namespace Cy
open PySem PySem.Spec PyProof.Rows L2 He
local macro_rules | `(tactic| tm_at "ex") => `(tactic| first
  | exact Ex.refl _ | assumption | exact Stp.g (by assumption) | exact Stp.v (by assumption)
  | (refine Ex.trans (Stp.g (by assumption)) ?_; tm_at "ex")
  | (refine Ex.trans (by assumption) ?_; tm_at "ex"))
local macro_rules | `(tactic| tm_at "rl") => `(tactic| first
  | exact rfl | assumption | (apply Mono.up; rotate_left; assumption; tm_at "ex"))
local macro_rules | `(tactic| tm_at "sc") => `(tactic| first | assumption | omega)
local macro_rules | `(tactic| tm_at "ev") => `(tactic| first
  | exact ev_int | exact ev_bl | assumption
  | (apply ev_varI; exact rfl)
  | (apply ev_var; exact rfl; tm_at "rl")
  | (apply ev_I0; tm_at "ev"; tm_at "ev")
  | (apply ev_B0; tm_at "ev"; tm_at "ev")
  | (apply ev_I; tm_at "ev"; tm_at "ev"; tm_at "sc")
  | (apply ev_un; tm_at "ev")
  | (apply ev_eqI; tm_at "ev"; tm_at "ev")
  | (apply ev_neI; tm_at "ev"; tm_at "ev")
  | (apply ev_fstI; tm_at "ev")
  | (apply ev_sndI; tm_at "ev")
  | (apply ev_max2; tm_at "ev"; tm_at "ev")
  | (apply ev_min2; tm_at "ev"; tm_at "ev")
  | (apply ev_abs; tm_at "ev")
  | (apply ev_int1; tm_at "ev")
  | (apply ev_bits; tm_at "ev")
  | (apply ev_gcd; tm_at "ev"; tm_at "ev")
  | (apply ev_len; tm_at "ev")
  | (apply ev_tup2; tm_at "ev"; tm_at "ev"))
local macro_rules | `(tactic| tm_at "ea") => `(tactic| first
  | exact ea_nil
  | (apply ea_consI; tm_at "ev"; tm_at "ea")
  | (apply ea_cons; tm_at "ev"; tm_at "ea"))
local macro_rules | `(tactic| tm_at "et") => `(tactic| first
  | (apply et_test; tm_at "ev")
  | (apply et_B; tm_at "ev")
  | (apply et_not; tm_at "et"))

open Cr
/-! the full elimination of the law -/
/-- row i behind l steps -/
noncomputable def gw (A : Nat → Nat → Int) (l i j : Nat) : Int := if i < l then Classical.choose (gj_rp A l i) j else mn A l i j
theorem gj_uniq {A : Nat → Nat → Int} {m l i : Nat} {w w' : Nat → Int} (H : LK A m) (hl : l ≤ m) (h : GJ A l i w) (h' : GJ A l i w') (j : Nat) : w j = w' j := by
  obtain ⟨⟨C, hC⟩, hz⟩ := h
  obtain ⟨⟨E, hE⟩, hz'⟩ := h'
  have z := comb_zero (A := A) (m := m) (k := l) H hl (v := fun j => w j - w' j) ⟨fun r => C r - E r, fun j => by
    show w j - w' j = _
    rw [hC j, hE j, ← sm_sub]
    exact sm_congr fun r _ => by grind⟩ (fun j hj => by show w j - w' j = 0; rw [hz j hj, hz' j hj]; omega) j
  have z : w j - w' j = 0 := z
  omega
theorem gw_gj {A : Nat → Nat → Int} {l i : Nat} (h : i < l) : GJ A l i (gw A l i) := by
  have e : gw A l i = Classical.choose (gj_rp A l i) := by funext j; unfold gw; rw [if_pos h]
  rw [e]
  exact (Classical.choose_spec (gj_rp A l i)).1
theorem gw_self {A : Nat → Nat → Int} {m k : Nat} (H : LK A m) (hk : k < m) (j : Nat) : gw A (k + 1) k j = gw A k k j := by
  rw [gj_uniq H (show k + 1 ≤ m by omega) (gw_gj (Nat.lt_succ_self k)) (gj_self A k) j]
  unfold gw
  rw [if_neg (by omega)]
theorem gw_step {A : Nat → Nat → Int} {m k i : Nat} (H : LK A m) (hk : k < m) (ne : i ≠ k) (j : Nat) : ld A k * gw A (k + 1) i j = mn A k k k * gw A k i j - gw A k i k * mn A k k j := by
  by_cases h : i < k
  · exact gj_step H hk h (gw_gj h) (gw_gj (by omega)) j
  · have e1 : ∀ j, gw A (k + 1) i j = mn A (k + 1) i j := fun j => by unfold gw; rw [if_neg (by omega)]
    have e2 : ∀ j, gw A k i j = mn A k i j := fun j => by unfold gw; rw [if_neg (by omega)]
    rw [e1, e2, e2]
    exact step_low H hk j
theorem gw_zero {A : Nat → Nat → Int} {i j : Nat} : gw A 0 i j = A i j := by unfold gw; rw [if_neg (by omega), mn_zero]
theorem SvOk.hA {M : Mx} {b : List Int} {m : Nat} (h : SvOk M b m) : (∀ r j, r < m → j ≤ m → (at2 (wk M b) r j).natAbs < 2 ^ 600) := fun r j hr hj => by
  have := h.bd 0 r j (by omega) hr hj
  rw [mn_zero] at this
  exact this
def grow (A : Nat → Nat → Int) (m l i : Nat) : Prop := ∀ j, j ≤ m → pw 6000 (gw A l i j)
/-- the rows stand: row i holds f i -/
def RwI (G H : Hp) (a : Addr) (m : Nat) (f : Nat → Nat → Int) : Prop := G a = none ∧ ∃ us, H a = some (.lst us) ∧ us.length = m ∧ ∀ i, i < m → ∃ v, us[i]? = some v ∧ Ls IR G v ((List.range (m + 1)).map (f i))
section
variable {K : PySem.W.Frag} {σ : L2.St} {G H G' H' : Hp} {a : Addr} {m x i : Nat} {f f' : Nat → Nat → Int} {tb : TE} {v : V}
theorem RwI.step (h : RwI G H a m f) (s : Stp G H G' H') : RwI G' H' a m f := by
  obtain ⟨g, us, e, l, r⟩ := h
  exact ⟨s.n _ _ e g, us, s.h _ _ e, l, fun i hi => by obtain ⟨v, e1, e2⟩ := r i hi; exact ⟨v, e1, Mono.up s.g e2⟩⟩
theorem RwI.ev (h : RwI G H a m f) (hx : σ[x]? = some (some (.ref a))) (hb : Ev tb σ G H IR (i : Int)) (hi : i < m) : Ev (tOp (rIxL K) (tVar x) tb) σ G H (Ls IR) ((List.range (m + 1)).map (f i)) := by
  obtain ⟨g, us, e1, l, r⟩ := h
  obtain ⟨v, ev, rv⟩ := r i hi
  exact ev_ixOwn hx e1 hb rfl ev rv
theorem RwI.put {us : List V} (h : RwI G H a m f) (hus : H a = some (.lst us)) (hi : i < m) (r : Ls IR G v ((List.range (m + 1)).map (f' i))) (hf : ∀ k, k < m → k ≠ i → ∀ j, f' k j = f k j) : RwI G (upd H a (.lst (us.set i v))) a m f' := by
  obtain ⟨g, us', e1, l, rr⟩ := h
  rw [hus] at e1
  cases e1
  refine ⟨g, _, upd_same, by rw [List.length_set, l], fun j hj => ?_⟩
  by_cases e : j = i
  · subst e
    exact ⟨v, by rw [List.getElem?_set_self (by omega)], r⟩
  · obtain ⟨w, ew, rw_⟩ := rr j hj
    exact ⟨w, by rw [List.getElem?_set_ne (fun z => e z.symm)]; exact ew, by rw [show f' j = f j from funext (hf j hj e)]; exact rw_⟩
theorem s_rw {tr ti : TE} {u : TS} {D : Ends} (h : RwI G H a m f) (hx : σ[x]? = some (some (.ref a))) (hi : i < m) (ht : Ev tr σ G H (Ls IR) ((List.range (m + 1)).map (f' i))) (hti : Ev ti σ G H IR (i : Int)) (hf : ∀ k, k < m → k ≠ i → ∀ j, f' k j = f k j) (e : Ex G H)
    (k : ∀ G' H' o, Stp G H G' H' → G' a = none → RwI G' (upd H' a o) a m f' → u D σ (upd H' a o)) : tSeq (tAsg tr (gSub (tVar x) ti rSetL)) u D σ H := by
  obtain ⟨g, us, e1, l, rr⟩ := id h
  exact s_store hx e1 (by omega) ht hti e fun v G' H' s r => k G' H' _ s (s.n _ _ e1 g) ((h.step s).put (s.h _ _ e1) hi r hf)
theorem s_rw1 {tr ti : TE} {D : Ends} (h : RwI G H a m f) (hx : σ[x]? = some (some (.ref a))) (hi : i < m) (ht : Ev tr σ G H (Ls IR) ((List.range (m + 1)).map (f' i))) (hti : Ev ti σ G H IR (i : Int)) (hf : ∀ k, k < m → k ≠ i → ∀ j, f' k j = f k j) (e : Ex G H)
    (k : ∀ G' H' o, Stp G H G' H' → G' a = none → RwI G' (upd H' a o) a m f' → D.nx σ (upd H' a o)) : tAsg tr (gSub (tVar x) ti rSetL) D σ H := by
  obtain ⟨g, us, e1, l, rr⟩ := id h
  exact s_store1 hx e1 (by omega) ht hti e fun v G' H' s r => k G' H' _ s (s.n _ _ e1 g) ((h.step s).put (s.h _ _ e1) hi r hf)
end
theorem rg_get {m j : Nat} (f : Nat → Int) (h : j < m + 1) : ((List.range (m + 1)).map f)[j]? = some (f j) := by rw [List.getElem?_map, List.getElem?_range h]; rfl
theorem gw_pw {M : Mx} {b : List Int} {m : Nat} (h : SvOk M b m) (m4 : m ≤ 4) {l i j : Nat} (hl : l ≤ m) (hi : i < m) (hj : j ≤ m) : pw 3100 (gw (at2 (wk M b)) l i j) := by
  by_cases z : i < l
  · obtain ⟨g1, g2⟩ := gw_gj (A := at2 (wk M b)) z
    have l600 : pw 600 (ld (at2 (wk M b)) l) := by
      cases l with
      | zero => omega
      | succ k => rw [ld_succ]; exact h.bd k k k (by omega) (by omega) (by omega)
    by_cases y : j < l
    · rw [g2 j y]
      split
      · exact pw_mono l600
      · show (0 : Nat) < _; exact Nat.two_pow_pos _
    · have e : gw (at2 (wk M b)) l i j = mn (rp (at2 (wk M b)) l i) l l j := by
        unfold gw
        rw [if_pos z]
        exact (Classical.choose_spec (gj_rp (at2 (wk M b)) l i)).2 j (by omega)
      rw [e]
      have en : ∀ r c, r < l ∨ r = l → c ≤ m → (rp (at2 (wk M b)) l i r c).natAbs ≤ 2 ^ 600 := fun r c hr hc => by
        unfold rp
        by_cases q : r = l
        · rw [if_pos q]
          split
          · exact Nat.one_le_two_pow
          · exact Nat.zero_le _
        · rw [if_neg q]
          exact Nat.le_of_lt (SvOk.hA h r c (by omega) hc)
      refine Nat.lt_of_le_of_lt (mn_le (B := 2 ^ 600) (D := 2 ^ 600) (by omega) (fun r hr c hc => en r c hr (by omega)) (fun r hr => en r j hr hj)) ?_
      refine Nat.lt_of_le_of_lt (Nat.mul_le_mul_left 16 (Nat.mul_le_mul_left (2 ^ 600) (Nat.pow_le_pow_right (Nat.mul_pos (by decide) (Nat.two_pow_pos _)) (show l ≤ 4 by omega)))) ?_
      decide +kernel
  · unfold gw
    rw [if_neg z]
    exact pw_mono (h.bd l i j hl hi hj)
theorem fm_head {α : Type} {f : Nat → Option α} {n : Nat} {x : α} (h : f 0 = some x) : ∃ r, (List.range (n + 1)).filterMap f = x :: r := by
  rw [List.range_succ_eq_map, List.filterMap_cons, h]
  exact ⟨_, rfl⟩
abbrev N__law_solve : List Str := ["_law_rows", "_law_many", "_law_work", "_law_last", "_law_k", "_law_found", "_law_chosen", "_law_pivot", "_law_i", "_law_row", "_law_head", "_law_j"]
abbrev P__law_solve : List Str := ["_law_rows"]
theorem sc__law_solve : FnScope N__law_solve P__law_solve (defScope s__law_solve) := ⟨rfl, rfl, rfl, by decide +kernel, rfl, by decide +kernel, by decide +kernel⟩
def sp__law_solve (K : PySem.W.Frag) : Sp := Pu (fun (x : (Mx × List Int) × Nat) vs G => (SvOk x.1.1 x.1.2 x.2 ∧ x.2 ≤ 4) ∧ AC (Ls (Ls IR)) (wk x.1.1 x.1.2) A0 vs G) (fun x G u => Ls FR G u ((List.range x.2).map fun i => lowf (svX x.1.1 x.1.2 x.2 i) (svB x.1.1 x.1.2 x.2)))
theorem len__law_solve {K : PySem.W.Frag} {vs : List V} {H : Hp} {Q : VK} {E : XK} (h : sp__law_solve K vs H Q E) : vs.length = P__law_solve.length := by
  obtain ⟨G, x, e, ⟨_, a⟩, _⟩ := h
  obtain ⟨_, rfl, _⟩ := ac1 a; rfl
def SvI (G H : Hp) (a : Addr) (A : Nat → Nat → Int) (m : Nat) (u : V) (k : Nat) (σ : L2.St) (G' H' : Hp) : Prop := Stp G H G' H' ∧ RwI G' H' a m (gw A k) ∧ ∃ c4 c5 c6 c7 c8 c9 c10, σ = [some u, some (.int (m : Int)), some (.ref a), some (.int (ld A k)), c4, c5, c6, c7, c8, c9, c10, none]
theorem ok__law_solve {P : Program} {w : World} {K : PySem.W.Frag} {mg : Str → Option Value} {base : Heap} {k : Nat} (T : Tx K mg) (G__law_low : Ok P w K mg base k "_law_low" P__law_low (sp__law_low K)) : Ok P w K mg base (k + 1) "_law_solve" P__law_solve (sp__law_solve K) := by
  obtain ⟨fd__law_low, G__law_low, B__law_low, K__law_low⟩ := G__law_low
  refine ok_of T.d__law_solve sc__law_solve (fun _ _ _ _ _ _ us hl => match us, hl with | [_], _ => rfl) (fun vs H Q E h => ?_) (fun f cdv A outer s H vs Q E hr h => ?_)
  · exact len__law_solve h
  · refine ⟨_, (pss_cons (ps_set (i := 1) sc__law_solve.nd rfl (by first | exact Or.inl rfl | exact Or.inr rfl) (pe_callB call_len_seq (by rfl) T.f_len PySem.boot_len (pa_cons (pv 0) pa_nil)))
      (pss_cons (ps_set (i := 2) sc__law_solve.nd rfl (by first | exact Or.inl rfl | exact Or.inr rfl) (pe_lc (own := [("_law_row", 9)]) (g := (gName 9)) (tt := tYes) (te := (tCB (qList K) (tCons (tVar 9) tNil))) (by rfl) sc__law_solve.nd (pi_list (pv 0)) (blkOk_by (by kernel_rfl)) (fun _ _ _ _ _ => (pg_name (i := 9) sc__law_solve.nd rfl (by first | exact Or.inl rfl | exact Or.inr rfl))) (fun _ _ _ _ _ => pts_nil) (fun _ _ _ _ _ => (pe_callTy call_list_of (by rfl) T.f_list (by decide +kernel) (pa_cons (pv 9) pa_nil)))))
      (pss_cons (ps_set (i := 3) sc__law_solve.nd rfl (by first | exact Or.inl rfl | exact Or.inr rfl) pe_int)
      (pss_cons (ps_for PassesOwn.never rfl (pi_range1 (by rfl) T.f_range (pa_cons (pv 1) pa_nil)) (pg_name (i := 4) sc__law_solve.nd rfl (by first | exact Or.inl rfl | exact Or.inr rfl)) (pss_cons (ps_setLc (i := 5) (own := [("_law_i", 8)]) (g := (gName 8)) (tt := (tTest (tOp rNe (tOp (rIxL K) (tOp (rIxL K) (tVar 2) (tVar 8)) (tVar 4)) (tC (.int 0))))) (te := (tVar 8)) (by rfl) sc__law_solve.nd rfl rfl (sw_true rfl rfl rfl (by kernel_rfl)) (pi_range2 (by rfl) T.f_range (pa_cons (pv 4) (pa_cons (pv 1) pa_nil))) (blkOk_by (by kernel_rfl)) (fun _ _ _ _ _ => (pg_name (i := 8) sc__law_solve.nd rfl (by first | exact Or.inl rfl | exact Or.inr rfl))) (fun _ _ _ _ _ => (pts_one (pt_cmpR op_ne (pe_ix ix_list (pe_ix ix_list (pv 2) (pv 8) (fun _ _ => rfl)) (pv 4) (fun _ _ => rfl)) pe_int (nomark _)))) (fun _ _ _ _ _ => (pv 8)))
      (pss_cons (ps_if (pt_cmpR op_eq (pe_callB call_len_seq (by rfl) T.f_len PySem.boot_len (pa_cons (pv 5) pa_nil)) pe_int (nomark _)) (pss_one (ps_ret pe_non)) pss_nil)
      (pss_cons (ps_set (i := 6) sc__law_solve.nd rfl (by first | exact Or.inl rfl | exact Or.inr rfl) (pe_ix ix_list (pv 2) (pe_ix ix_list (pv 5) pe_int (fun _ _ => rfl)) (fun _ _ => rfl)))
      (pss_cons (ps_asg (pe_ix ix_list (pv 2) (pv 4) (fun _ _ => rfl)) (pg_sub (pv 2) (pe_ix ix_list (pv 5) pe_int (fun _ _ => rfl)) set_list))
      (pss_cons (ps_asg (pv 6) (pg_sub (pv 2) (pv 4) set_list))
      (pss_cons (ps_set (i := 7) sc__law_solve.nd rfl (by first | exact Or.inl rfl | exact Or.inr rfl) (pe_ix ix_list (pv 6) (pv 4) (fun _ _ => rfl)))
      (pss_cons (ps_for PassesOwn.never rfl (pi_range1 (by rfl) T.f_range (pa_cons (pv 1) pa_nil)) (pg_name (i := 8) sc__law_solve.nd rfl (by first | exact Or.inl rfl | exact Or.inr rfl)) (pss_one (ps_if (pt_cmpR op_ne (pv 8) (pv 4) (nomark _)) (pss_cons (ps_set (i := 9) sc__law_solve.nd rfl (by first | exact Or.inl rfl | exact Or.inr rfl) (pe_ix ix_list (pv 2) (pv 8) (fun _ _ => rfl)))
      (pss_cons (ps_set (i := 10) sc__law_solve.nd rfl (by first | exact Or.inl rfl | exact Or.inr rfl) (pe_ix ix_list (pv 9) (pv 4) (fun _ _ => rfl)))
      (pss_one (ps_asg (pe_lc (own := [("_law_j", 11)]) (g := (gName 11)) (tt := tYes) (te := (tOp qDiv (tOp qSub (tOp qMul (tVar 7) (tOp (rIxL K) (tVar 9) (tVar 11))) (tOp qMul (tVar 10) (tOp (rIxL K) (tVar 6) (tVar 11)))) (tVar 3))) (by rfl) sc__law_solve.nd (pi_range1 (by rfl) T.f_range (pa_cons (pe_op op_add (pv 1) pe_int) pa_nil)) (blkOk_by (by kernel_rfl)) (fun _ _ _ _ _ => (pg_name (i := 11) sc__law_solve.nd rfl (by first | exact Or.inl rfl | exact Or.inr rfl))) (fun _ _ _ _ _ => pts_nil) (fun _ _ _ _ _ => (pe_op op_fdivY (pe_op op_sub (pe_op op_mulX (pv 7) (pe_ix ix_list (pv 9) (pv 11) (fun _ _ => rfl))) (pe_op op_mulX (pv 10) (pe_ix ix_list (pv 6) (pv 11) (fun _ _ => rfl)))) (pv 3)))) (pg_sub (pv 2) (pv 8) set_list))))) pss_nil)))
      (pss_one (ps_set (i := 3) sc__law_solve.nd rfl (by first | exact Or.inl rfl | exact Or.inr rfl) (pv 7)))))))))))
      (pss_one (ps_ret (pe_lc (own := [("_law_i", 8)]) (g := (gName 8)) (tt := tYes) (te := (tCall (sp__law_low K) [] E0 (tCons (tOp (rIxL K) (tOp (rIxL K) (tVar 2) (tVar 8)) (tVar 1)) (tCons (tVar 3) tNil)))) (by rfl) sc__law_solve.nd (pi_range1 (by rfl) T.f_range (pa_cons (pv 1) pa_nil)) (blkOk_by (by kernel_rfl)) (fun _ _ _ _ _ => (pg_name (i := 8) sc__law_solve.nd rfl (by first | exact Or.inl rfl | exact Or.inr rfl))) (fun _ _ _ _ _ => pts_nil) (fun _ _ _ _ _ => (pe_call G__law_low hr (by rfl) T.g__law_low K__law_low B__law_low .nil pass0 (pa_cons (pe_ix ix_list (pe_ix ix_list (pv 2) (pv 8) (fun _ _ => rfl)) (pv 1) (fun _ _ => rfl)) (pa_cons (pv 3) pa_nil))))))))))), ?_⟩
    obtain ⟨G, ⟨⟨M, b⟩, m⟩, e, ⟨⟨hs, m4⟩, hv⟩, q⟩ := h
    dsimp only at hs m4 hv q
    obtain ⟨u, rfl, hu⟩ := ac1 hv
    obtain ⟨A, hA⟩ : ∃ A, A = at2 (wk M b) := ⟨_, rfl⟩
    have lkA : LK A m := by rw [hA]; exact hs.lk
    have bd : ∀ k i j, k ≤ m → i < m → j ≤ m → pw 600 (mn A k i j) := by rw [hA]; exact hs.bd
    have gp : ∀ {l i j}, l ≤ m → i < m → j ≤ m → pw 3100 (gw A l i j) := by rw [hA]; exact gw_pw hs m4
    have m1 := hs.m1
    have ml : (wk M b).length = m := by unfold wk; rw [List.length_zipWith, hs.s.l, hs.lb, Nat.min_self]
    have lde : ∀ k, k ≤ m → pw 600 (ld A k) := fun k hk => by
      cases k with
      | zero => rw [ld_zero]; show (1 : Nat) < 2 ^ 600; decide +kernel
      | succ k => rw [ld_succ]; exact bd k k k (by omega) (by omega) (by omega)
    refine s_set (R := IR) (x := (m : Int)) ((ev_lenL (R := Ls IR) (ev_var rfl hu)).eq (by rw [ml])) e fun w G1 H1 s1 r1 => ?_
    obtain rfl := r1
    refine s_setN (S := Ls IR) (ys := (wk M b).map fun r => r) (en_lcL (R := Ls IR) (S := Ls IR) (f := fun r => r) (ei_list (R := Ls IR) (xs := wk M b) (ev_var rfl (Mono.up s1.g hu))) (by omega) fun i x v G3 H3 hi s3 rx => ev_listOf ((ev_var rfl rx).imp fun _ _ h => h.sq)) s1.v fun a us G2 H2 I2 ha => ?_
    have ha0 : H a = none := s1.h.none ha
    have hW : RwI G2 H2 a m (gw A 0) := ⟨I2.g, us, I2.d, by rw [paired_len I2.p, List.length_map, ml], fun i hi => by
      obtain ⟨r, er, hl, hr, hm⟩ := wk_row hs.s hs.lb hi
      obtain ⟨w, e1, r'⟩ := paired_get1 (y := r) I2.p (by rw [List.map_id']; exact er)
      refine ⟨w, e1, ?_⟩
      have : (List.range (m + 1)).map (gw A 0 i) = r := ext_some (by rw [List.length_map, List.length_range, hl]) fun j hj => by
        rw [List.length_map, List.length_range] at hj
        refine ⟨gw A 0 i j, rg_get _ hj, ?_⟩
        rw [gw_zero, hA]
        by_cases z : j < m
        · rw [wk_at hs.s hs.lb hi z]
          exact hr j z
        · obtain rfl : j = m := by omega
          rw [wk_rt hs.s hs.lb hi]; exact hm
      rw [this]; exact r'⟩
    have S2 := s1.trans I2.s
    refine s_set (R := IR) (x := 1) ev_int S2.v fun w G3 H3 s3 r3 => ?_
    obtain rfl := r3
    have S3 := S2.trans s3
    refine s_for (I := SvI G H a A m u) (ei_range1 (m := (m : Int)) (ea_consI (ev_varI rfl) ea_nil) (by omega) (by omega)) S3.v ?_ ?_ ?_
    · exact fun G4 H4 s4 => ⟨S3.trans s4, (hW.step s3).step s4, none, none, none, none, none, none, none, rfl⟩
    · rintro k w σ Gp Hq G' H' G1' hk e1 e2 ⟨S4, W4, c4, c5, c6, c7, c8, c9, c10, rfl⟩ s5 rfl
      rw [Int.toNat_natCast] at hk
      have S5 := S4.trans s5
      have W5 := W4.step s5
      have pe : gw A k k k = mn A k k k := by unfold gw; rw [if_neg (by omega)]
      have p0 : mn A k k k ≠ 0 := by rw [← ld_succ]; exact ld_ne lkA (k + 1) (by omega)
      have l0 : ld A k ≠ 0 := ld_ne lkA k (by omega)
      obtain ⟨tl, htl⟩ := fm_head (f := fun t => if gw A k (k + t) k ≠ 0 then some (k + t) else none) (n := m - k - 1) (x := k) (by show (if gw A k k k ≠ 0 then some k else none) = _; rw [if_pos (by rw [pe]; exact p0)])
      rw [show m - k - 1 + 1 = m - k by omega] at htl
      refine s_set (R := Ls NR) (x := k :: tl) (Ev.eq (ev_lc1 (S := NR) (W := fun t _ v => v = .int (((k + t : Nat)) : Int)) (n := m - k) (f := fun t => if gw A k (k + t) k ≠ 0 then some (k + t) else none) ?_ (by omega) (fun t v G8 H8 ht s8 ev => ?_) (fun t v y G8 H8 ht s8 ev hy => ?_)) htl) S5.v fun fv G6 H6 s6 r6 => ?_
      · have z := (ei_range2 (σ := [some u, some (.int (m : Int)), some (.ref a), some (.int (ld A k)), some (.int (k : Int)), c5, c6, c7, c8, c9, c10, none]) (G := G') (H := H') (ta := tCons (tVar 4) (tCons (tVar 1) tNil)) (a := (k : Int)) (b := (m : Int)) (ea_consI (ev_varI rfl) (ea_consI (ev_varI rfl) ea_nil)) ⟨by omega, by omega, by omega, by omega⟩).imp (W' := fun t _ v => v = .int (((k + t : Nat)) : Int)) fun t G v _ e => by rw [e]; congr 1
        rw [show ((m : Int) - (k : Int)).toNat = m - k by omega] at z
        exact z
      · obtain rfl := ev
        refine EvT.eq (et_test (ev_neI (i := gw A k (k + t) k) (j := 0) (ev_ixL (R := IR) (n := k) ((W5.step s8).ev rfl (ev_varI rfl) (by omega)) (ev_varI rfl) rfl (rg_get _ (by omega))) ev_int)) ?_
        by_cases z : gw A k (k + t) k = 0
        · rw [if_neg (by omega), decide_eq_true z]; rfl
        · rw [if_pos z, decide_eq_false z]; rfl
      · obtain rfl := ev
        split at hy
        · cases hy; exact ev_var rfl rfl
        · cases hy
      have S6 := S5.trans s6
      have W6 := W5.step s6
      refine s_chk (EvT.eq (et_test (ev_eqI (ev_lenL (R := NR) (xs := k :: tl) (ev_var rfl r6)) ev_int)) (decide_eq_false (by rw [List.length_cons]; omega))) S6.v fun G7 H7 s7 => ?_
      have S7 := S6.trans s7
      have W7 := W6.step s7
      have f0 : ∀ {σ : L2.St} {G' H'}, Ex G6 G' → σ[5]? = some (some fv) → Ev (tOp (rIxL K) (tVar 5) (tC (.int 0))) σ G' H' IR (k : Int) := fun ex h => (ev_ixL (R := NR) (n := 0) (xs := k :: tl) (ev_var h (Mono.up ex r6)) ev_int rfl rfl).imp fun _ _ h => h
      refine s_set (R := Ls IR) (x := (List.range (m + 1)).map (gw A k k)) (W7.ev rfl (f0 s7.g rfl) hk) S7.v fun ch G8 H8 s8 r8 => ?_
      refine s_rw (f' := gw A k) (i := k) (W7.step s8) rfl hk ((W7.step s8).ev rfl (ev_varI rfl) hk) (f0 (s7.g.trans s8.g) rfl) (fun _ _ _ _ => rfl) s8.v fun G9 H9 o9 s9 g9 W9 => ?_
      have S9 := (S7.trans (s8.trans s9)).mut (o := o9) ha0 g9
      refine s_rw (f' := gw A k) (i := k) W9 rfl hk (ev_var rfl (Mono.up s9.g r8)) (ev_varI rfl) (fun _ _ _ _ => rfl) S9.v fun G10 H10 o10 s10 g10 W10 => ?_
      have S10 := (S9.trans s10).mut (o := o10) ha0 g10
      have r10 := Mono.up (s9.g.trans s10.g) r8
      refine s_set (R := IR) (x := mn A k k k) (ev_ixL (R := IR) (n := k) (ev_var rfl r10) (ev_varI rfl) rfl (by rw [← pe]; exact rg_get _ (by omega))) S10.v fun w G11 H11 s11 r11 => ?_
      obtain rfl := r11
      have S11 := S10.trans s11
      have W11 := W10.step s11
      have r11 := Mono.up s11.g r10
      refine s_for (I := fun t σ G' H' => Stp G H G' H' ∧ RwI G' H' a m (fun i => if i < t then gw A (k + 1) i else gw A k i) ∧ ∃ c8 c9 c10, σ = [some u, some (.int (m : Int)), some (.ref a), some (.int (ld A k)), some (.int (k : Int)), some fv, some ch, some (.int (mn A k k k)), c8, c9, c10, none]) (ei_range1 (m := (m : Int)) (ea_consI (ev_varI rfl) ea_nil) (by omega) (by omega)) S11.v ?_ ?_ ?_
      · exact fun G12 H12 s12 => ⟨S11.trans s12, by
          have z : (fun i => if i < 0 then gw A (k + 1) i else gw A k i) = gw A k := by funext i; rw [if_neg (by omega)]
          rw [z]
          exact W11.step s12, _, _, _, rfl⟩
      · rintro t x σ Gs Hs Gt Ht Gu ht z1 z2 ⟨S12, W12, d8, d9, d10, rfl⟩ s13 rfl
        rw [Int.toNat_natCast] at ht
        have S13 := S12.trans s13
        have W13 := W12.step s13
        have r13 := Mono.up (z1.trans (z2.trans s13.g)) r11
        have nx : ∀ {i}, (fun i => if i < t then gw A (k + 1) i else gw A k i) i = if i < t then gw A (k + 1) i else gw A k i := rfl
        refine s_if (b := !decide ((t : Int) = (k : Int))) (et_test (ev_neI (ev_varI rfl) (ev_varI rfl))) s13.v (fun G14 H14 s14 hb => ?_) (fun G14 H14 s14 hb => ?_)
        · have ne : t ≠ k := fun z => by rw [z, decide_eq_true rfl] at hb; cases hb
          have W14 := W13.step s14
          refine s_set (R := Ls IR) (x := (List.range (m + 1)).map (gw A k t)) (Ev.eq (W14.ev rfl (ev_varI rfl) ht) (by rw [if_neg (Nat.lt_irrefl t)])) s14.v fun rw_ G15 H15 s15 r15 => ?_
          refine s_set (R := IR) (x := gw A k t k) (ev_ixL (R := IR) (n := k) (ev_var rfl r15) (ev_varI rfl) rfl (rg_get _ (by omega))) s15.v fun hd_ G16 H16 s16 r16 => ?_
          obtain rfl := r16
          have S16 := s14.trans (s15.trans s16)
          refine s_rw1 (f' := fun i => if i < t + 1 then gw A (k + 1) i else gw A k i) (i := t) ((W14.step s15).step s16) rfl ht (Ev.eq (ev_lc0 (S := IR) (W := fun j _ v => v = .int (j : Int)) (n := m + 1) (f := fun j => (mn A k k k * gw A k t j - gw A k t k * gw A k k j).fdiv (ld A k)) ?_ (by omega) fun j v G17 H17 hj s17 ev => ?_) ?_) (ev_varI rfl) (fun i hi ne j => ?_) s16.v fun G18 H18 o18 s18 g18 W18 => ?_
          · have z := ei_range1 (m := (m : Int) + 1) (ta := tCons (tOp qAdd (tVar 1) (tC (.int 1))) tNil) (σ := [some u, some (.int (m : Int)), some (.ref a), some (.int (ld A k)), some (.int (k : Int)), some fv, some ch, some (.int (mn A k k k)), some (.int (t : Int)), some rw_, some (.int (gw A k t k)), none]) (G := G16) (H := H16) (ea_consI (ev_I0 (f := fun i j => i + j) (ev_varI rfl) ev_int) ea_nil) (by omega) (by omega)
            rw [show ((m : Int) + 1).toNat = m + 1 by omega] at z
            exact z
          · obtain rfl := ev
            refine ev_I (f := fun i j => i.fdiv j) (ev_I0 (f := fun i j => i - j) (ev_I (f := fun i j => i * j) (ev_varI rfl) (ev_ixL (R := IR) (n := j) (ev_var rfl (Mono.up (s16.g.trans s17.g) r15)) (ev_varI rfl) rfl (rg_get _ hj)) (mulx (bd k k k (by omega) hk (by omega)) (gp (by omega) ht (by omega)))) (ev_I (f := fun i j => i * j) (ev_varI rfl) (ev_ixL (R := IR) (n := j) (ev_var rfl (Mono.up (S16.g.trans s17.g) r13)) (ev_varI rfl) rfl (rg_get _ hj)) (mulx (gp (by omega) ht (by omega)) (gp (by omega) hk (by omega))))) (ev_varI rfl) (fdivy l0 (lde k (by omega)))
          · refine List.map_congr_left fun j hj => ?_
            have st := gw_step lkA hk ne j
            have ek : gw A k k j = mn A k k j := by unfold gw; rw [if_neg (by omega)]
            rw [if_pos (Nat.lt_succ_self t), ek, ← st, Int.mul_fdiv_cancel_left _ l0]
          · by_cases z : i < t
            · rw [if_pos z, if_pos (by omega)]
            · rw [if_neg z, if_neg (by omega)]
          · exact ⟨G18, z2.trans (s13.g.trans (S16.g.trans s18.g)), (S16.trans s18).v.mut g18, ((S13.trans S16).trans s18).mut ha0 g18, W18, _, _, _, rfl⟩
        · have te : t = k := by
            have := of_decide_eq_true (by simpa using hb)
            omega
          subst te
          refine ⟨G14, z2.trans (s13.g.trans s14.g), s14.v, S13.trans s14, ?_, _, _, _, rfl⟩
          have z : (fun i => if i < t + 1 then gw A (t + 1) i else gw A t i) = fun i => if i < t then gw A (t + 1) i else gw A t i := by
            funext i j
            by_cases y : i < t
            · rw [if_pos y, if_pos (by omega)]
            · rw [if_neg y]
              by_cases x : i = t
              · subst x; rw [if_pos (by omega)]; exact gw_self lkA hk j
              · rw [if_neg (by omega)]
          rw [z]
          exact W13.step s14
      · rintro σ Gs Hs z1 z2 ⟨S12, W12, d8, d9, d10, rfl⟩
        refine s_set1 (R := IR) (x := mn A k k k) (ev_varI rfl) S12.v fun w G13 H13 s13 r13 => ?_
        obtain rfl := r13
        refine ⟨G13, e2.trans (s5.g.trans (s6.g.trans (s7.g.trans (s8.g.trans (s9.g.trans (s10.g.trans (s11.g.trans (z1.trans s13.g)))))))), s13.v, S12.trans s13, ?_, some (.int (k : Int)), some fv, some ch, some (.int (mn A k k k)), d8, d9, d10, rfl⟩
        have W13 := W12.step s13
        rw [Int.toNat_natCast] at W13
        obtain ⟨g, us, e1, l, r⟩ := W13
        exact ⟨g, us, e1, l, fun i hi => by
          obtain ⟨v, ev, rv⟩ := r i hi
          exact ⟨v, ev, by
            have : (fun i => if i < m then gw A (k + 1) i else gw A k i) i = gw A (k + 1) i := if_pos hi
            rw [this] at rv; exact rv⟩⟩
    · rintro σ Gp Hq e1 e2 ⟨S4, W4, c4, c5, c6, c7, c8, c9, c10, rfl⟩
      rw [Int.toNat_natCast] at W4 ⊢
      have lm := ld_ne lkA m (Nat.le_refl _)
      have sol := SvOk.uniq hs (Y := fun i => gw A m i m) (c := ld A m) lm (fun r hr => by
        have := gj_sol (w := fun i => gw A m i) lkA (fun i hi => gw_gj hi) m r hr
        rw [hA] at this ⊢
        rw [wk_rt hs.s hs.lb hr] at this
        rw [← this]
        exact sm_congr fun i hi => by rw [wk_at hs.s hs.lb hr hi])
      refine s_ret (R := Ls FR) (x := (List.range m).map fun i => lowf (svX M b m i) (svB M b m)) (ev_lc0 (S := FR) (W := fun j _ v => v = .int (j : Int)) (n := m) (f := fun i => lowf (svX M b m i) (svB M b m)) (ei_range1 (m := (m : Int)) (by tm_at "ea") (by omega) (by omega)) (by omega) fun i v G8 H8 hi s8 ev => ?_) S4.v fun v G3 H3 s3 r3 => q v G3 H3 (S4.trans s3) r3
      obtain rfl := ev
      have eq := (lowf_lw (gw A m i m) lm).uniq (lowf_lw (svX M b m i) (b := svB M b m) (by have := hs.pos; omega)) lm (by have := hs.pos; omega) (sol i hi)
      refine ev_call (gw A m i m, ld A m) (ea_consI (ev_ixL (R := IR) (n := m) ((W4.step s8).ev rfl (ev_varI rfl) hi) (ev_varI rfl) rfl (rg_get _ (by omega))) (ea_consI (ev_varI rfl) ea_nil)) (fun vs G' _ h => ⟨⟨lm, pw_mono (gp (by omega) hi (by omega)), pw_mono (lde m (by omega))⟩, h⟩) (fun _ _ h => by rw [← eq]; exact h)

end Cy
namespace Cy
open PySem PySem.Spec PyProof.Rows L2 He
local macro_rules | `(tactic| tm_at "ex") => `(tactic| first
  | exact Ex.refl _ | assumption | exact Stp.g (by assumption) | exact Stp.v (by assumption)
  | (refine Ex.trans (Stp.g (by assumption)) ?_; tm_at "ex")
  | (refine Ex.trans (by assumption) ?_; tm_at "ex"))
local macro_rules | `(tactic| tm_at "rl") => `(tactic| first
  | exact rfl | assumption | (apply Mono.up; rotate_left; assumption; tm_at "ex"))
local macro_rules | `(tactic| tm_at "sc") => `(tactic| first | assumption | omega)
local macro_rules | `(tactic| tm_at "ev") => `(tactic| first
  | exact ev_int | exact ev_bl | assumption
  | (apply ev_varI; exact rfl)
  | (apply ev_var; exact rfl; tm_at "rl")
  | (apply ev_I0; tm_at "ev"; tm_at "ev")
  | (apply ev_B0; tm_at "ev"; tm_at "ev")
  | (apply ev_I; tm_at "ev"; tm_at "ev"; tm_at "sc")
  | (apply ev_un; tm_at "ev")
  | (apply ev_eqI; tm_at "ev"; tm_at "ev")
  | (apply ev_neI; tm_at "ev"; tm_at "ev")
  | (apply ev_fstI; tm_at "ev")
  | (apply ev_sndI; tm_at "ev")
  | (apply ev_max2; tm_at "ev"; tm_at "ev")
  | (apply ev_min2; tm_at "ev"; tm_at "ev")
  | (apply ev_abs; tm_at "ev")
  | (apply ev_int1; tm_at "ev")
  | (apply ev_bits; tm_at "ev")
  | (apply ev_gcd; tm_at "ev"; tm_at "ev")
  | (apply ev_len; tm_at "ev")
  | (apply ev_tup2; tm_at "ev"; tm_at "ev"))
local macro_rules | `(tactic| tm_at "ea") => `(tactic| first
  | exact ea_nil
  | (apply ea_consI; tm_at "ev"; tm_at "ea")
  | (apply ea_cons; tm_at "ev"; tm_at "ea"))
local macro_rules | `(tactic| tm_at "et") => `(tactic| first
  | (apply et_test; tm_at "ev")
  | (apply et_B; tm_at "ev")
  | (apply et_not; tm_at "et"))

open Cr
abbrev N__law_says : List Str := ["_law_size_here", "_law_takes", "_law_rows", "_law_j", "_law_row", "_law_i"]
abbrev P__law_says : List Str := ["_law_size_here", "_law_takes"]
theorem sc__law_says : FnScope N__law_says P__law_says (defScope s__law_says) := ⟨rfl, rfl, rfl, by decide +kernel, rfl, by decide +kernel, by decide +kernel⟩
def sp__law_says (K : PySem.W.Frag) : Sp := Pu (fun (x : Wd) vs G => WOk x ∧ AC IR (x.n : Int) (AC MxL x.t A0) vs G) (fun x G u => Ls FR G u ((List.range x.n).map fun i => lowf (sX x.n (at2 x.t) i) (sB x.n (at2 x.t))))
theorem len__law_says {K : PySem.W.Frag} {vs : List V} {H : Hp} {Q : VK} {E : XK} (h : sp__law_says K vs H Q E) : vs.length = P__law_says.length := by
  obtain ⟨G, x, e, ⟨_, a⟩, _⟩ := h
  obtain ⟨_, _, rfl, _⟩ := ac2 a; rfl
def SaI (G H : Hp) (a : Addr) (w : Wd) (tk : V) (j : Nat) (σ : L2.St) (G' H' : Hp) : Prop := Stp G H G' H' ∧ OL (Ls IR) G' H' a ((List.range j).map fun r => ((List.range w.n).map fun i => sayM w.n (at2 w.t) r i) ++ [0]) ∧ ∃ c3 c4, σ = [some (.int (w.n : Int)), some tk, some (.ref a), c3, c4, none]
theorem ok__law_says {P : Program} {w : World} {K : PySem.W.Frag} {mg : Str → Option Value} {base : Heap} {k : Nat} (T : Tx K mg) (G__law_solve : Ok P w K mg base k "_law_solve" P__law_solve (sp__law_solve K)) : Ok P w K mg base (k + 1) "_law_says" P__law_says (sp__law_says K) := by
  obtain ⟨fd__law_solve, G__law_solve, B__law_solve, K__law_solve⟩ := G__law_solve
  refine ok_of T.d__law_says sc__law_says (fun _ _ _ _ _ _ us hl => match us, hl with | [_, _], _ => rfl) (fun vs H Q E h => ?_) (fun f cdv A outer s H vs Q E hr h => ?_)
  · exact len__law_says h
  · refine ⟨_, (pss_cons (ps_set (i := 2) sc__law_says.nd rfl (by first | exact Or.inl rfl | exact Or.inr rfl) (pe_lst pa_nil))
      (pss_cons (ps_for PassesOwn.never rfl (pi_range1 (by rfl) T.f_range (pa_cons (pe_op op_sub (pv 0) pe_int) pa_nil)) (pg_name (i := 3) sc__law_says.nd rfl (by first | exact Or.inl rfl | exact Or.inr rfl)) (pss_cons (ps_setLc (i := 4) (own := [("_law_i", 5)]) (g := (gName 5)) (tt := tYes) (te := (tOp (rIxL K) (tOp (rIxL K) (tVar 1) (tVar 5)) (tVar 3))) (by rfl) sc__law_says.nd rfl rfl (sw_true rfl rfl rfl (by kernel_rfl)) (pi_range1 (by rfl) T.f_range (pa_cons (pv 0) pa_nil)) (blkOk_by (by kernel_rfl)) (fun _ _ _ _ _ => (pg_name (i := 5) sc__law_says.nd rfl (by first | exact Or.inl rfl | exact Or.inr rfl))) (fun _ _ _ _ _ => pts_nil) (fun _ _ _ _ _ => (pe_ix ix_list (pe_ix ix_list (pv 1) (pv 5) (fun _ _ => rfl)) (pv 3) (fun _ _ => rfl))))
      (pss_cons (ps_asg (pe_un un_neg (pe_callB (cr_sum rfl) (by rfl) T.f_sum (by decide +kernel) (pa_cons (pe_ix ix_list (pv 1) (pv 3) (fun _ _ => rfl)) pa_nil))) (pg_sub (pv 4) (pv 3) set_list))
      (pss_one (ps_expr (pe_bm PySem.F.plainAttrs_list PySem.F.slot_list_append PySem.F.type_list_append mt_append (pv 2) (pa_cons (pe_op op_cat (pv 4) (pe_lst (pa_cons pe_int pa_nil))) pa_nil)))))))
      (pss_cons (ps_expr (pe_bm PySem.F.plainAttrs_list PySem.F.slot_list_append PySem.F.type_list_append mt_append (pv 2) (pa_cons (pe_op op_cat (pe_op op_rep (pe_lst (pa_cons pe_int pa_nil)) (pv 0)) (pe_lst (pa_cons pe_int pa_nil))) pa_nil)))
      (pss_one (ps_ret (pe_call G__law_solve hr (by rfl) T.g__law_solve K__law_solve B__law_solve .nil pass0 (pa_cons (pv 2) pa_nil))))))), ?_⟩
    obtain ⟨G, w', e, ⟨hw, hv⟩, q⟩ := h
    obtain ⟨nn, tk, rfl, rfl, hu⟩ := ac2 hv
    have n4 := hw.n4
    have n2 := hw.n2
    refine s_new e fun a ha ga => ?_
    have S3 := (Stp.refl e).own (o := .lst []) ha
    have O1 : OL (Ls IR) G (upd H a (.lst [])) a [] := OL.new ga
    refine s_for (I := SaI G H a w' tk) (ei_range1 (m := (w'.n : Int) - 1) (ea_consI (ev_I0 (ev_varI rfl) ev_int) ea_nil) (by omega) (by omega)) S3.v ?_ ?_ ?_
    · exact fun G5 H5 s5 => ⟨S3.trans s5, O1.step s5, _, _, rfl⟩
    · rintro j x σ Gp Hq G' H' G1' hj e1 e2 ⟨S5, A5, c5, c6, rfl⟩ s6 rfl
      have S6 := S5.trans s6
      have A6 := A5.step s6
      have hj1 : j + 1 < w'.n := by omega
      have hj : j < w'.n := by omega
      have t6 := Mono.up S6.g hu
      refine s_setN (S := IR) (ys := (List.range w'.n).map fun i => at2 w'.t i j) ?_ s6.v fun p us G7 H7 I7 hp => ?_
      · refine en_lc0 (n := w'.n) (W := fun i _ v => v = .int (i : Int)) (ei_range1 (m := (w'.n : Int)) (by tm_at "ea") (by omega) (by omega)) (by omega) fun i v G7 H7 hi s7 ev => ?_
        obtain rfl := ev
        obtain ⟨r, er, hl, hr⟩ := hw.st.row hi
        exact ev_ixL (R := IR) (n := j) (xs := r) (ev_ixL (R := Ls IR) (n := i) (xs := w'.t) (ev_var rfl (Mono.up s7.g t6)) (ev_varI rfl) rfl er) (ev_varI rfl) rfl (hr j hj)
      · have S7 := S6.trans I7.s
        have hp0 : H p = none := S6.h.none hp
        have npa : a ≠ p := fun z => by obtain ⟨_, us, h1, _⟩ := A6; rw [z, hp] at h1; cases h1
        have A7 := A6.step I7.s
        obtain ⟨r, er, hl, hr⟩ := hw.st.row hj
        have dp := I7.d
        rw [paired_ints I7.p] at dp
        refine s_store (R := IR) (y := -(sm w'.n (at2 w'.t j))) (j := j) rfl dp (by rw [List.length_map, List.length_map, List.length_range]; exact hj) ?_ (ev_varI rfl) I7.s.v fun v G8 H8 s8 r8 => ?_
        · refine ev_un (f := fun i => -i) (Ev.eq (ev_sumL (ns := r) (ev_ixL (R := Ls IR) (n := j) (xs := w'.t) (ev_var rfl (Mono.up I7.s.g t6)) (ev_varI rfl) rfl er)) (row_sum hw.st hj er))
        · obtain rfl := r8
          have S8 := S7.trans s8
          have g8 := s8.n _ _ I7.d I7.g
          have A8 := A7.step s8
          rw [← List.map_set, set_rng, show (List.range w'.n).map (fun i => if i = j then -(sm w'.n (at2 w'.t j)) else at2 w'.t i j) = (List.range w'.n).map (fun i => sayM w'.n (at2 w'.t) j i) from List.map_congr_left fun i hi => by
            unfold sayM
            rw [if_neg (show ¬ (j + 1 = w'.n) by omega)]]
          have S9 := (S8.mut (o := .lst (((List.range w'.n).map (fun i => sayM w'.n (at2 w'.t) j i)).map V.int)) hp0 g8).add hp0 g8 upd_same
          have ex9 := Ex.new (o := .lst (((List.range w'.n).map (fun i => sayM w'.n (at2 w'.t) j i)).map V.int)) g8
          have A9 : OL (Ls IR) _ _ a _ := (A8.mut (o := .lst (((List.range w'.n).map (fun i => sayM w'.n (at2 w'.t) j i)).map V.int)) npa).up ex9 (by rw [upd_ne npa]; exact A8.1)
          have rp : Ls IR (upd G8 p (.lst (((List.range w'.n).map (fun i => sayM w'.n (at2 w'.t) j i)).map V.int))) (.ref p) ((List.range w'.n).map (fun i => sayM w'.n (at2 w'.t) j i)) := ⟨p, _, rfl, upd_same, ints_paired _ _⟩
          refine s_appendO1 (R := Ls IR) (y := ((List.range w'.n).map fun i => sayM w'.n (at2 w'.t) j i) ++ [0]) (i := 2) rfl A9 (by rw [List.length_map, List.length_range]; omega) (ev_cat (ev_var rfl rp) (ev_lst (xs := [0]) (.cons ev_int .nil) (by show 1 ≤ 100000; decide)) (by rw [List.length_map, List.length_range]; show w'.n + 1 ≤ _; omega)) S9.v fun G10 H10 o10 s10 g10 A10 => ?_
          have S10 := (S9.trans s10).mut (o := o10) ha g10
          refine ⟨G10, e2.trans (s6.g.trans (I7.s.g.trans (s8.g.trans (ex9.trans s10.g)))), S10.v, S10, ?_, _, _, rfl⟩
          rw [List.range_succ, List.map_append]
          exact A10
    · rintro σ Gp Hq e1 e2 ⟨S5, A5, c5, c6, rfl⟩
      rw [show ((w'.n : Int) - 1).toNat = w'.n - 1 by omega] at A5
      refine s_appendO (R := Ls IR) (i := 2) rfl A5 (by rw [List.length_map, List.length_range]; omega) (y := List.replicate (w'.n : Int).toNat 1 ++ [1]) (ev_cat (ev_rep ev_int (ev_varI rfl) (by omega) (by omega)) (ev_lst (xs := [1]) (.cons ev_int .nil) (by show 1 ≤ 100000; decide)) (by rw [List.length_replicate]; show _ + 1 ≤ _; omega)) S5.v fun G6 H6 o6 s6 g6 A6 => ?_
      have S6 := (S5.trans s6).mut (o := o6) ha g6
      obtain ⟨us8, S8, ra⟩ := A6.show_ S6 ha
      have eA : ((List.range (w'.n - 1)).map fun r => ((List.range w'.n).map fun i => sayM w'.n (at2 w'.t) r i) ++ [0]) ++ [List.replicate (w'.n : Int).toNat 1 ++ [1]] = wk (sMt w'.n (at2 w'.t)) (sbs w'.n) := by
        refine ext_some ?_ fun i hi => ?_
        · unfold wk sMt sbs
          rw [List.length_append, List.length_zipWith, List.length_map, List.length_map, List.length_map, List.length_range, List.length_range]
          show w'.n - 1 + 1 = _
          omega
        · rw [List.length_append, List.length_map, List.length_range] at hi
          have hi : i < w'.n := by have : i < w'.n - 1 + 1 := hi; omega
          have ew : (wk (sMt w'.n (at2 w'.t)) (sbs w'.n))[i]? = some (((List.range w'.n).map fun k => sayM w'.n (at2 w'.t) i k) ++ [if i + 1 = w'.n then 1 else 0]) := by
            unfold wk sMt sbs
            rw [List.getElem?_zipWith, List.getElem?_map, List.getElem?_map, List.getElem?_range hi]; rfl
          refine ⟨_, ?_, ew⟩
          by_cases z : i + 1 = w'.n
          · rw [List.getElem?_append_right (by rw [List.length_map, List.length_range]; omega), List.length_map, List.length_range, show i - (w'.n - 1) = 0 by omega, if_pos z]
            show some _ = some _
            congr 2
            rw [Int.toNat_natCast, show (fun k => sayM w'.n (at2 w'.t) i k) = fun _ => (1 : Int) from funext fun k => by unfold sayM; rw [if_pos z], List.map_const', List.length_range]
          · rw [List.getElem?_append_left (by rw [List.length_map, List.length_range]; omega), List.getElem?_map, List.getElem?_range (by omega), if_neg z]; rfl
      rw [eA] at ra
      have sv := say_sv n2 n4 hw.lk hw.t0 hw.td
      refine s_ret (R := Ls FR) (x := (List.range w'.n).map fun i => lowf (sX w'.n (at2 w'.t) i) (sB w'.n (at2 w'.t))) ?_ S8.v fun v G3 H3 s3 r3 => q v G3 H3 (S8.trans s3) r3
      exact ev_call ((sMt w'.n (at2 w'.t), sbs w'.n), w'.n) (ea_cons (R := Ls (Ls IR)) (x := wk (sMt w'.n (at2 w'.t)) (sbs w'.n)) (ev_var rfl ra) ea_nil) (fun vs G' _ h => ⟨⟨sv, n4⟩, h⟩) (fun _ _ h => h)

end Cy
namespace Cy
open PySem PySem.Spec PyProof.Rows L2 He
local macro_rules | `(tactic| tm_at "ex") => `(tactic| first
  | exact Ex.refl _ | assumption | exact Stp.g (by assumption) | exact Stp.v (by assumption)
  | (refine Ex.trans (Stp.g (by assumption)) ?_; tm_at "ex")
  | (refine Ex.trans (by assumption) ?_; tm_at "ex"))
local macro_rules | `(tactic| tm_at "rl") => `(tactic| first
  | exact rfl | assumption | (apply Mono.up; rotate_left; assumption; tm_at "ex"))
local macro_rules | `(tactic| tm_at "sc") => `(tactic| first | assumption | omega)
local macro_rules | `(tactic| tm_at "ev") => `(tactic| first
  | exact ev_int | exact ev_bl | assumption
  | (apply ev_varI; exact rfl)
  | (apply ev_var; exact rfl; tm_at "rl")
  | (apply ev_I0; tm_at "ev"; tm_at "ev")
  | (apply ev_B0; tm_at "ev"; tm_at "ev")
  | (apply ev_I; tm_at "ev"; tm_at "ev"; tm_at "sc")
  | (apply ev_un; tm_at "ev")
  | (apply ev_eqI; tm_at "ev"; tm_at "ev")
  | (apply ev_neI; tm_at "ev"; tm_at "ev")
  | (apply ev_fstI; tm_at "ev")
  | (apply ev_sndI; tm_at "ev")
  | (apply ev_max2; tm_at "ev"; tm_at "ev")
  | (apply ev_min2; tm_at "ev"; tm_at "ev")
  | (apply ev_abs; tm_at "ev")
  | (apply ev_int1; tm_at "ev")
  | (apply ev_bits; tm_at "ev")
  | (apply ev_gcd; tm_at "ev"; tm_at "ev")
  | (apply ev_len; tm_at "ev")
  | (apply ev_tup2; tm_at "ev"; tm_at "ev"))
local macro_rules | `(tactic| tm_at "ea") => `(tactic| first
  | exact ea_nil
  | (apply ea_consI; tm_at "ev"; tm_at "ea")
  | (apply ea_cons; tm_at "ev"; tm_at "ea"))
local macro_rules | `(tactic| tm_at "et") => `(tactic| first
  | (apply et_test; tm_at "ev")
  | (apply et_B; tm_at "ev")
  | (apply et_not; tm_at "et"))

open Cr
/-! ### means of grades by the lots -/
def stS (gs ss : List Int) (f : Nat → Int) : Int := sm (ss.length - 1) fun k => (ss.getD (k + 1) 0 - ss.getD k 0) * f (ups gs (ss.getD (k + 1) 0))
def JF (gs : List Int) (f : Nat → Int) (a b : Int) : Int := sm (b - a).toNat fun t => f (ups gs (a + 1 + (t : Int)))
def Mn (gs : List Int) (m : Int) : Prop := m ∈ gs ∧ ∀ y ∈ gs, m ≤ y
def Mxx (gs : List Int) (m : Int) : Prop := m ∈ gs ∧ ∀ y ∈ gs, y ≤ m
theorem mn_ex : ∀ {gs : List Int}, 0 < gs.length → ∃ m, Mn gs m
  | [a], _ => ⟨a, List.mem_singleton.mpr rfl, fun y hy => by rw [List.mem_singleton.mp hy]; omega⟩
  | a :: b :: r, _ => by
    obtain ⟨m, h1, h2⟩ := mn_ex (gs := b :: r) (Nat.succ_pos _)
    by_cases z : a ≤ m
    · exact ⟨a, List.mem_cons_self, fun y hy => by
        rcases (List.mem_cons.mp hy) with rfl | hy
        · omega
        · have := h2 y hy; omega⟩
    · exact ⟨m, List.mem_cons_of_mem _ h1, fun y hy => by
        rcases (List.mem_cons.mp hy) with rfl | hy
        · omega
        · exact h2 y hy⟩
theorem mxx_ex : ∀ {gs : List Int}, 0 < gs.length → ∃ m, Mxx gs m
  | [a], _ => ⟨a, List.mem_singleton.mpr rfl, fun y hy => by rw [List.mem_singleton.mp hy]; omega⟩
  | a :: b :: r, _ => by
    obtain ⟨m, h1, h2⟩ := mxx_ex (gs := b :: r) (Nat.succ_pos _)
    by_cases z : m ≤ a
    · exact ⟨a, List.mem_cons_self, fun y hy => by
        rcases (List.mem_cons.mp hy) with rfl | hy
        · omega
        · have := h2 y hy; omega⟩
    · exact ⟨m, List.mem_cons_of_mem _ h1, fun y hy => by
        rcases (List.mem_cons.mp hy) with rfl | hy
        · omega
        · exact h2 y hy⟩
theorem ups_eq {gs : List Int} {h k : Int} (e : ∀ g ∈ gs, h ≤ g ↔ k ≤ g) : ups gs h = ups gs k := Nat.eq_of_testBit_eq fun i => by
  have key : (ups gs h).testBit i = true ↔ (ups gs k).testBit i = true := by
    rw [ups_test, ups_test]
    constructor
    · rintro ⟨a, b⟩
      refine ⟨a, (e _ ?_).mp b⟩
      rw [List.getD_eq_getElem?_getD, List.getElem?_eq_getElem a]; exact List.getElem_mem a
    · rintro ⟨a, b⟩
      refine ⟨a, (e _ ?_).mpr b⟩
      rw [List.getD_eq_getElem?_getD, List.getElem?_eq_getElem a]; exact List.getElem_mem a
  cases x : (ups gs h).testBit i <;> cases y : (ups gs k).testBit i <;> simp_all
theorem JF_split {gs : List Int} {f : Nat → Int} {a b c : Int} (h1 : a ≤ b) (h2 : b ≤ c) : JF gs f a c = JF gs f a b + JF gs f b c := by
  unfold JF
  rw [show (c - a).toNat = (b - a).toNat + (c - b).toNat by omega, sm_split]
  congr 1
  exact sm_congr fun t _ => by
    rw [show a + 1 + (((b - a).toNat + t : Nat) : Int) = b + 1 + (t : Int) by omega]
theorem JF_flat {gs : List Int} {f : Nat → Int} {a b : Int} (h1 : a ≤ b) (h : ∀ g ∈ gs, ¬(a < g ∧ g < b)) : JF gs f a b = (b - a) * f (ups gs b) := by
  unfold JF
  rw [sm_congr (g := fun _ => 1 * f (ups gs b)) (fun t ht => by
    rw [ups_eq (k := b) fun g hg => ?_]
    · omega
    · have := h g hg
      omega)]
  rw [sm_mulr]
  congr 1
  have : ∀ n : Nat, sm n (fun _ => (1 : Int)) = n := fun n => by
    induction n with
    | zero => rfl
    | succ n ih => show sm n _ + 1 = _; rw [ih]; push_cast; rfl
  rw [this]
  omega
structure Srt (gs ss : List Int) : Prop where
  s : ss.Pairwise (· ≤ ·)
  m : ∀ x, x ∈ ss ↔ x ∈ gs
  p : 0 < ss.length
theorem Srt.le {gs ss : List Int} (h : Srt gs ss) {i j : Nat} (hij : i ≤ j) (hj : j < ss.length) : ss.getD i 0 ≤ ss.getD j 0 := by
  rw [getD_of (List.getElem?_eq_getElem (show i < ss.length by omega)), getD_of (List.getElem?_eq_getElem hj)]
  by_cases e : i = j
  · subst e; omega
  · exact (List.pairwise_iff_getElem.mp h.s) i j (by omega) hj (by omega)
theorem Srt.first {gs ss : List Int} (h : Srt gs ss) {m : Int} (hm : Mn gs m) : ss.getD 0 0 = m := by
  have a : ss.getD 0 0 ∈ gs := by rw [← h.m, getD_of (List.getElem?_eq_getElem h.p)]; exact List.getElem_mem _
  have b := hm.2 _ a
  obtain ⟨i, hi, e⟩ := List.mem_iff_getElem.mp ((h.m m).mpr hm.1)
  have c := h.le (Nat.zero_le i) hi
  rw [getD_of (List.getElem?_eq_getElem hi), e] at c
  omega
theorem Srt.last {gs ss : List Int} (h : Srt gs ss) {m : Int} (hm : Mxx gs m) : ss.getD (ss.length - 1) 0 = m := by
  have p := h.p
  have a : ss.getD (ss.length - 1) 0 ∈ gs := by rw [← h.m, getD_of (List.getElem?_eq_getElem (show ss.length - 1 < ss.length by omega))]; exact List.getElem_mem _
  have b := hm.2 _ a
  obtain ⟨i, hi, e⟩ := List.mem_iff_getElem.mp ((h.m m).mpr hm.1)
  have c := h.le (show i ≤ ss.length - 1 by omega) (by omega)
  rw [getD_of (List.getElem?_eq_getElem hi), e] at c
  omega
theorem stS_J {gs ss : List Int} (h : Srt gs ss) {f : Nat → Int} {a b : Int} (ha : Mn gs a) (hb : Mxx gs b) : stS gs ss f = JF gs f a b := by
  have key : ∀ k, k < ss.length → sm k (fun k => (ss.getD (k + 1) 0 - ss.getD k 0) * f (ups gs (ss.getD (k + 1) 0))) = JF gs f (ss.getD 0 0) (ss.getD k 0) := fun k => by
    induction k with
    | zero =>
      intro _
      show 0 = JF gs f _ _
      unfold JF
      rw [Int.sub_self]; rfl
    | succ k ih =>
      intro hk
      have ih := ih (by omega)
      rw [JF_split (h.le (Nat.zero_le k) (by omega)) (h.le (Nat.le_succ k) hk), ← ih]
      show sm k _ + _ = _
      congr 1
      rw [JF_flat (h.le (Nat.le_succ k) hk)]
      rintro g hg ⟨g1, g2⟩
      have g2 : g < ss.getD (k + 1) 0 := g2
      obtain ⟨i, hi, e⟩ := List.mem_iff_getElem.mp ((h.m g).mpr hg)
      have e2 : ss.getD i 0 = g := by rw [getD_of (List.getElem?_eq_getElem hi), e]
      by_cases z : i ≤ k
      · have := h.le z (by omega); omega
      · have := h.le (show k + 1 ≤ i by omega) hi; omega
  have p := h.p
  unfold stS
  rw [key _ (by omega), h.first ha, h.last hb]
theorem cnt_min (z : Int) : ∀ D c : Nat, sm D (fun t => if t < c then z else 0) = ((min c D : Nat) : Int) * z
  | 0, c => by rw [Nat.min_zero]; show 0 = 0 * z; rw [Int.zero_mul]
  | D + 1, c => by
    show sm D _ + (if D < c then z else 0) = _
    rw [cnt_min z D c]
    by_cases h : D < c
    · rw [if_pos h, Nat.min_eq_right (by omega), Nat.min_eq_right (by omega)]; push_cast; grind
    · rw [if_neg h, Nat.min_eq_left (by omega), Nat.min_eq_left (by omega)]; omega
theorem JF_pi {gs : List Int} {z : Nat → Int} {a b : Int} (ha : Mn gs a) (hb : Mxx gs b) : JF gs (piS gs.length z) a b + a * sm gs.length z = sm gs.length fun i => z i * gs.getD i 0 := by
  unfold JF piS
  rw [sm_swap, ← sm_mul, ← sm_add]
  refine sm_congr fun i hi => ?_
  have m : gs.getD i 0 ∈ gs := by rw [getD_of (List.getElem?_eq_getElem hi)]; exact List.getElem_mem _
  have l1 := ha.2 _ m
  have l2 := hb.2 _ m
  have e : sm (b - a).toNat (fun t => if (ups gs (a + 1 + (t : Int))).testBit i = true then z i else 0) = sm (b - a).toNat (fun t => if t < (gs.getD i 0 - a).toNat then z i else 0) := sm_congr fun t _ => by
    by_cases y : t < (gs.getD i 0 - a).toNat
    · rw [if_pos y, if_pos (ups_test.mpr ⟨hi, by omega⟩)]
    · rw [if_neg y, if_neg (fun c => by have := (ups_test.mp c).2; omega)]
  rw [e, cnt_min, Nat.min_eq_left (by omega)]
  have : (((gs.getD i 0 - a).toNat : Nat) : Int) = gs.getD i 0 - a := by omega
  rw [this]
  grind
section
variable {w : Wd} (hw : WOk w)
include hw
theorem WOk.t00 : ∀ i j, i < w.n → j < w.n → 0 ≤ at2 w.t i j := fun i j hi hj => (hw.t0 i j hi hj).1
theorem WOk.c00 : ∀ i j, i < w.n → j < w.n → 0 ≤ at2 w.c i j := fun i j hi hj => (hw.c0 i j hi hj).1
theorem WOk.rf0 : rF w 0 = 0 := lotF_0
theorem WOk.rf1 : rF w (2 ^ w.n - 1) = 0 := lotF_1 (by have := hw.n2; omega)
/-- win less says is rise, lot by lot -/
theorem WOk.wsr {S : Nat} (hS : S < 2 ^ w.n) : rF w S * wB w = rB0 w * (wF w S * wWh w - piS w.n (wNum w) S * wB w) :=
  win_say_rise hw.n4 hw.lk (WOk.t00 hw) (WOk.c00 hw) hw.say.bal lotF_0 (lotF_1 (by have := hw.n2; omega)) (WOk.rf0 hw) (WOk.rf1 hw) (fun S a b => hw.win_eq a b) (fun S a b => hw.rise_eq a b) S hS
theorem WOk.rb0 : 0 < rB0 w := hw.rsv.pos
theorem WOk.rsd0 (S : Nat) : 0 ≤ rsd w S := sm_nonneg fun i hi => sm_nonneg fun j hj => by
  split
  · exact Int.mul_nonneg (WOk.c00 hw i j hi hj) (Int.le_of_lt (hw.say.pos i hi))
  · exact Int.le_refl _
theorem WOk.rnn : ∀ S, S < 2 ^ w.n → 0 ≤ rF w S :=
  min_pr hw.n4 hw.lk (WOk.t00 hw) (WOk.c00 hw) (WOk.rf0 hw) (WOk.rf1 hw) fun S a b => by
    rw [hw.rise_eq a b]
    exact Int.mul_nonneg (Int.le_of_lt (WOk.rb0 hw)) (WOk.rsd0 hw S)
/-- no calls, no rise -/
theorem WOk.rno (h : ¬ ∃ i j, i < w.n ∧ j < w.n ∧ 0 < at2 w.c i j) : ∀ S, S < 2 ^ w.n → rF w S = 0 :=
  lop_uniq hw.n4 hw.lk (WOk.t00 hw) (WOk.c00 hw) (WOk.rf0 hw) (WOk.rf1 hw) fun S a b => by
    rw [hw.rise_eq a b]
    have : rsd w S = 0 := sm_zero fun i hi => sm_zero fun j hj => by
      split
      · have : at2 w.c i j = 0 := by
          have := WOk.c00 hw i j hi hj
          have : ¬ 0 < at2 w.c i j := fun z => h ⟨i, j, hi, hj, z⟩
          omega
        rw [this, Int.zero_mul]
      · rfl
    rw [this, Int.mul_zero]
omit hw in
theorem cnN_len (p : Nat → Bool) (n : Nat) : cnN p n = ((List.range n).filterMap fun j => if p j = true then some j else none).length := by
  induction n with
  | zero => rfl
  | succ n ih =>
    show cnN p n + _ = _
    rw [ih, List.range_succ, List.filterMap_append, List.length_append]
    congr 1
    by_cases h : p n = true <;> simp [h]
omit hw in
theorem near_cn (n : Nat) (M : Mx) (i : Nat) : (nearP n M i).length = cnN (fun j => decide (0 < at2 M i j)) n := by
  rw [cnN_len]
  unfold nearP
  simp only [decide_eq_true_eq]
theorem WOk.line (h : lineT w.n (fun i j => decide (0 < at2 w.t i j)) = true) : LineP w.n w.t := by
  unfold lineT at h
  rw [Bool.and_eq_true, alN_of] at h
  obtain ⟨a, b⟩ := h
  constructor
  · intro i hi
    have z := a i hi
    rw [Bool.and_eq_true, alN_of] at z
    refine ⟨fun j hj => ?_, ?_⟩
    · have hjn := nearP_lt hj
      have y := z.1 j hjn
      obtain ⟨k, hk, e⟩ := List.mem_filterMap.mp hj
      split at e
      · rename_i pos
        cases e
        dsimp only at y
        rw [decide_eq_true pos] at y
        have y : decide (0 < at2 w.t j i) = true := by simpa using y
        have := of_decide_eq_true y
        omega
      · cases e
    · rw [near_cn]
      exact Nat.le_of_ble_eq_true z.2
  · have e : ∀ m, endsP w.n w.t m = cnN (fun i => Nat.beq (cnN (fun j => decide (0 < at2 w.t i j)) w.n) 1) m := fun m => by
      induction m with
      | zero => rfl
      | succ m ih =>
        show endsP w.n w.t m + (if (nearP w.n w.t m).length = 1 then 1 else 0) = cnN _ m + (if Nat.beq (cnN (fun j => decide (0 < at2 w.t m j)) w.n) 1 = true then 1 else 0)
        rw [ih, near_cn]
        congr 1
        by_cases z : cnN (fun j => decide (0 < at2 w.t m j)) w.n = 1
        · rw [if_pos z, z]; rfl
        · rw [if_neg z, if_neg (fun y => z (Nat.eq_of_beq_eq_true y))]
    rw [e]
    exact Nat.eq_of_beq_eq_true b
/-- a call, no line: above 0 -/
theorem WOk.rpos (nl : ¬ LineP w.n w.t) (hc : ∃ i j, i < w.n ∧ j < w.n ∧ 0 < at2 w.c i j) : ∀ S, 0 < S → S < 2 ^ w.n - 1 → 0 < rF w S := by
  obtain ⟨a, b, ha, hb, c⟩ := hc
  have r0 := WOk.rb0 hw
  have lop0 : ∀ S, S < 2 ^ w.n → 0 < S → S < 2 ^ w.n - 1 → 0 ≤ Lop w.n (at2 w.t) (at2 w.c) (rF w) S := fun S _ h0 h1 => by
    rw [hw.rise_eq h0 h1]; exact Int.mul_nonneg (Int.le_of_lt r0) (WOk.rsd0 hw S)
  refine reach_pos (t := fun i j => decide (0 < at2 w.t i j)) (Pos := fun S => 0 < rF w S) hw.n2 hw.n4 (fun i hi => decide_eq_false (by rw [hw.td i hi]; omega)) ?_ (fun S h0 h1 => ?_) ha hb (decide_eq_true (hw.tc a b ha hb c)) (fun S hS ba bb => ?_) (fun i j S hi hj tt hS ne p => ?_)
  · cases z : lineT w.n (fun i j => decide (0 < at2 w.t i j))
    · rfl
    · exact absurd (WOk.line hw z) nl
  · obtain ⟨i0, hi0, b0⟩ := bit_in (show S < 2 ^ w.n by omega) (by omega)
    obtain ⟨j0, hj0, b1⟩ := bit_out (show S < 2 ^ w.n by omega) (by omega)
    obtain ⟨i, j, hi, hj, pi, pj, t⟩ := hw.lk (fun i => S.testBit i) ⟨i0, hi0, b0⟩ ⟨j0, hj0, b1⟩
    exact ⟨i, j, hi, hj, pi, pj, decide_eq_true t⟩
  · have h0 : 0 < S := by
      refine Nat.pos_of_ne_zero fun z => ?_
      rw [z, Nat.zero_testBit] at bb; cases bb
    have h1 : S < 2 ^ w.n - 1 := by
      have : S ≠ 2 ^ w.n - 1 := fun z => by
        rw [z, Nat.testBit_two_pow_sub_one, decide_eq_true ha] at ba; cases ba
      omega
    have sp : 0 < rsd w S := sm_pos (fun i hi => sm_nonneg fun j hj => by
      split
      · exact Int.mul_nonneg (WOk.c00 hw i j hi hj) (Int.le_of_lt (hw.say.pos i hi))
      · exact Int.le_refl _) ha (sm_pos (fun j hj => by
      split
      · exact Int.mul_nonneg (WOk.c00 hw a j ha hj) (Int.le_of_lt (hw.say.pos a ha))
      · exact Int.le_refl _) hb (by rw [if_pos ⟨bb, ba⟩]; exact Int.mul_pos c (hw.say.pos a ha)))
    exact pos_step (WOk.t00 hw) (WOk.c00 hw) (WOk.rnn hw) hS (lop0 S hS h0 h1) (.inl (by rw [hw.rise_eq h0 h1]; exact Int.mul_pos r0 sp))
  · have h0 : 0 < S := by
      refine Nat.pos_of_ne_zero fun z => ?_
      rw [z, Nat.zero_testBit, Nat.zero_testBit] at ne; exact ne rfl
    have h1 : S < 2 ^ w.n - 1 := by
      have : S ≠ 2 ^ w.n - 1 := fun z => by
        rw [z, Nat.testBit_two_pow_sub_one, Nat.testBit_two_pow_sub_one, decide_eq_true hi, decide_eq_true hj] at ne; exact ne rfl
      omega
    exact pos_step (WOk.t00 hw) (WOk.c00 hw) (WOk.rnn hw) hS (lop0 S hS h0 h1) (.inr ⟨i, j, hi, hj, ne, of_decide_eq_true tt, p⟩)
end

end Cy
namespace Cy
open PySem PySem.Spec PyProof.Rows L2 He
local macro_rules | `(tactic| tm_at "ex") => `(tactic| first
  | exact Ex.refl _ | assumption | exact Stp.g (by assumption) | exact Stp.v (by assumption)
  | (refine Ex.trans (Stp.g (by assumption)) ?_; tm_at "ex")
  | (refine Ex.trans (by assumption) ?_; tm_at "ex"))
local macro_rules | `(tactic| tm_at "rl") => `(tactic| first
  | exact rfl | assumption | (apply Mono.up; rotate_left; assumption; tm_at "ex"))
local macro_rules | `(tactic| tm_at "sc") => `(tactic| first | assumption | omega)
local macro_rules | `(tactic| tm_at "ev") => `(tactic| first
  | exact ev_int | exact ev_bl | assumption
  | (apply ev_varI; exact rfl)
  | (apply ev_var; exact rfl; tm_at "rl")
  | (apply ev_I0; tm_at "ev"; tm_at "ev")
  | (apply ev_B0; tm_at "ev"; tm_at "ev")
  | (apply ev_I; tm_at "ev"; tm_at "ev"; tm_at "sc")
  | (apply ev_un; tm_at "ev")
  | (apply ev_eqI; tm_at "ev"; tm_at "ev")
  | (apply ev_neI; tm_at "ev"; tm_at "ev")
  | (apply ev_fstI; tm_at "ev")
  | (apply ev_sndI; tm_at "ev")
  | (apply ev_max2; tm_at "ev"; tm_at "ev")
  | (apply ev_min2; tm_at "ev"; tm_at "ev")
  | (apply ev_abs; tm_at "ev")
  | (apply ev_int1; tm_at "ev")
  | (apply ev_bits; tm_at "ev")
  | (apply ev_gcd; tm_at "ev"; tm_at "ev")
  | (apply ev_len; tm_at "ev")
  | (apply ev_tup2; tm_at "ev"; tm_at "ev"))
local macro_rules | `(tactic| tm_at "ea") => `(tactic| first
  | exact ea_nil
  | (apply ea_consI; tm_at "ev"; tm_at "ea")
  | (apply ea_cons; tm_at "ev"; tm_at "ea"))
local macro_rules | `(tactic| tm_at "et") => `(tactic| first
  | (apply et_test; tm_at "ev")
  | (apply et_B; tm_at "ev")
  | (apply et_not; tm_at "et"))

open Cr
section
variable {K : PySem.W.Frag} {σ : L2.St} {G H : Hp} {te : TE} {ns : List Int} {m : Int} {i : Nat} {u : TS} {D : Ends}
theorem ev_minL (ha : Ev te σ G H (Ls IR) ns) (hm : Mn ns m) : Ev (tCB (rMin K) (tCons te tNil)) σ G H IR m := fun G1 H1 s Q q =>
  ha G1 H1 s _ fun v G2 H2 s2 r => by
    obtain ⟨a, us, rfl, h, p⟩ := r
    obtain rfl := paired_ints p
    refine ⟨a, ns, rfl, SqL.of (s2.v _ _ h), List.length_pos_of_mem hm.1, fun k hk hl => ?_⟩
    have : k = m := by have := hl m hm.1; have := hm.2 k hk; omega
    rw [this]
    exact q _ G2 H2 s2 rfl
theorem ev_maxL (ha : Ev te σ G H (Ls IR) ns) (hm : Mxx ns m) : Ev (tCB (rMax K) (tCons te tNil)) σ G H IR m := fun G1 H1 s Q q =>
  ha G1 H1 s _ fun v G2 H2 s2 r => by
    obtain ⟨a, us, rfl, h, p⟩ := r
    obtain rfl := paired_ints p
    refine ⟨a, ns, rfl, SqL.of (s2.v _ _ h), List.length_pos_of_mem hm.1, fun k hk hl => ?_⟩
    have : k = m := by have := hl m hm.1; have := hm.2 k hk; omega
    rw [this]
    exact q _ G2 H2 s2 rfl
theorem s_sorted (ha : Ev te σ G H (Ls IR) ns) (hz : ns.length < 64) (e : Ex G H) (k : ∀ ns' v G' H', Stp G H G' H' → ns'.Perm ns → ns'.Pairwise (· ≤ ·) → Ls IR G' v ns' → u D (σ.set i (some v)) H') : tSeq (tAsg (tCB (rSorted K) (tCons te tNil)) (gName i)) u D σ H :=
  ha.run e fun v G2 H2 s2 r => by
    obtain ⟨a, us, rfl, h, p⟩ := r
    obtain rfl := paired_ints p
    refine ⟨a, ns, rfl, SqL.of (s2.v _ _ h), hz, fun ns' p hp hw h0 => ?_⟩
    exact k ns' (.ref p) _ _ (s2.trans (Stp.new s2.v h0)) hp hw ⟨p, _, rfl, upd_same, ints_paired _ _⟩
end
theorem lowf_eq {t b t' b' : Int} (hb : b ≠ 0) (hb' : b' ≠ 0) (e : t * b' = t' * b) : lowf t b = lowf t' b' := (lowf_lw t hb).uniq (lowf_lw t' hb') hb hb' e
theorem one_low (x : Int) {b : Int} (hb : b ≠ 0) : (x, 1) = lowf (x * b) b :=
  (show Lw (x, 1) x 1 from ⟨by show (0 : Int) < 1; decide, by show Nat.gcd _ 1 = 1; exact Nat.gcd_one_right _, rfl⟩).uniq (lowf_lw _ hb) (by decide) hb (by omega)
theorem addf_low {t t' b : Int} (hb : b ≠ 0) : addf (lowf t b) (lowf t' b) = lowf (t + t') b :=
  (addf_lw (lowf_lw t hb) (lowf_lw t' hb)).uniq (lowf_lw _ hb) (fun z => by rcases Int.mul_eq_zero.mp z with z | z <;> exact hb z) hb (by grind)
/-- a sum with a part that is not in lowest terms -/
theorem addf_part {t x g b : Int} (hb : b ≠ 0) : addf (lowf t b) ((lowf x b).1 * g, (lowf x b).2) = lowf (t + x * g) b := by
  have a := lowf_lw t hb
  have c := lowf_lw x hb
  unfold addf
  refine lowf_eq (fun z => ?_) hb ?_
  · have := a.pos; have := c.pos
    rcases Int.mul_eq_zero.mp z with z | z
    · omega
    · dsimp only at z; omega
  · dsimp only
    have e1 := a.eq
    have e2 := c.eq
    generalize lowf t b = p at *
    generalize lowf x b = q at *
    grind
abbrev N__law_by_says : List Str := ["_law_says_here", "_law_grades", "_law_total", "_law_place"]
abbrev P__law_by_says : List Str := ["_law_says_here", "_law_grades"]
theorem sc__law_by_says : FnScope N__law_by_says P__law_by_says (defScope s__law_by_says) := ⟨rfl, rfl, rfl, by decide +kernel, rfl, by decide +kernel, by decide +kernel⟩
def bysT (w : Wd) (gs : List Int) (k : Nat) : Int := sm k fun i => sX w.n (at2 w.t) i * gs.getD i 0
def sayL (w : Wd) : List (Int × Int) := (List.range w.n).map fun i => lowf (sX w.n (at2 w.t) i) (sB w.n (at2 w.t))
def GsOk (w : Wd) (gs : List Int) : Prop := gs.length = w.n ∧ ∀ x ∈ gs, pw 50 x
def sp__law_by_says (K : PySem.W.Frag) : Sp := Pu (fun (x : Wd × List Int) vs G => (WOk x.1 ∧ GsOk x.1 x.2) ∧ AC (Ls FR) (sayL x.1) (AC (Ls IR) x.2 A0) vs G) (fun x G u => FR G u (lowf (bysT x.1 x.2 x.1.n) (sB x.1.n (at2 x.1.t))))
theorem len__law_by_says {K : PySem.W.Frag} {vs : List V} {H : Hp} {Q : VK} {E : XK} (h : sp__law_by_says K vs H Q E) : vs.length = P__law_by_says.length := by
  obtain ⟨G, x, e, ⟨_, a⟩, _⟩ := h
  obtain ⟨_, _, rfl, _⟩ := ac2 a; rfl
theorem pw0 (b : Nat) : pw b 0 := by show (0 : Nat) < _; exact Nat.two_pow_pos _
theorem sm_pw {c : Nat} : ∀ (m : Nat) {f : Nat → Int}, m ≤ 8 → (∀ i, i < m → pw c (f i)) → pw (c + 3) (sm m f) := fun m f hm h => by
  have := sm_abs (c := 2 ^ c) m f fun i hi => Nat.le_of_lt (h i hi)
  by_cases z : m = 0
  · subst z; exact pw0 _
  · obtain ⟨k, rfl⟩ : ∃ k, m = k + 1 := ⟨m - 1, by omega⟩
    have a := sm_abs (c := 2 ^ c) k f fun i hi => Nat.le_of_lt (h i (by omega))
    have b := h k (by omega)
    unfold pw at b ⊢
    have e : sm (k + 1) f = sm k f + f k := rfl
    have f1 : k * 2 ^ c ≤ 7 * 2 ^ c := Nat.mul_le_mul_right _ (by omega)
    rw [e, Nat.pow_add]
    omega
theorem WOk.sxb {w : Wd} (hw : WOk w) : (∀ i, i < w.n → pw 130 (sX w.n (at2 w.t) i)) ∧ pw 133 (sB w.n (at2 w.t)) ∧ 0 < sB w.n (at2 w.t) := by
  obtain ⟨bal, tot, pos, px⟩ := sX_eqs hw.n2 hw.n4 hw.lk hw.t0 hw.td
  have b : ∀ i, i < w.n → pw 130 (sX w.n (at2 w.t) i) := fun i hi => Nat.lt_of_le_of_lt (sX_le hw.n2 hw.n4 hw.t0 hi) (Nat.pow_lt_pow_right (by decide) (by decide))
  refine ⟨b, ?_, pos⟩
  rw [← tot]
  exact sm_pw _ (by have := hw.n4; omega) b
theorem GsOk.at_ {w : Wd} {gs : List Int} (h : GsOk w gs) {i : Nat} (hi : i < w.n) : gs[i]? = some (gs.getD i 0) ∧ pw 50 (gs.getD i 0) := by
  have hl : i < gs.length := by rw [h.1]; exact hi
  have e : gs.getD i 0 = gs[i] := getD_of (List.getElem?_eq_getElem hl)
  exact ⟨by rw [e]; exact List.getElem?_eq_getElem hl, by rw [e]; exact h.2 _ (List.getElem_mem hl)⟩
theorem ok__law_by_says {P : Program} {w : World} {K : PySem.W.Frag} {mg : Str → Option Value} {base : Heap} {k : Nat} (T : Tx K mg) (G__law_sum : Ok P w K mg base k "_law_sum" P__law_sum (sp__law_sum K)) : Ok P w K mg base (k + 1) "_law_by_says" P__law_by_says (sp__law_by_says K) := by
  obtain ⟨fd__law_sum, G__law_sum, B__law_sum, K__law_sum⟩ := G__law_sum
  refine ok_of T.d__law_by_says sc__law_by_says (fun _ _ _ _ _ _ us hl => match us, hl with | [_, _], _ => rfl) (fun vs H Q E h => ?_) (fun f cdv A outer s H vs Q E hr h => ?_)
  · exact len__law_by_says h
  · refine ⟨_, (pss_cons (ps_set (i := 2) sc__law_by_says.nd rfl (by first | exact Or.inl rfl | exact Or.inr rfl) (pe_tup (pa_cons pe_int (pa_cons pe_int pa_nil))))
      (pss_cons (ps_for PassesOwn.never rfl (pi_range1 (by rfl) T.f_range (pa_cons (pe_callB call_len_seq (by rfl) T.f_len PySem.boot_len (pa_cons (pv 1) pa_nil)) pa_nil)) (pg_name (i := 3) sc__law_by_says.nd rfl (by first | exact Or.inl rfl | exact Or.inr rfl)) (pss_one (ps_set (i := 2) sc__law_by_says.nd rfl (by first | exact Or.inl rfl | exact Or.inr rfl) (pe_call G__law_sum hr (by rfl) T.g__law_sum K__law_sum B__law_sum .nil pass0 (pa_cons (pv 2) (pa_cons (pe_tup (pa_cons (pe_op op_mulX (pe_ix ix_tup (pe_ix ix_list (pv 0) (pv 3) (fun _ _ => rfl)) pe_int (fun _ _ => rfl)) (pe_ix ix_list (pv 1) (pv 3) (fun _ _ => rfl))) (pa_cons (pe_ix ix_tup (pe_ix ix_list (pv 0) (pv 3) (fun _ _ => rfl)) pe_int (fun _ _ => rfl)) pa_nil))) pa_nil))))))
      (pss_one (ps_ret (pv 2))))), ?_⟩
    obtain ⟨G, ⟨w', gs⟩, e, ⟨⟨hw, hg⟩, hv⟩, q⟩ := h
    dsimp only at hw hg hv q
    obtain ⟨sv, gv, rfl, hs, hgv⟩ := ac2 hv
    have n4 := hw.n4
    obtain ⟨xb, bb, b0⟩ := hw.sxb
    have part : ∀ k, k ≤ w'.n → pw 200 (bysT w' gs k) := fun k hk => pw_mono (sm_pw k (by omega) fun i hi => pw_mul (xb i (by omega)) (hg.at_ (show i < w'.n by omega)).2)
    have low : ∀ {t}, pw 200 t → pwF 4000 (lowf t (sB w'.n (at2 w'.t))) := fun {t} h => ⟨Nat.lt_of_le_of_lt (lowf_bound t _).1 (pw_mono h), Nat.lt_of_le_of_lt (lowf_bound t _).2 (pw_mono bb)⟩
    refine s_set (R := FR) (x := lowf (bysT w' gs 0) (sB w'.n (at2 w'.t))) (Ev.eq (ev_tup2 ev_int ev_int) (by rw [one_low 0 (show sB w'.n (at2 w'.t) ≠ 0 by omega)]; congr 1; show 0 * _ = 0; exact Int.zero_mul _)) e fun v G1 H1 s1 r1 => ?_
    refine s_for (I := fun i σ G' H' => Stp G H G' H' ∧ ∃ tv c3, FR G' tv (lowf (bysT w' gs i) (sB w'.n (at2 w'.t))) ∧ σ = [some sv, some gv, some tv, c3]) (ei_range1 (m := (gs.length : Int)) (ea_consI (ev_lenL (R := IR) (xs := gs) (ev_var rfl (Mono.up s1.g hgv))) ea_nil) (by omega) (by rw [hg.1]; omega)) s1.v ?_ ?_ ?_
    · exact fun G2 H2 s2 => ⟨s1.trans s2, v, none, Mono.up s2.g r1, rfl⟩
    · rintro i x σ Gp Hq G' H' G1' hi e1 e2 ⟨S6, tv, c3, r6, rfl⟩ s7 rfl
      rw [Int.toNat_natCast, hg.1] at hi
      have S7 := S6.trans s7
      have sg : (sayL w')[i]? = some (lowf (sX w'.n (at2 w'.t) i) (sB w'.n (at2 w'.t))) := by
        unfold sayL
        rw [List.getElem?_map, List.getElem?_range hi]; rfl
      obtain ⟨g1, g2⟩ := hg.at_ hi
      have lx : pwF 4000 (lowf (sX w'.n (at2 w'.t) i) (sB w'.n (at2 w'.t))) := low (pw_mono (xb i hi))
      have lx2 : pw 200 (lowf (sX w'.n (at2 w'.t) i) (sB w'.n (at2 w'.t))).1 := Nat.lt_of_le_of_lt (lowf_bound _ _).1 (pw_mono (xb i hi))
      have rd : ∀ {G' H'} {σ : L2.St}, Ex G G' → σ[0]? = some (some sv) → σ[3]? = some (some (.int (i : Int))) → Ev (tOp (rIxL K) (tVar 0) (tVar 3)) σ G' H' FR (lowf (sX w'.n (at2 w'.t) i) (sB w'.n (at2 w'.t))) := fun ex h1 h2 => ev_ixL (R := FR) (n := i) (xs := sayL w') (ev_var h1 (Mono.up ex hs)) (ev_varI h2) rfl sg
      refine s_set1 (R := FR) (x := lowf (bysT w' gs (i + 1)) (sB w'.n (at2 w'.t))) ?_ s7.v fun v G8 H8 s8 r8 => ⟨G8, e2.trans (s7.g.trans s8.g), s8.v, S7.trans s8, v, _, r8, rfl⟩
      refine Ev.eq (ev_call (lowf (bysT w' gs i) (sB w'.n (at2 w'.t)), ((lowf (sX w'.n (at2 w'.t) i) (sB w'.n (at2 w'.t))).1 * gs.getD i 0, (lowf (sX w'.n (at2 w'.t) i) (sB w'.n (at2 w'.t))).2)) (ea_cons (R := FR) (x := lowf (bysT w' gs i) (sB w'.n (at2 w'.t))) (ev_var rfl (Mono.up s7.g r6)) (ea_cons (R := FR) (x := ((lowf (sX w'.n (at2 w'.t) i) (sB w'.n (at2 w'.t))).1 * gs.getD i 0, (lowf (sX w'.n (at2 w'.t) i) (sB w'.n (at2 w'.t))).2)) (ev_tup2 (ev_I (f := fun i j => i * j) (ev_fstI (rd S7.g rfl rfl)) (ev_ixL (R := IR) (n := i) (xs := gs) (ev_var rfl (Mono.up S7.g hgv)) (ev_varI rfl) rfl g1) (mulx lx2 g2)) (ev_sndI (rd S7.g rfl rfl))) ea_nil)) (fun vs G' _ h => ⟨⟨(lowf_lw _ (by omega)).pos, (lowf_lw _ (by omega)).pos, low (part i (by omega)), ⟨pw_mono (pw_mul lx2 g2), lx.2⟩⟩, h⟩) (fun _ _ h => h)) ?_
      exact addf_part (by omega)
    · rintro σ Gp Hq e1 e2 ⟨S6, tv, c3, r6, rfl⟩
      rw [Int.toNat_natCast, hg.1] at r6
      exact s_ret (R := FR) (x := lowf (bysT w' gs w'.n) (sB w'.n (at2 w'.t))) (ev_var rfl r6) S6.v fun u G11 H11 s11 r11 => q u G11 H11 (S6.trans s11) r11
abbrev N__law_by_wins : List Str := ["_law_row", "_law_grades", "_law_total", "_law_steps", "_law_k", "_law_lot", "_law_chance", "_law_place"]
abbrev P__law_by_wins : List Str := ["_law_row", "_law_grades"]
theorem sc__law_by_wins : FnScope N__law_by_wins P__law_by_wins (defScope s__law_by_wins) := ⟨rfl, rfl, rfl, by decide +kernel, rfl, by decide +kernel, by decide +kernel⟩
def bywT (w : Wd) (gs ss : List Int) (m : Int) (k : Nat) : Int := m * wB w + sm k fun k => (ss.getD (k + 1) 0 - ss.getD k 0) * wF w (ups gs (ss.getD (k + 1) 0))
def sp__law_by_wins (K : PySem.W.Frag) : Sp := Pu (fun (x : Wd × List Int) vs G => (WOk x.1 ∧ GsOk x.1 x.2) ∧ AC (Tp FR) (wRow x.1) (AC (Ls IR) x.2 A0) vs G) (fun x G u => ∃ m M, Mn x.2 m ∧ Mxx x.2 M ∧ FR G u (lowf (m * wB x.1 + JF x.2 (wF x.1) m M) (wB x.1)))
theorem len__law_by_wins {K : PySem.W.Frag} {vs : List V} {H : Hp} {Q : VK} {E : XK} (h : sp__law_by_wins K vs H Q E) : vs.length = P__law_by_wins.length := by
  obtain ⟨G, x, e, ⟨_, a⟩, _⟩ := h
  obtain ⟨_, _, rfl, _⟩ := ac2 a; rfl
theorem ok__law_by_wins {P : Program} {w : World} {K : PySem.W.Frag} {mg : Str → Option Value} {base : Heap} {k : Nat} (T : Tx K mg) (G__law_sum : Ok P w K mg base k "_law_sum" P__law_sum (sp__law_sum K)) (G__law_number : Ok P w K mg base k "_law_number" P__law_number (sp__law_number K)) (G__law_low : Ok P w K mg base k "_law_low" P__law_low (sp__law_low K)) : Ok P w K mg base (k + 1) "_law_by_wins" P__law_by_wins (sp__law_by_wins K) := by
  obtain ⟨fd__law_sum, G__law_sum, B__law_sum, K__law_sum⟩ := G__law_sum
  obtain ⟨fd__law_number, G__law_number, B__law_number, K__law_number⟩ := G__law_number
  obtain ⟨fd__law_low, G__law_low, B__law_low, K__law_low⟩ := G__law_low
  refine ok_of T.d__law_by_wins sc__law_by_wins (fun _ _ _ _ _ _ us hl => match us, hl with | [_, _], _ => rfl) (fun vs H Q E h => ?_) (fun f cdv A outer s H vs Q E hr h => ?_)
  · exact len__law_by_wins h
  · refine ⟨_, (pss_cons (ps_set (i := 2) sc__law_by_wins.nd rfl (by first | exact Or.inl rfl | exact Or.inr rfl) (pe_tup (pa_cons (pe_callB (cr_min rfl) (by rfl) T.f_min (by decide +kernel) (pa_cons (pv 1) pa_nil)) (pa_cons pe_int pa_nil))))
      (pss_cons (ps_set (i := 3) sc__law_by_wins.nd rfl (by first | exact Or.inl rfl | exact Or.inr rfl) (pe_callB cr_sorted (by rfl) T.f_sorted (by decide +kernel) (pa_cons (pv 1) pa_nil)))
      (pss_cons (ps_for PassesOwn.never rfl (pi_range2 (by rfl) T.f_range (pa_cons pe_int (pa_cons (pe_callB call_len_seq (by rfl) T.f_len PySem.boot_len (pa_cons (pv 3) pa_nil)) pa_nil))) (pg_name (i := 4) sc__law_by_wins.nd rfl (by first | exact Or.inl rfl | exact Or.inr rfl)) (pss_cons (ps_setLc (i := 5) (own := [("_law_place", 7)]) (g := (gName 7)) (tt := (tTest (tOp qGe (tOp (rIxL K) (tVar 1) (tVar 7)) (tOp (rIxL K) (tVar 3) (tVar 4))))) (te := (tVar 7)) (by rfl) sc__law_by_wins.nd rfl rfl (sw_true rfl rfl rfl (by kernel_rfl)) (pi_range1 (by rfl) T.f_range (pa_cons (pe_callB call_len_seq (by rfl) T.f_len PySem.boot_len (pa_cons (pv 1) pa_nil)) pa_nil)) (blkOk_by (by kernel_rfl)) (fun _ _ _ _ _ => (pg_name (i := 7) sc__law_by_wins.nd rfl (by first | exact Or.inl rfl | exact Or.inr rfl))) (fun _ _ _ _ _ => (pts_one (pt_cmpR op_ge (pe_ix ix_list (pv 1) (pv 7) (fun _ _ => rfl)) (pe_ix ix_list (pv 3) (pv 4) (fun _ _ => rfl)) (nomark _)))) (fun _ _ _ _ _ => (pv 7)))
      (pss_cons (ps_set (i := 6) sc__law_by_wins.nd rfl (by first | exact Or.inl rfl | exact Or.inr rfl) (pe_ix ix_tup (pv 0) (pe_call G__law_number hr (by rfl) T.g__law_number K__law_number B__law_number .nil pass0 (pa_cons (pv 5) pa_nil)) (fun _ _ => rfl)))
      (pss_one (ps_set (i := 2) sc__law_by_wins.nd rfl (by first | exact Or.inl rfl | exact Or.inr rfl) (pe_call G__law_sum hr (by rfl) T.g__law_sum K__law_sum B__law_sum .nil pass0 (pa_cons (pv 2) (pa_cons (pe_call G__law_low hr (by rfl) T.g__law_low K__law_low B__law_low .nil pass0 (pa_cons (pe_op op_mulX (pe_ix ix_tup (pv 6) pe_int (fun _ _ => rfl)) (pe_op op_sub (pe_ix ix_list (pv 3) (pv 4) (fun _ _ => rfl)) (pe_ix ix_list (pv 3) (pe_op op_sub (pv 4) pe_int) (fun _ _ => rfl)))) (pa_cons (pe_ix ix_tup (pv 6) pe_int (fun _ _ => rfl)) pa_nil))) pa_nil))))))))
      (pss_one (ps_ret (pv 2)))))), ?_⟩
    obtain ⟨G, ⟨w', gs⟩, e, ⟨⟨hw, hg⟩, hv⟩, q⟩ := h
    dsimp only at hw hg hv q
    obtain ⟨rv_, gv, rfl, hr, hgv⟩ := ac2 hv
    have n4 := hw.n4
    have n2 := hw.n2
    have gl := hg.1
    obtain ⟨b0, bp⟩ := hw.wb
    obtain ⟨m, hm⟩ := mn_ex (gs := gs) (by omega)
    obtain ⟨M, hM⟩ := mxx_ex (gs := gs) (by omega)
    have pm := hg.2 m hm.1
    refine s_set (R := FR) (x := lowf (m * wB w') (wB w')) (Ev.eq (ev_tup2 (ev_minL (ev_var rfl hgv) hm) ev_int) (one_low m (by omega))) e fun v G1 H1 s1 r1 => ?_
    refine s_sorted (ev_var rfl (Mono.up s1.g hgv)) (by omega) s1.v fun ss sv G2 H2 s2 hp hpw r2 => ?_
    have S2 := s1.trans s2
    have sl : ss.length = w'.n := by rw [hp.length_eq, gl]
    have srt : Srt gs ss := ⟨hpw, fun x => hp.mem_iff, by omega⟩
    have ssg : ∀ k, k < w'.n → ss[k]? = some (ss.getD k 0) ∧ pw 50 (ss.getD k 0) := fun k hk => by
      have hl : k < ss.length := by omega
      have e : ss.getD k 0 = ss[k] := getD_of (List.getElem?_eq_getElem hl)
      exact ⟨by rw [e]; exact List.getElem?_eq_getElem hl, by rw [e]; exact hg.2 _ (hp.mem_iff.mp (List.getElem_mem hl))⟩
    have ul : ∀ h, ups gs h < 2 ^ w'.n := fun h => by rw [← gl]; exact ups_lt _ _
    have tb : ∀ k, k + 1 < w'.n → pw 660 ((ss.getD (k + 1) 0 - ss.getD k 0) * wF w' (ups gs (ss.getD (k + 1) 0))) := fun k hk => pw_mono (pw_mul (pws (ssg (k + 1) hk).2 (ssg k (by omega)).2) (hw.wf (ul _)))
    have pT : ∀ k, k < w'.n → pw 664 (bywT w' gs ss m k) := fun k hk => pw_add (pw_mono (pw_mul pm bp)) (sm_pw k (by omega) fun i hi => tb i (by omega))
    have low : ∀ {t}, pw 664 t → pwF 4000 (lowf t (wB w')) := fun {t} h => ⟨Nat.lt_of_le_of_lt (lowf_bound t _).1 (pw_mono h), Nat.lt_of_le_of_lt (lowf_bound t _).2 (pw_mono bp)⟩
    refine s_for (I := fun i σ G' H' => Stp G H G' H' ∧ ∃ tv c4 c5 c6, FR G' tv (lowf (bywT w' gs ss m i) (wB w')) ∧ σ = [some rv_, some gv, some tv, some sv, c4, c5, c6, none]) (ei_range2 (a := 1) (b := (ss.length : Int)) (ea_consI ev_int (ea_consI (ev_lenL (R := IR) (xs := ss) (ev_var rfl r2)) ea_nil)) ⟨by omega, by omega, by omega, by omega⟩) s2.v ?_ ?_ ?_
    · exact fun G3 H3 s3 => ⟨S2.trans s3, v, none, none, none, by
        have e0 : bywT w' gs ss m 0 = m * wB w' := by show _ + 0 = _; omega
        rw [e0]
        exact Mono.up (s2.g.trans s3.g) r1, rfl⟩
    · rintro k x σ Gp Hq G' H' G1' hk e1 e2 ⟨S6, tv, c4, c5, c6, r6, rfl⟩ s7 ev
      have hk1 : k + 1 < w'.n := by omega
      obtain rfl : x = .int ((k + 1 : Nat) : Int) := by rw [ev]; congr 1; omega
      have S7 := S6.trans s7
      have g7 := e1.trans (e2.trans s7.g)
      obtain ⟨h, hh⟩ : ∃ h, h = ss.getD (k + 1) 0 := ⟨_, rfl⟩
      have sk : ∀ {σ : L2.St} {G' H'} {te : TE} {j : Int} {n : Nat}, Ex G2 G' → σ[3]? = some (some sv) → Ev te σ G' H' IR j → j = (n : Int) → n < w'.n → Ev (tOp (rIxL K) (tVar 3) te) σ G' H' IR (ss.getD n 0) := fun ex h1 h2 h3 h4 => ev_ixL (R := IR) (xs := ss) (ev_var h1 (Mono.up ex r2)) h2 h3 (ssg _ h4).1
      refine s_set (R := Ls NR) (x := (List.range gs.length).filterMap fun i => if h ≤ gs.getD i 0 then some i else none) (ev_lc1 (S := NR) (W := fun i _ v => v = .int (i : Int)) (f := fun i => if h ≤ gs.getD i 0 then some i else none) (ei_range1 (m := (gs.length : Int)) (ea_consI (ev_lenL (R := IR) (xs := gs) (ev_var rfl (Mono.up S7.g hgv))) ea_nil) (by omega) (by omega)) (by omega) (fun i v G8 H8 hi s8 ev => ?_) (fun i v y G8 H8 hi s8 ev hy => ?_)) s7.v fun lo G8 H8 s8 r8 => ?_
      · obtain rfl := ev
        refine EvT.eq (et_test (ev_B0 (f := fun i j => decide (j ≤ i)) (i := gs.getD i 0) (j := h) (ev_ixL (R := IR) (n := i) (xs := gs) (ev_var rfl (Mono.up (S7.g.trans s8.g) hgv)) (ev_varI rfl) rfl (hg.at_ (by omega)).1) (by rw [hh]; exact sk (g7.trans s8.g) rfl (ev_varI rfl) rfl hk1))) ?_
        by_cases z : h ≤ gs.getD i 0
        · rw [if_pos z, decide_eq_true z]; rfl
        · rw [if_neg z, decide_eq_false z]; rfl
      · obtain rfl := ev
        split at hy
        · cases hy; exact ev_var rfl rfl
        · cases hy
      have S8 := S7.trans s8
      refine s_set (R := FR) (x := lowf (wF w' (ups gs h)) (wB w')) (ev_ixT (R := FR) (n := ups gs h) (xs := wRow w') (ev_var rfl (Mono.up S8.g hr)) (ev_call ((List.range gs.length).filterMap fun i => if h ≤ gs.getD i 0 then some i else none) (ea_cons (R := Ls NR) (x := (List.range gs.length).filterMap fun i => if h ≤ gs.getD i 0 then some i else none) (ev_var rfl r8) ea_nil) (fun vs G' _ hv => ⟨⟨?_, fun p hp => ?_⟩, hv⟩) (fun _ _ h => h)) rfl (wRow_get (ul h))) s8.v fun cv G9 H9 s9 r9 => ?_
      · have e : ((List.range gs.length).filterMap fun i => if h ≤ gs.getD i 0 then some i else none) = (List.range gs.length).filter fun i => decide (h ≤ gs.getD i 0) := by
          rw [← filt_fm]
          simp only [decide_eq_true_eq]
        rw [e]
        exact List.Nodup.sublist List.filter_sublist List.nodup_range
      · obtain ⟨j, hj, e⟩ := List.mem_filterMap.mp hp
        split at e
        · cases e
          have := List.mem_range.mp hj
          omega
        · cases e
      have S9 := S8.trans s9
      have cl := lowf_lw (wF w' (ups gs h)) (b := wB w') (by omega)
      have cb := low_pw (hw.wf (ul h)) bp
      have dl := pws (ssg (k + 1) hk1).2 (ssg k (by omega)).2
      rw [← hh] at dl
      refine s_set1 (R := FR) (x := lowf (bywT w' gs ss m (k + 1)) (wB w')) ?_ s9.v fun v G10 H10 s10 r10 => ⟨G10, e2.trans (s7.g.trans (s8.g.trans (s9.g.trans s10.g))), s10.v, S9.trans s10, v, _, _, _, r10, rfl⟩
      have stp : Ev (tCall (sp__law_low K) [] E0 (tCons (tOp qMul (tOp (rIxT K) (tVar 6) (L2.tC (.int 0))) (tOp qSub (tOp (rIxL K) (tVar 3) (tVar 4)) (tOp (rIxL K) (tVar 3) (tOp qSub (tVar 4) (L2.tC (.int 1)))))) (tCons (tOp (rIxT K) (tVar 6) (L2.tC (.int 1))) tNil))) [some rv_, some gv, some tv, some sv, some (.int ((k + 1 : Nat) : Int)), some lo, some cv, none] G9 H9 FR (lowf ((h - ss.getD k 0) * wF w' (ups gs h)) (wB w')) := by
        refine Ev.eq (ev_call ((lowf (wF w' (ups gs h)) (wB w')).1 * (h - ss.getD k 0), (lowf (wF w' (ups gs h)) (wB w')).2) (ea_consI (ev_I (f := fun i j => i * j) (ev_fstI (p := lowf (wF w' (ups gs h)) (wB w')) (ev_var rfl r9)) (ev_I0 (f := fun i j => i - j) (by rw [hh]; exact sk (g7.trans (s8.g.trans s9.g)) rfl (ev_varI rfl) rfl hk1) (sk (n := k) (g7.trans (s8.g.trans s9.g)) rfl (ev_I0 (f := fun i j => i - j) (ev_varI rfl) ev_int) (by omega) (by omega))) (mulx cb.1 dl)) (ea_consI (ev_sndI (p := lowf (wF w' (ups gs h)) (wB w')) (ev_var rfl r9)) ea_nil)) (fun vs G' _ hv => ⟨⟨by have := cl.pos; show (lowf (wF w' (ups gs h)) (wB w')).2 ≠ 0; omega, pw_mono (pw_mul cb.1 dl), pw_mono cb.2⟩, hv⟩) (fun _ _ h => h)) ?_
        refine lowf_eq (by have := cl.pos; dsimp only; omega) (by omega) ?_
        have e := cl.eq
        dsimp only
        generalize lowf (wF w' (ups gs h)) (wB w') = p at *
        grind
      have tb1 := tb k hk1
      rw [← hh] at tb1
      refine Ev.eq (ev_call (lowf (bywT w' gs ss m k) (wB w'), lowf ((h - ss.getD k 0) * wF w' (ups gs h)) (wB w')) (ea_cons (R := FR) (x := lowf (bywT w' gs ss m k) (wB w')) (ev_var rfl (Mono.up (s7.g.trans (s8.g.trans s9.g)) r6)) (ea_cons (R := FR) stp ea_nil)) (fun vs G' _ h => ⟨⟨(lowf_lw _ (by omega)).pos, (lowf_lw _ (by omega)).pos, low (pT k (by omega)), low (pw_mono tb1)⟩, h⟩) (fun _ _ h => h)) ?_
      show addf _ _ = _
      rw [addf_low (by omega), hh]
      congr 1
      exact Int.add_assoc _ _ _
    · rintro σ Gp Hq e1 e2 ⟨S6, tv, c4, c5, c6, r6, rfl⟩
      have e1 : bywT w' gs ss m ((ss.length : Int) - 1).toNat = m * wB w' + JF gs (wF w') m M := by
        rw [← stS_J srt hm hM, show ((ss.length : Int) - 1).toNat = ss.length - 1 by omega]; rfl
      rw [e1] at r6
      exact s_ret (R := FR) (x := lowf (m * wB w' + JF gs (wF w') m M) (wB w')) (ev_var rfl r6) S6.v fun u G11 H11 s11 r11 => q u G11 H11 (S6.trans s11) ⟨m, M, hm, hM, r11⟩

end Cy
namespace Cy
open PySem PySem.Spec PyProof.Rows L2 He
local macro_rules | `(tactic| tm_at "ex") => `(tactic| first
  | exact Ex.refl _ | assumption | exact Stp.g (by assumption) | exact Stp.v (by assumption)
  | (refine Ex.trans (Stp.g (by assumption)) ?_; tm_at "ex")
  | (refine Ex.trans (by assumption) ?_; tm_at "ex"))
local macro_rules | `(tactic| tm_at "rl") => `(tactic| first
  | exact rfl | assumption | (apply Mono.up; rotate_left; assumption; tm_at "ex"))
local macro_rules | `(tactic| tm_at "sc") => `(tactic| first | assumption | omega)
local macro_rules | `(tactic| tm_at "ev") => `(tactic| first
  | exact ev_int | exact ev_bl | assumption
  | (apply ev_varI; exact rfl)
  | (apply ev_var; exact rfl; tm_at "rl")
  | (apply ev_I0; tm_at "ev"; tm_at "ev")
  | (apply ev_B0; tm_at "ev"; tm_at "ev")
  | (apply ev_I; tm_at "ev"; tm_at "ev"; tm_at "sc")
  | (apply ev_un; tm_at "ev")
  | (apply ev_eqI; tm_at "ev"; tm_at "ev")
  | (apply ev_neI; tm_at "ev"; tm_at "ev")
  | (apply ev_fstI; tm_at "ev")
  | (apply ev_sndI; tm_at "ev")
  | (apply ev_max2; tm_at "ev"; tm_at "ev")
  | (apply ev_min2; tm_at "ev"; tm_at "ev")
  | (apply ev_abs; tm_at "ev")
  | (apply ev_int1; tm_at "ev")
  | (apply ev_bits; tm_at "ev")
  | (apply ev_gcd; tm_at "ev"; tm_at "ev")
  | (apply ev_len; tm_at "ev")
  | (apply ev_tup2; tm_at "ev"; tm_at "ev"))
local macro_rules | `(tactic| tm_at "ea") => `(tactic| first
  | exact ea_nil
  | (apply ea_consI; tm_at "ev"; tm_at "ea")
  | (apply ea_cons; tm_at "ev"; tm_at "ea"))
local macro_rules | `(tactic| tm_at "et") => `(tactic| first
  | (apply et_test; tm_at "ev")
  | (apply et_B; tm_at "ev")
  | (apply et_not; tm_at "et"))

open Cr
theorem eqv_2 (a b c d : Int) : PyData.eqv (.tuple [.int a, .int b]) (.tuple [.int c, .int d]) = (decide (a = c) && decide (b = d)) := by
  show (a == c && (b == d && true)) = _
  rw [Bool.and_true]
  rfl
theorem et_neFR {K : PySem.W.Frag} {σ : L2.St} {G H : Hp} {ta tb : TE} {p : Int × Int} (ha : Ev ta σ G H FR p) (hb : Ev tb σ G H FR p) : EvT (tTest (tOp (rNeD K) ta tb)) σ G H false :=
  et_test (ev_op (U := BR) (z := false) ha hb fun G' v w _ r1 r2 G1 H1 eg v1 Q qq => ⟨_, _, dp_fr (Mono.up eg r1) v1, dp_fr (Mono.up eg r2) v1, rfl, rfl, by
    rw [eqv_2, decide_eq_true rfl, decide_eq_true rfl]
    exact qq _ G1 H1 (Stp.refl v1) rfl⟩)
theorem ev_eqFR {K : PySem.W.Frag} {σ : L2.St} {G H : Hp} {ta tb : TE} {p q : Int × Int} (ha : Ev ta σ G H FR p) (hb : Ev tb σ G H FR q) : Ev (tOp (rEqD K) ta tb) σ G H BR (decide (p.1 = q.1) && decide (p.2 = q.2)) :=
  ev_op (U := BR) (z := decide (p.1 = q.1) && decide (p.2 = q.2)) ha hb fun G' v w _ r1 r2 G1 H1 eg v1 Q qq => ⟨_, _, dp_fr (Mono.up eg r1) v1, dp_fr (Mono.up eg r2) v1, rfl, rfl, by
    rw [eqv_2]
    exact qq _ G1 H1 (Stp.refl v1) rfl⟩
theorem et_bool {K : PySem.W.Frag} {σ : L2.St} {G H : Hp} {ta : TE} {b : Bool} (ha : Ev ta σ G H BR b) : EvT (fun σ H Q => ta σ H fun x H' => ∃ k, TruV K x H' k ∧ Q k H') σ G H b := fun G1 H1 s Q q => ha G1 H1 s _ fun v G2 H2 s2 r => by
  obtain rfl : v = .bl b := r
  exact ⟨b, rfl, q G2 H2 s2⟩
theorem lowf_0 {b : Int} (hb : b ≠ 0) : lowf 0 b = (0, 1) := by rw [one_low 0 hb, Int.zero_mul]
theorem neg_lw {p : Int × Int} {t b : Int} (h : Lw p t b) : Lw (-p.1, p.2) (-t) b := ⟨h.pos, by
  show Nat.gcd (-p.1).natAbs _ = 1
  rw [Int.natAbs_neg]; exact h.low, by
  have e := h.eq
  show -p.1 * b = -t * p.2
  grind⟩
theorem WOk.ul {w : Wd} {gs : List Int} (hg : GsOk w gs) (h : Int) : ups gs h < 2 ^ w.n := by rw [← hg.1]; exact ups_lt _ _
/-- what is told is what is due -/
theorem told_due {w : Wd} {gs : List Int} (hw : WOk w) (hg : GsOk w gs) {m M : Int} (hm : Mn gs m) (hM : Mxx gs M) :
    lowf (JF gs (rF w) m M) (rB w) = addf (lowf (m * wB w + JF gs (wF w) m M) (wB w)) (-(lowf (bysT w gs w.n) (sB w.n (at2 w.t))).1, (lowf (bysT w gs w.n) (sB w.n (at2 w.t))).2) := by
  obtain ⟨b0, bp⟩ := hw.wb
  obtain ⟨r0, rp⟩ := hw.rb
  obtain ⟨xb, bb, s0⟩ := hw.sxb
  obtain ⟨bal, tot, pos, px⟩ := sX_eqs hw.n2 hw.n4 hw.lk hw.t0 hw.td
  have n2 := hw.n2
  have mul : ∀ i, i < w.n → wNum w i * (gcdL (sX w.n (at2 w.t)) w.n : Nat) = sX w.n (at2 w.t) i := fun i hi => sNum_mul (by omega) px hi
  have eB : sB w.n (at2 w.t) = wWh w * (gcdL (sX w.n (at2 w.t)) w.n : Nat) := by
    rw [← tot]
    unfold wWh
    rw [← sm_mulr]
    exact sm_congr fun i hi => (mul i hi).symm
  have eT : bysT w gs w.n = (JF gs (piS w.n (wNum w)) m M + m * wWh w) * (gcdL (sX w.n (at2 w.t)) w.n : Nat) := by
    have z := JF_pi (z := wNum w) hm hM
    rw [hg.1] at z
    unfold wWh
    rw [z, ← sm_mulr]
    exact sm_congr fun i hi => by rw [← mul i hi]; grind
  have eJ : JF gs (rF w) m M * wB w = rB0 w * (JF gs (wF w) m M * wWh w - JF gs (piS w.n (wNum w)) m M * wB w) := by
    unfold JF
    rw [← sm_mulr, ← sm_mulr, ← sm_mulr, ← sm_sub, ← sm_mul]
    exact sm_congr fun t _ => WOk.wsr hw (WOk.ul hg _)
  have l1 := lowf_lw (m * wB w + JF gs (wF w) m M) (b := wB w) (by omega)
  have l2 := neg_lw (lowf_lw (bysT w gs w.n) (b := sB w.n (at2 w.t)) (by omega))
  refine (lowf_lw (JF gs (rF w) m M) (b := rB w) (by omega)).uniq (addf_lw l1 l2) (by omega) (fun z => by
    rcases Int.mul_eq_zero.mp z with z | z <;> omega) ?_
  rw [eT, eB]
  unfold rB
  generalize JF gs (rF w) m M = jr at *
  generalize JF gs (wF w) m M = jw at *
  generalize JF gs (piS w.n (wNum w)) m M = jp at *
  generalize ((gcdL (sX w.n (at2 w.t)) w.n : Nat) : Int) = γ at *
  generalize wWh w = Z at *
  generalize wB w = B at *
  generalize rB0 w = b at *
  have : jr * (B * (Z * γ)) = (jr * B) * (Z * γ) := by grind
  rw [this, eJ]
  grind
theorem JF_bound {w : Wd} {gs : List Int} (hw : WOk w) (hg : GsOk w gs) {m M : Int} (hm : Mn gs m) (hM : Mxx gs M) : pw 660 (JF gs (rF w) m M) := by
  have a := hg.2 m hm.1
  have b := hg.2 M hM.1
  have c := sm_abs (c := 2 ^ 600) (M - m).toNat (fun t => rF w (ups gs (m + 1 + (t : Int)))) fun t _ => Nat.le_of_lt (hw.rf (WOk.ul hg _))
  refine Nat.lt_of_le_of_lt c ?_
  unfold pw at a b
  have : (M - m).toNat ≤ 2 ^ 51 := by omega
  exact Nat.lt_of_le_of_lt (Nat.mul_le_mul_right _ this) (by decide +kernel)
abbrev N__law_due : List Str := ["_law_told", "_law_says_here", "_law_row", "_law_grades", "_law_kind", "_law_weight"]
abbrev P__law_due : List Str := ["_law_told", "_law_says_here", "_law_row", "_law_grades", "_law_kind"]
theorem sc__law_due : FnScope N__law_due P__law_due (defScope s__law_due) := ⟨rfl, rfl, rfl, by decide +kernel, rfl, by decide +kernel, by decide +kernel⟩
structure DueIn where
  w : Wd
  gs : List Int
  T : Int
  k0 : Bool
  k1 : Bool
structure DueOk (x : DueIn) : Prop where
  w : WOk x.w
  g : GsOk x.w x.gs
  t : ∀ m M, Mn x.gs m → Mxx x.gs M → x.T = JF x.gs (rF x.w) m M
  k : x.k0 = true ↔ ∃ i j, i < x.w.n ∧ j < x.w.n ∧ 0 < at2 x.w.c i j
  l : x.k1 = true ↔ LineP x.w.n x.w.t
def sp__law_due (K : PySem.W.Frag) : Sp := Pu (fun (x : DueIn) vs G => DueOk x ∧ AC FR (lowf x.T (rB x.w)) (AC (Ls FR) (sayL x.w) (AC (Tp FR) (wRow x.w) (AC (Ls IR) x.gs (AC (L2_ BR BR) (x.k0, x.k1) A0)))) vs G) (fun x G u => BR G u true)
theorem len__law_due {K : PySem.W.Frag} {vs : List V} {H : Hp} {Q : VK} {E : XK} (h : sp__law_due K vs H Q E) : vs.length = P__law_due.length := by
  obtain ⟨G, x, e, ⟨_, a⟩, _⟩ := h
  obtain ⟨_, _, _, _, _, rfl, _⟩ := ac5 a; rfl
theorem ok__law_due {P : Program} {w : World} {K : PySem.W.Frag} {mg : Str → Option Value} {base : Heap} {k : Nat} (T : Tx K mg) (G__law_by_says : Ok P w K mg base k "_law_by_says" P__law_by_says (sp__law_by_says K)) (G__law_right : Ok P w K mg base k "_law_right" P__law_right (sp__law_right K)) (G__law_sum : Ok P w K mg base k "_law_sum" P__law_sum (sp__law_sum K)) (G__law_by_wins : Ok P w K mg base k "_law_by_wins" P__law_by_wins (sp__law_by_wins K)) : Ok P w K mg base (k + 1) "_law_due" P__law_due (sp__law_due K) := by
  obtain ⟨fd__law_by_says, G__law_by_says, B__law_by_says, K__law_by_says⟩ := G__law_by_says
  obtain ⟨fd__law_right, G__law_right, B__law_right, K__law_right⟩ := G__law_right
  obtain ⟨fd__law_sum, G__law_sum, B__law_sum, K__law_sum⟩ := G__law_sum
  obtain ⟨fd__law_by_wins, G__law_by_wins, B__law_by_wins, K__law_by_wins⟩ := G__law_by_wins
  refine ok_of T.d__law_due sc__law_due (fun _ _ _ _ _ _ us hl => match us, hl with | [_, _, _, _, _], _ => rfl) (fun vs H Q E h => ?_) (fun f cdv A outer s H vs Q E hr h => ?_)
  · exact len__law_due h
  · refine ⟨_, (pss_cons (ps_set (i := 5) sc__law_due.nd rfl (by first | exact Or.inl rfl | exact Or.inr rfl) (pe_call G__law_by_says hr (by rfl) T.g__law_by_says K__law_by_says B__law_by_says .nil pass0 (pa_cons (pv 1) (pa_cons (pv 3) pa_nil))))
      (pss_cons (ps_if (PW.pt (pw_or (pt_not (pt_val (pe_call G__law_right hr (by rfl) T.g__law_right K__law_right B__law_right .nil pass0 (pa_cons (pv 0) pa_nil)))) (pw_or1 (pt_cmpR (op_neD hr.units) (pv 0) (pe_call G__law_sum hr (by rfl) T.g__law_sum K__law_sum B__law_sum .nil pass0 (pa_cons (pe_call G__law_by_wins hr (by rfl) T.g__law_by_wins K__law_by_wins B__law_by_wins .nil pass0 (pa_cons (pv 2) (pa_cons (pv 3) pa_nil))) (pa_cons (pe_tup (pa_cons (pe_un un_neg (pe_ix ix_tup (pv 5) pe_int (fun _ _ => rfl))) (pa_cons (pe_ix ix_tup (pv 5) pe_int (fun _ _ => rfl)) pa_nil))) pa_nil))) (nomark _))))) (pss_one (ps_ret pe_bl)) pss_nil)
      (pss_cons (ps_if (PW.pt (pw_or (pt_not (pt_truth (pe_ix ix_list (pv 4) pe_int (fun _ _ => rfl)) (by intro _; rfl))) (pw_or1 (pt_cmpR op_eq (pe_callB (cr_min rfl) (by rfl) T.f_min (by decide +kernel) (pa_cons (pv 3) pa_nil)) (pe_callB (cr_max rfl) (by rfl) T.f_max (by decide +kernel) (pa_cons (pv 3) pa_nil)) (nomark _))))) (pss_one (ps_ret (pe_cmpR (op_eqD hr.units) (pv 0) (pe_tup (pa_cons pe_int (pa_cons pe_int pa_nil))) (nomark _)))) pss_nil)
      (pss_one (ps_ret (pe_or (pe_cmpR op_gt (pe_ix ix_tup (pv 0) pe_int (fun _ _ => rfl)) pe_int (nomark _)) (pe_one (pe_and (pe_ix ix_list (pv 4) pe_int (fun _ _ => rfl)) (pe_one (pe_cmpR op_eq (pe_ix ix_tup (pv 0) pe_int (fun _ _ => rfl)) pe_int (nomark _))))))))))), ?_⟩
    obtain ⟨G, ⟨w', gs, T, k0, k1⟩, e, ⟨⟨hw, hg, hT, hk, hl⟩, hv⟩, q⟩ := h
    dsimp only at hw hg hT hk hl hv q
    obtain ⟨tv, sv, rv_, gv, kv, rfl, ht, hs, hr, hgv, hkv⟩ := ac5 hv
    have n2 := hw.n2
    have gl := hg.1
    obtain ⟨m, hm⟩ := mn_ex (gs := gs) (by omega)
    obtain ⟨M, hM⟩ := mxx_ex (gs := gs) (by omega)
    have eT := hT m M hm hM
    have tp := JF_bound hw hg hm hM
    rw [← eT] at tp
    have due := told_due hw hg hm hM
    rw [← eT] at due
    obtain ⟨b0, bp⟩ := hw.wb
    obtain ⟨r0, rp⟩ := hw.rb
    obtain ⟨xb, bb, s0⟩ := hw.sxb
    have lt := lowf_lw T (b := rB w') (by omega)
    have jnn : 0 ≤ T := by
      rw [eT]
      exact sm_nonneg fun t _ => WOk.rnn hw _ (WOk.ul hg _)
    have t1 : 0 ≤ (lowf T (rB w')).1 := by
      have e := lt.eq
      have := lt.pos
      refine Int.not_lt.mp fun z => ?_
      have a : (lowf T (rB w')).1 * rB w' < 0 := Int.mul_neg_of_neg_of_pos z r0
      have b : 0 ≤ T * (lowf T (rB w')).2 := Int.mul_nonneg jnn (by omega)
      omega
    have pb : pw 200 (bysT w' gs w'.n) := pw_mono (sm_pw w'.n (by have := hw.n4; omega) fun i hi => pw_mul (xb i hi) (hg.at_ hi).2)
    have pbys : pwF 4000 (lowf (bysT w' gs w'.n) (sB w'.n (at2 w'.t))) := ⟨Nat.lt_of_le_of_lt (lowf_bound _ _).1 (pw_mono pb), Nat.lt_of_le_of_lt (lowf_bound _ _).2 (pw_mono bb)⟩
    have wFp : pw 700 (m * wB w' + JF gs (wF w') m M) := by
      have a := hg.2 m hm.1
      have b := hg.2 M hM.1
      have c := sm_abs (c := 2 ^ 600) (M - m).toNat (fun t => wF w' (ups gs (m + 1 + (t : Int)))) fun t _ => Nat.le_of_lt (hw.wf (WOk.ul hg _))
      have d : pw 660 (JF gs (wF w') m M) := by
        refine Nat.lt_of_le_of_lt c ?_
        unfold pw at a b
        have : (M - m).toNat ≤ 2 ^ 51 := by omega
        exact Nat.lt_of_le_of_lt (Nat.mul_le_mul_right _ this) (by decide +kernel)
      exact pw_mono (pw_add (pw_mono (pw_mul a bp)) d)
    have pwin : pwF 4000 (lowf (m * wB w' + JF gs (wF w') m M) (wB w')) := ⟨Nat.lt_of_le_of_lt (lowf_bound _ _).1 (pw_mono wFp), Nat.lt_of_le_of_lt (lowf_bound _ _).2 (pw_mono bp)⟩
    refine s_set (R := FR) (x := lowf (bysT w' gs w'.n) (sB w'.n (at2 w'.t))) (ev_call (w', gs) (ea_cons (R := Ls FR) (x := sayL w') (ev_var rfl hs) (ea_cons (R := Ls IR) (x := gs) (ev_var rfl hgv) ea_nil)) (fun vs G' _ h => ⟨⟨hw, hg⟩, h⟩) (fun _ _ h => h)) e fun wv G1 H1 s1 r1 => ?_
    have told : ∀ {G' H'} {σ : L2.St}, Ex G G' → σ[0]? = some (some tv) → Ev (tVar 0) σ G' H' FR (lowf T (rB w')) := fun ex h => ev_var h (Mono.up ex ht)
    have wins : ∀ {G' H'} {σ : L2.St}, Ex G G' → σ[2]? = some (some rv_) → σ[3]? = some (some gv) → Ev (tCall (sp__law_by_wins K) [] E0 (tCons (tVar 2) (tCons (tVar 3) tNil))) σ G' H' FR (lowf (m * wB w' + JF gs (wF w') m M) (wB w')) := fun ex h1 h2 => ev_call (w', gs) (ea_cons (R := Tp FR) (x := wRow w') (ev_var h1 (Mono.up ex hr)) (ea_cons (R := Ls IR) (x := gs) (ev_var h2 (Mono.up ex hgv)) ea_nil)) (fun vs G' _ h => ⟨⟨hw, hg⟩, h⟩) (fun G' u h => by
      obtain ⟨m', M', hm', hM', r⟩ := h
      have e1 : m' = m := by have := hm'.2 m hm.1; have := hm.2 m' hm'.1; omega
      have e2 : M' = M := by have := hM'.2 M hM.1; have := hM.2 M' hM'.1; omega
      rw [e1, e2] at r; exact r)
    refine s_chk (et_or (b := false) (c := false) (et_not (b := true) (et_B ?_)) fun _ => ?_) s1.v fun G2 H2 s2 => ?_
    · exact ev_call (lowf T (rB w')) (ea_cons (R := FR) (x := lowf T (rB w')) (told s1.g rfl) ea_nil) (fun vs G' _ h => ⟨⟨lt.pos, lt.low, ⟨Nat.lt_of_le_of_lt (lowf_bound _ _).1 (pw_mono tp), Nat.lt_of_le_of_lt (lowf_bound _ _).2 (pw_mono rp)⟩⟩, h⟩) (fun _ _ h => h)
    · refine et_neFR (told s1.g rfl) (Ev.eq (ev_call (lowf (m * wB w' + JF gs (wF w') m M) (wB w'), (-(lowf (bysT w' gs w'.n) (sB w'.n (at2 w'.t))).1, (lowf (bysT w' gs w'.n) (sB w'.n (at2 w'.t))).2)) (ea_cons (R := FR) (wins s1.g rfl rfl) (ea_cons (R := FR) (ev_tup2 (ev_un (f := fun i => -i) (ev_fstI (p := lowf (bysT w' gs w'.n) (sB w'.n (at2 w'.t))) (ev_var rfl r1))) (ev_sndI (p := lowf (bysT w' gs w'.n) (sB w'.n (at2 w'.t))) (ev_var rfl r1))) ea_nil)) (fun vs G' _ h => ⟨⟨(lowf_lw _ (by omega)).pos, (lowf_lw _ (by omega)).pos, pwin, ⟨pw_neg pbys.1, pbys.2⟩⟩, h⟩) (fun _ _ h => h)) due.symm)
    have S2 := s1.trans s2
    have kd : ∀ {G' H'} {σ : L2.St}, Ex G G' → σ[4]? = some (some kv) → Ev (tVar 4) σ G' H' (L2_ BR BR) (k0, k1) := fun ex h => ev_var h (Mono.up ex hkv)
    refine s_ifn (b := !k0 || decide (m = M)) (et_or (b := !k0) (et_not (et_bool (ev_l2a (p := (k0, k1)) (kd S2.g rfl)))) fun _ => et_test (ev_eqI (ev_minL (ev_var rfl (Mono.up S2.g hgv)) hm) (ev_maxL (ev_var rfl (Mono.up S2.g hgv)) hM))) S2.v (fun G3 H3 s3 hb => ?_) (fun G3 H3 s3 hb => ?_)
    · have T0 : T = 0 := by
        rw [Bool.or_eq_true] at hb
        rcases hb with hb | hb
        · have nc : ¬ ∃ i j, i < w'.n ∧ j < w'.n ∧ 0 < at2 w'.c i j := fun z => by rw [hk.mpr z] at hb; cases hb
          rw [eT]
          exact sm_zero fun t _ => WOk.rno hw nc _ (WOk.ul hg _)
        · have := of_decide_eq_true hb
          rw [eT, this]
          unfold JF
          rw [Int.sub_self]; rfl
      refine s_ret (R := BR) (x := true) (Ev.eq (ev_eqFR (told (S2.g.trans s3.g) rfl) (ev_tup2 ev_int ev_int)) ?_) s3.v fun u G4 H4 s4 r4 => q u G4 H4 (S2.trans (s3.trans s4)) r4
      rw [T0, lowf_0 (by omega)]; rfl
    · rw [Bool.or_eq_false_iff] at hb
      obtain ⟨hb1, hb2⟩ := hb
      have k0t : k0 = true := by simpa using hb1
      have mM : m < M := by
        have := hm.2 M hM.1
        have := of_decide_eq_false hb2
        omega
      have g3 := S2.g.trans s3.g
      refine s_ret (R := BR) (x := decide (0 < (lowf T (rB w')).1) || (k1 && decide ((lowf T (rB w')).1 = 0))) (ev_orV (ev_B0 (f := fun i j => decide (j < i)) (ev_fstI (told g3 rfl)) ev_int) fun _ => ev_andV (ev_l2b (p := (k0, k1)) (kd g3 rfl)) fun _ => ev_eqI (ev_fstI (told g3 rfl)) ev_int) s3.v fun u G4 H4 s4 r4 => q u G4 H4 (S2.trans (s3.trans s4)) ?_
      have key : (decide (0 < (lowf T (rB w')).1) || (k1 && decide ((lowf T (rB w')).1 = 0))) = true := by
        by_cases hl1 : k1 = true
        · rw [hl1]
          by_cases z : (lowf T (rB w')).1 = 0
          · rw [decide_eq_true z]; simp
          · rw [decide_eq_true (show 0 < (lowf T (rB w')).1 by omega)]; rfl
        · have nl : ¬ LineP w'.n w'.t := fun z => hl1 (hl.mpr z)
          have pos := WOk.rpos hw nl (hk.mp k0t)
          have Tp : 0 < T := by
            rw [eT]
            refine sm_pos (k := 0) (fun t _ => WOk.rnn hw _ (WOk.ul hg _)) (by omega) ?_
            obtain ⟨i, hi, ei⟩ := List.mem_iff_getElem.mp hm.1
            obtain ⟨j, hj, ej⟩ := List.mem_iff_getElem.mp hM.1
            have di : gs.getD i 0 = m := by rw [getD_of (List.getElem?_eq_getElem hi), ei]
            have dj : gs.getD j 0 = M := by rw [getD_of (List.getElem?_eq_getElem hj), ej]
            have bi : ¬ (ups gs (m + 1 + ((0 : Nat) : Int))).testBit i = true := fun z => by
              have := (ups_test.mp z).2
              omega
            have bj : (ups gs (m + 1 + ((0 : Nat) : Int))).testBit j = true := ups_test.mpr ⟨hj, by omega⟩
            have u := WOk.ul hg (m + 1 + ((0 : Nat) : Int))
            refine pos _ (Nat.pos_of_ne_zero fun z => ?_) ?_
            · rw [z, Nat.zero_testBit] at bj; cases bj
            · have : ups gs (m + 1 + ((0 : Nat) : Int)) ≠ 2 ^ w'.n - 1 := fun z => bi (by
                rw [z, Nat.testBit_two_pow_sub_one, decide_eq_true (by omega)])
              omega
          have e := lt.eq
          have p2 := lt.pos
          have : 0 < (lowf T (rB w')).1 := by
            have ne : (lowf T (rB w')).1 ≠ 0 := fun z => by
              rw [z, Int.zero_mul] at e
              have := Int.mul_pos Tp p2
              omega
            omega
          rw [decide_eq_true this]; rfl
      rw [key] at r4
      exact r4

end Cy
namespace Cy
open PySem PySem.Spec PyProof.Rows L2 He
local macro_rules | `(tactic| tm_at "ex") => `(tactic| first
  | exact Ex.refl _ | assumption | exact Stp.g (by assumption) | exact Stp.v (by assumption)
  | (refine Ex.trans (Stp.g (by assumption)) ?_; tm_at "ex")
  | (refine Ex.trans (by assumption) ?_; tm_at "ex"))
local macro_rules | `(tactic| tm_at "rl") => `(tactic| first
  | exact rfl | assumption | (apply Mono.up; rotate_left; assumption; tm_at "ex"))
local macro_rules | `(tactic| tm_at "sc") => `(tactic| first | assumption | omega)
local macro_rules | `(tactic| tm_at "ev") => `(tactic| first
  | exact ev_int | exact ev_bl | assumption
  | (apply ev_varI; exact rfl)
  | (apply ev_var; exact rfl; tm_at "rl")
  | (apply ev_I0; tm_at "ev"; tm_at "ev")
  | (apply ev_B0; tm_at "ev"; tm_at "ev")
  | (apply ev_I; tm_at "ev"; tm_at "ev"; tm_at "sc")
  | (apply ev_un; tm_at "ev")
  | (apply ev_eqI; tm_at "ev"; tm_at "ev")
  | (apply ev_neI; tm_at "ev"; tm_at "ev")
  | (apply ev_fstI; tm_at "ev")
  | (apply ev_sndI; tm_at "ev")
  | (apply ev_max2; tm_at "ev"; tm_at "ev")
  | (apply ev_min2; tm_at "ev"; tm_at "ev")
  | (apply ev_abs; tm_at "ev")
  | (apply ev_int1; tm_at "ev")
  | (apply ev_bits; tm_at "ev")
  | (apply ev_gcd; tm_at "ev"; tm_at "ev")
  | (apply ev_len; tm_at "ev")
  | (apply ev_tup2; tm_at "ev"; tm_at "ev"))
local macro_rules | `(tactic| tm_at "ea") => `(tactic| first
  | exact ea_nil
  | (apply ea_consI; tm_at "ev"; tm_at "ea")
  | (apply ea_cons; tm_at "ev"; tm_at "ea"))
local macro_rules | `(tactic| tm_at "et") => `(tactic| first
  | (apply et_test; tm_at "ev")
  | (apply et_B; tm_at "ev")
  | (apply et_not; tm_at "et"))

open Cr
theorem passE0 {X : Cx} : Passes (L2.CX X.prog X.w) X E0 := fun _ _ _ _ _ _ _ h => by
  obtain ⟨_, _, _, _, _, _, _, _, _, _, _, _, hE⟩ := h
  exact hE.elim
instance : Mono (fun G v (i : Int) => RfR i G v : Rel Int) := ⟨fun e ⟨a, h1, h2⟩ => ⟨a, h1, e _ _ h2⟩⟩
abbrev RfL : Rel Int := fun G v i => RfR i G v
theorem dp_rf {K : PySem.W.Frag} {G H : Hp} {v : V} {i : Int} (r : RfL G v i) (e : Ex G H) : Dp K H v (.tuple [.str "at", .int i, .bool true]) := by
  obtain ⟨a, rfl, h⟩ := r
  exact .tup (SqT.of (e _ _ h)) (.cons (.str _) (.cons (.int _) (.cons (.bl _) .nil)))
theorem eqv_3 (i j : Int) : PyData.eqv (.tuple [.str "at", .int i, .bool true]) (.tuple [.str "at", .int j, .bool true]) = decide (i = j) := by
  show ((("at" : Str) == "at") && (i == j && (true == true && true))) = _
  rw [show (("at" : Str) == "at") = true by decide, Bool.true_and, show (true == true) = true from rfl, Bool.true_and, Bool.and_true]
  rfl
theorem shaped_rf (i : Int) : SeqAt.shaped (.tuple [.str "at", .int i, .bool true]) = true := by
  rw [show SeqAt.shaped (.tuple [.str "at", .int i, .bool true]) = SeqAt.shaped (.tuple [.str "at", .int 0, .bool true]) from rfl]
  decide +kernel
theorem eqv_ints : ∀ ns : List Int, PyData.eqvAll (ns.map PyData.int) (ns.map PyData.int) = true
  | [] => rfl
  | a :: r => by
    show (a == a && PyData.eqvAll (r.map PyData.int) (r.map PyData.int)) = true
    rw [eqv_ints r, beq_self_eq_true]; rfl
theorem shaped_ints : ∀ {ns : List Int}, ns.length ≤ 4 → SeqAt.shaped (.list (ns.map PyData.int)) = true
  | [], _ => rfl
  | [_], _ => rfl
  | [_, _], _ => rfl
  | [_, _, _], _ => rfl
  | [_, _, _, _], _ => rfl
  | _ :: _ :: _ :: _ :: _ :: _, h => by simp at h
theorem dp_ints {K : PySem.W.Frag} {H : Hp} : ∀ ns : List Int, DpAll K H (ns.map V.int) (ns.map PyData.int)
  | [] => .nil
  | a :: r => .cons (.int a) (dp_ints r)
theorem dp_ls {K : PySem.W.Frag} {G H : Hp} {v : V} {ns : List Int} (r : Ls IR G v ns) (e : Ex G H) : Dp K H v (.list (ns.map PyData.int)) := by
  obtain ⟨a, us, rfl, h, p⟩ := r
  obtain rfl := paired_ints p
  exact .lst (SqL.of (e _ _ h)) (dp_ints ns)
section
variable {K : PySem.W.Frag} {σ : L2.St} {G H : Hp} {ta tb te : TE} {tr : TA} {ns : List Int} {i j : Int} {m k : Nat} {xs : List Nat} {pl : Addr} {p : Nat} {E : XK} {Ts : List String} {Q : VK}
theorem et_neLs (ha : Ev ta σ G H (Ls IR) ns) (hb : Ev tb σ G H (Ls IR) ns) (h4 : ns.length ≤ 4) : EvT (tTest (tOp (rNeD K) ta tb)) σ G H false :=
  et_test (ev_op (U := BR) (z := false) ha hb fun G' v w _ r1 r2 G1 H1 eg v1 Q qq => ⟨_, _, dp_ls (Mono.up eg r1) v1, dp_ls (Mono.up eg r2) v1, shaped_ints h4, shaped_ints h4, by
    rw [show PyData.eqv (.list (ns.map PyData.int)) (.list (ns.map PyData.int)) = PyData.eqvAll (ns.map PyData.int) (ns.map PyData.int) from rfl, eqv_ints]
    exact qq _ G1 H1 (Stp.refl v1) rfl⟩)
theorem et_neRf (ha : Ev ta σ G H RfL i) (hb : Ev tb σ G H RfL i) : EvT (tTest (tOp (rNeD K) ta tb)) σ G H false :=
  et_test (ev_op (U := BR) (z := false) ha hb fun G' v w _ r1 r2 G1 H1 eg v1 Q qq => ⟨_, _, dp_rf (Mono.up eg r1) v1, dp_rf (Mono.up eg r2) v1, shaped_rf i, shaped_rf i, by
    rw [eqv_3, decide_eq_true rfl]
    exact qq _ G1 H1 (Stp.refl v1) rfl⟩)
theorem ev_eqRf (ha : Ev ta σ G H RfL i) (hb : Ev tb σ G H RfL i) : Ev (tOp (rEqD K) ta tb) σ G H BR true :=
  ev_op (U := BR) (z := true) ha hb fun G' v w _ r1 r2 G1 H1 eg v1 Q qq => ⟨_, _, dp_rf (Mono.up eg r1) v1, dp_rf (Mono.up eg r2) v1, shaped_rf i, shaped_rf i, by
    rw [eqv_3, decide_eq_true rfl]
    exact qq _ G1 H1 (Stp.refl v1) rfl⟩
theorem ev_rfT (ha : Ev ta σ G H IR i) : Ev (tTup (tCons (tC (.str "at")) (tCons ta (tCons (tC (.bl true)) tNil)))) σ G H RfL i := fun G1 H1 s Q q =>
  ha G1 H1 s _ fun v G2 H2 s2 r => by
    obtain rfl : v = .int i := r
    exact ⟨by show 3 ≤ sizeLine; decide, fun a h0 => q (.ref a) _ _ (s2.trans (Stp.new s2.v h0)) ⟨a, rfl, upd_same⟩⟩
theorem ls_ints {v : V} (h : Ls IR G v ns) : Ls TR G v (ns.map fun _ => "int") := by
  obtain ⟨a, us, rfl, h, p⟩ := h
  obtain rfl := paired_ints p
  refine ⟨a, _, rfl, h, ?_⟩
  clear h
  induction ns with
  | nil => exact .nil
  | cons x r ih => exact .cons (.int x) (ih (ints_paired _ _))
theorem ev_refused {w : Wd} (hw : WOk w) (ha : Ev ta σ G H (WR K) w) (hb : Ev tb σ G H (Ls TR) Ts) (hl : Ts.length ≤ 1000) (hk : ∀ T ∈ Ts, KnT T) (hB : BadAt Ts w.n i) : Ev (tCall (sp__law_refused K) [] E (tCons ta (tCons tb tNil))) σ G H RfL i := fun G1 H1 s Q q =>
  ha G1 H1 s _ fun u G2 H2 s2 r => hb G2 H2 (s.trans s2) _ fun v G3 H3 s3 r3 => ⟨G3, w, u, v, Ts, i, s3.v, hw, Mono.up s3.g r, r3, hl, hk, rfl, hB, fun r' G' H' s4 rr => q r' G' H' (s2.trans (s3.trans s4)) rr⟩
theorem ev_inN {b : Bool} {i : Nat} (ha : Ev ta σ G H NR i) (hb : Ev tb σ G H (Ls NR) xs) : Ev (tOp (rIn K b) ta tb) σ G H BR (if b then !decide (i ∈ xs) else decide (i ∈ xs)) :=
  ev_op (U := BR) (z := if b then !decide (i ∈ xs) else decide (i ∈ xs)) ha hb fun G' v w _ r1 r2 G1 H1 eg v1 Q qq => by
    obtain rfl : v = .int (i : Int) := r1
    obtain ⟨p, us, rfl, hp, pp⟩ := r2
    obtain rfl := paired_nv pp
    refine ⟨p, nv xs, rfl, .inl (SqL.of (v1 _ _ (eg _ _ hp))), rfl, flat_nv xs, ?_⟩
    rw [inV_nv]
    exact qq _ G1 H1 (Stp.refl v1) rfl
theorem chooseT_run (hl : AL TR σ G H tr Ts) (hz : Ts.length ≤ 100000) (hp : σ[p]? = some (some (.ref pl))) (h : ∀ G' H', Stp G H G' H' → Ev te σ G' H' IR (m : Int)) (hm : 0 < m) (hmx : m ≤ Ts.length) (e : Ex G H) (a : Pl G H pl)
    (q : ∀ (v : V) (T : String) G' H', T ∈ Ts → TyS G' v T → PS pl G H G' H' → Q v H') : tOp (rIxL K) (tLst tr) (tCall (sp__law_pick K) [] E (tCons (tVar p) (tCons te tNil))) σ H Q :=
  (ev_lst hl hz).run e fun v G1 H1 s1 r1 => by
    obtain ⟨b, us, rfl, hb, pr⟩ := r1
    refine pick_run hp (h G1 H1 s1) hm s1.v (a.stp s1) fun k G2 H2 hk ps => ?_
    have PSa := ((a.refl e).stp s1).trans ps
    have hb2 : H2 b = some (.lst us) := ps.x.v _ _ (ps.x.g _ _ hb)
    obtain ⟨x, hx⟩ : ∃ x, us[k]? = some x := ⟨_, List.getElem?_eq_getElem (by rw [paired_len pr]; omega)⟩
    obtain ⟨T, hT, rT⟩ := paired_get2 pr hx
    exact ⟨b, _, (k : Int), x, rfl, rfl, SqL.of hb2, atI_nat hx, q x T G2 H2 (List.mem_of_getElem? hT) (Mono.up ps.eg rT) PSa⟩
end
theorem OL.ps {α : Type} {R : Rel α} [Mono R] {pl a : Addr} {G H G1 H1 : Hp} {xs : List α} (h : OL R G H a xs) (s : PS pl G H G1 H1) (ne : a ≠ pl) : OL R G1 H1 a xs := by
  obtain ⟨g, us, e, r⟩ := h
  exact ⟨s.x.n _ _ e g, us, s.x.h _ _ ne e, paired_imp (fun _ _ => Mono.up s.eg) r⟩
def indL (n : Nat) (l : List Nat) : List Int := (List.range n).map fun i => if decide (i ∈ l) = true then 1 else 0
theorem ind_get {n i : Nat} {l : List Nat} (hi : i < n) : (indL n l)[i]? = some (if i ∈ l then 1 else 0) := by
  unfold indL
  rw [List.getElem?_map, List.getElem?_range hi]
  simp only [decide_eq_true_eq]
  rfl
theorem ind_len {n : Nat} {l : List Nat} : (indL n l).length = n := by unfold indL; rw [List.length_map, List.length_range]
theorem ind_mem {n : Nat} {l : List Nat} {x : Int} (h : x ∈ indL n l) : ∃ i, i < n ∧ x = if i ∈ l then 1 else 0 := by
  obtain ⟨i, hi, e⟩ := (List.mem_iff_getElem.mp h)
  rw [ind_len] at hi
  refine ⟨i, hi, ?_⟩
  have := ind_get (l := l) hi
  rw [List.getElem?_eq_getElem (by rw [ind_len]; exact hi), e] at this
  exact Option.some.inj this
theorem ind_JF {w : Wd} (hw : WOk w) {l : List Nat} (hl : ∀ p ∈ l, p < w.n) {m M : Int} (hm : Mn (indL w.n l) m) (hM : Mxx (indL w.n l) M) : rF w (msk l) = JF (indL w.n l) (rF w) m M := by
  obtain ⟨i, hi, ei⟩ := ind_mem hm.1
  obtain ⟨j, hj, ej⟩ := ind_mem hM.1
  have mem : ∀ k, k < w.n → (if k ∈ l then (1 : Int) else 0) ∈ indL w.n l := fun k hk => List.mem_of_getElem? (ind_get hk)
  by_cases z : m = M
  · have J0 : JF (indL w.n l) (rF w) m M = 0 := by rw [z]; unfold JF; rw [Int.sub_self]; rfl
    rw [J0]
    by_cases y : i ∈ l
    · have all : ∀ k, k < w.n → k ∈ l := fun k hk => by
        have a := hm.2 _ (mem k hk)
        rw [ei, if_pos y] at a
        by_cases x : k ∈ l
        · exact x
        · rw [if_neg x] at a; omega
      have : msk l = 2 ^ w.n - 1 := Nat.eq_of_testBit_eq fun k => by
        rw [msk_test, Nat.testBit_two_pow_sub_one]
        by_cases x : k < w.n
        · rw [decide_eq_true x, decide_eq_true (all k x)]
        · rw [decide_eq_false x, decide_eq_false (fun c => x (hl k c))]
      rw [this]; exact WOk.rf1 hw
    · have none_ : ∀ k, ¬ k ∈ l := fun k x => by
        have a := hM.2 _ (mem k (hl k x))
        rw [← z, ei, if_neg y, if_pos x] at a
        omega
      have : msk l = 0 := Nat.eq_of_testBit_eq fun k => by
        rw [msk_test, Nat.zero_testBit, decide_eq_false (none_ k)]
      rw [this]; exact WOk.rf0 hw
  · have le := hm.2 M hM.1
    have m0 : m = 0 := by rw [ei] at le z ⊢; rw [ej] at le z; split at le <;> split at le <;> simp_all
    have M1 : M = 1 := by rw [ei] at le z; rw [ej] at le z ⊢; split at le <;> split at le <;> simp_all
    rw [m0, M1]
    show rF w (msk l) = 0 + rF w (ups (indL w.n l) (0 + 1 + ((0 : Nat) : Int)))
    rw [Int.zero_add]
    congr 1
    refine Nat.eq_of_testBit_eq fun k => ?_
    have key : (msk l).testBit k = true ↔ (ups (indL w.n l) (0 + 1 + ((0 : Nat) : Int))).testBit k = true := by
      rw [msk_test, decide_eq_true_eq, ups_test, ind_len]
      constructor
      · intro x
        have hk := hl k x
        refine ⟨hk, ?_⟩
        rw [getD_of (ind_get hk), if_pos x]; decide
      · rintro ⟨hk, x⟩
        rw [getD_of (ind_get hk)] at x
        by_cases y : k ∈ l
        · exact y
        · rw [if_neg y] at x; exact absurd x (by decide)
    cases a : (msk l).testBit k <;> cases b : (ups (indL w.n l) (0 + 1 + ((0 : Nat) : Int))).testBit k <;> simp_all
theorem rise_JF {w : Wd} {gs lv : List Int} {m M : Int} (hs : lv.Pairwise (· < ·)) (hmem : ∀ x, x ∈ lv ↔ x ∈ gs) (hm : Mn gs m) (hM : Mxx gs M) : riseT w gs lv = JF gs (rF w) m M :=
  stS_J ⟨hs.imp fun h => Int.le_of_lt h, hmem, List.length_pos_of_mem ((hmem m).mpr hm.1)⟩ hm hM

end Cy
namespace Cy
open PySem PySem.Spec PyProof.Rows L2 He
local macro_rules | `(tactic| tm_at "ex") => `(tactic| first
  | exact Ex.refl _ | assumption | exact Stp.g (by assumption) | exact Stp.v (by assumption)
  | (refine Ex.trans (Stp.g (by assumption)) ?_; tm_at "ex")
  | (refine Ex.trans (by assumption) ?_; tm_at "ex"))
local macro_rules | `(tactic| tm_at "rl") => `(tactic| first
  | exact rfl | assumption | (apply Mono.up; rotate_left; assumption; tm_at "ex"))
local macro_rules | `(tactic| tm_at "sc") => `(tactic| first | assumption | omega)
local macro_rules | `(tactic| tm_at "ev") => `(tactic| first
  | exact ev_int | exact ev_bl | assumption
  | (apply ev_varI; exact rfl)
  | (apply ev_var; exact rfl; tm_at "rl")
  | (apply ev_I0; tm_at "ev"; tm_at "ev")
  | (apply ev_B0; tm_at "ev"; tm_at "ev")
  | (apply ev_I; tm_at "ev"; tm_at "ev"; tm_at "sc")
  | (apply ev_un; tm_at "ev")
  | (apply ev_eqI; tm_at "ev"; tm_at "ev")
  | (apply ev_neI; tm_at "ev"; tm_at "ev")
  | (apply ev_fstI; tm_at "ev")
  | (apply ev_sndI; tm_at "ev")
  | (apply ev_max2; tm_at "ev"; tm_at "ev")
  | (apply ev_min2; tm_at "ev"; tm_at "ev")
  | (apply ev_abs; tm_at "ev")
  | (apply ev_int1; tm_at "ev")
  | (apply ev_bits; tm_at "ev")
  | (apply ev_gcd; tm_at "ev"; tm_at "ev")
  | (apply ev_len; tm_at "ev")
  | (apply ev_tup2; tm_at "ev"; tm_at "ev"))
local macro_rules | `(tactic| tm_at "ea") => `(tactic| first
  | exact ea_nil
  | (apply ea_consI; tm_at "ev"; tm_at "ea")
  | (apply ea_cons; tm_at "ev"; tm_at "ea"))
local macro_rules | `(tactic| tm_at "et") => `(tactic| first
  | (apply et_test; tm_at "ev")
  | (apply et_B; tm_at "ev")
  | (apply et_not; tm_at "et"))

open Cr
abbrev N_law : List Str := ["_law_script", "_law_pool_here", "_law_web_here", "_law_size_here", "_law_calls_here", "_law_kind", "_law_lots_here", "_law_world", "_law_row", "_law_says_here", "_law_turn", "_law_lot", "_law_inside", "_law_grades", "_law_kept", "_law_at", "_law_place"]
abbrev P_law : List Str := ["_law_script"]
theorem sc_law : FnScope N_law P_law (defScope s_law) := ⟨rfl, rfl, rfl, by decide +kernel, rfl, by decide +kernel, by decide +kernel⟩
def sp_law (K : PySem.W.Frag) : Sp := fun vs H Q _ => ∃ (G : Hp) (v : V) (ns : List Int), Ex G H ∧ ScR K G v ns ∧ ns.length ≤ 63 ∧ (∀ z ∈ ns, Builtin.Int.intBits z ≤ 1048576) ∧ vs = [v] ∧ ∀ H', Q (.bl true) H'
theorem web_wd {q : Wq} {C : Mx} (h : WqOk q) (hC : ClOk q C) : WOk ⟨q.n, q.t, C⟩ := ⟨h.n2, h.n4, h.w.s, hC.s, fun i j hi hj => by have := h.w.b i j hi hj; show 0 ≤ at2 q.t i j ∧ at2 q.t i j < 2 ^ 16; omega, hC.b, h.w.d, hC.t, h.l⟩
theorem gset {i : Nat} {v : V} {σ : L2.St} {H : Hp} {Q : L2.St → Hp → Prop} (h : Q (σ.set i (some v)) H) : gName i v σ H Q := h
theorem s_make {C : Addr} {n m i : Nat} {sp : Sp} {gV : List V → List V → List V} {E : XK} {t tk : TA} {u : TS} {D : Ends} {σ : L2.St} {H : Hp} (h : t σ H fun vs H1 => tk σ H1 fun zs H2 => vs.length = n ∧ zs.length = m ∧ ∀ x dx, H2 x = none → H2 dx = none → dx ≠ x →
  sp (gV (.ref x :: vs) zs) (upd (upd H2 dx (.own x)) x (.ins C dx [])) (fun v H3 => v = .non ∧ u D (σ.set i (some (.ref x))) H3) E) : tSeq (tAsg (tMakeK C n m sp gV E t tk) (gName i)) u D σ H := h
theorem s_ifp {tc : TT} {t w : TS} {D : Ends} {σ : L2.St} {H : Hp} (J : Hp → Prop) (K : ∀ H, J H → w D σ H) (h : (∀ H, J H → w D σ H) → tc σ H fun b H' => if b = true then t { D with nx := w D } σ H' else w D σ H') : tSeq (tIfS tc t tNext) w D σ H := h K
theorem s_asgR {te : TE} {g : TG} {u : TS} {D : Ends} {σ : L2.St} {H : Hp} (h : te σ H fun v H1 => g v σ H1 fun σ2 H2 => u D σ2 H2) : tSeq (tAsg te g) u D σ H := h
theorem paired_set {α β : Type} {F : α → β → Prop} : ∀ {l : List α} {l' : List β} {i : Nat} {x : α} {y : β}, Paired F l l' → F x y → Paired F (l.set i x) (l'.set i y)
  | _, _, _, _, _, .nil, _ => .nil
  | _, _, 0, _, _, .cons _ t, h => .cons h t
  | _, _, _ + 1, _, _, .cons a t, h => .cons a (paired_set t h)
theorem ints_ty {G : Hp} : ∀ gs : List Int, Paired (TyS G) (gs.map V.int) (gs.map fun _ => "int")
  | [] => .nil
  | a :: r => .cons (.int a) (ints_ty r)
/-- an object that is not shown changes -/
theorem PS.upd_hid {pl p : Addr} {o : HO} {G H G1 H1 : Hp} (a : PS pl G H G1 H1) (g : G1 p = none) (ne : p ≠ pl) (h : H p = none := by assumption) : PS pl G H G1 (upd H1 p o) := a.mut h g
theorem ties_iff {n : Nat} {C : Mx} : 0 < (tiesP n C n).length ↔ ∃ i j, i < n ∧ j < n ∧ 0 < at2 C i j := by
  constructor
  · intro h
    obtain ⟨p, hp⟩ := List.exists_mem_of_length_pos h
    obtain ⟨i, hi, h2⟩ := List.mem_flatMap.mp hp
    obtain ⟨j, hj, e⟩ := List.mem_filterMap.mp h2
    split at e
    · rename_i c
      exact ⟨i, j, List.mem_range.mp hi, List.mem_range.mp hj, c⟩
    · cases e
  · rintro ⟨i, j, hi, hj, c⟩
    exact List.length_pos_of_mem (List.mem_flatMap.mpr ⟨i, List.mem_range.mpr hi, List.mem_filterMap.mpr ⟨j, List.mem_range.mpr hj, by rw [if_pos c]⟩⟩)
theorem ok_ofF {P : Program} {w : World} {K : PySem.W.Frag} {mg : Str → Option Value} {base : Heap} {x : Str} {st : Stmt} {N ps : List Str} {k : Nat} {sp : Sp} {fd : FuncData} (F : FunD K x x (defArgs st) (defBody st) (defScope st) [] [] (ga K x) fd) (S : FnScope N ps (defScope st))
    (len : ∀ xs J Q E, sp xs J Q E → xs.length = ps.length)
    (hb : ∀ (f : Addr) (cdv : Value) (A : Around) (outer : List Env) (s : Shared) (H : Hp) (vs : List V) (Q : VK) (E : XK), Room k (A.deeper (envOfC x (defScope st) s.heap.objs.size f cdv)) → sp vs H Q E →
      ∃ t, PSs (cxOf CX0 P w K mg base N x (defScope st) f cdv A outer s H E).nox (defBody st) t ∧ t { nx := fun _ H' => Q .non H', rt := Q } (start N vs) H) : FnOk P w K mg base CX0 (k + 1) (ga K x) fd ps sp :=
  F.ok S len fun cdv A outer s H vs Q E hr h => by
    obtain ⟨t, a, b⟩ := hb _ cdv A outer s H vs Q E hr h
    exact ⟨t, a.nox, b⟩
theorem ok_law {P : Program} {w : World} {K : PySem.W.Frag} {mg : Str → Option Value} {base : Heap} {k : Nat} (T : Tx K mg) (G_init : OkInit P w K mg base k) (G__law_pool : Ok P w K mg base (k + 1) "_law_pool" P__law_pool (sp__law_pool K)) (G__law_web : Ok P w K mg base (k + 1) "_law_web" P__law_web (sp__law_web K)) (G__law_calls : Ok P w K mg base (k + 1) "_law_calls" P__law_calls (sp__law_calls K)) (G__law_lots : Ok P w K mg base (k + 1) "_law_lots" P__law_lots (sp__law_lots K)) (G_win_row : Ok P w K mg base (k + 1) "win_row" P_win_row (sp_win_row K)) (G__law_says : Ok P w K mg base (k + 1) "_law_says" P__law_says (sp__law_says K)) (G__law_pick : Ok P w K mg base (k + 1) "_law_pick" P__law_pick (sp__law_pick K)) (G__law_is_line : Ok P w K mg base (k + 1) "_law_is_line" P__law_is_line (sp__law_is_line K)) (G__law_refused : Ok P w K mg base (k + 1) "_law_refused" P__law_refused (sp__law_refused K)) (G__law_row_right : Ok P w K mg base (k + 1) "_law_row_right" P__law_row_right (sp__law_row_right K)) (G__law_win_fits : Ok P w K mg base (k + 1) "_law_win_fits" P__law_win_fits (sp__law_win_fits K)) (G__law_due : Ok P w K mg base (k + 1) "_law_due" P__law_due (sp__law_due K)) (G_call_worth : Ok P w K mg base (k + 1) "call_worth" P_call_worth (sp_call_worth K)) (G__law_called : Ok P w K mg base (k + 1) "_law_called" P__law_called (sp__law_called K)) (G_rise_worth : OkE P w K mg base (k + 1) "rise_worth" P_rise_worth (sp_rise_worth K)) {fd : FuncData} (F : FunD K "law" "law" (defArgs s_law) (defBody s_law) (defScope s_law) [] [] (ga K "law") fd) : FnOk P w K mg base CX0 (k + 1 + 1) (ga K "law") fd P_law (sp_law K) := by
  obtain ⟨fd_init, G_init, B_init⟩ := G_init
  obtain ⟨fd__law_pool, G__law_pool, B__law_pool, K__law_pool⟩ := G__law_pool
  obtain ⟨fd__law_web, G__law_web, B__law_web, K__law_web⟩ := G__law_web
  obtain ⟨fd__law_calls, G__law_calls, B__law_calls, K__law_calls⟩ := G__law_calls
  obtain ⟨fd__law_lots, G__law_lots, B__law_lots, K__law_lots⟩ := G__law_lots
  obtain ⟨fd_win_row, G_win_row, B_win_row, K_win_row⟩ := G_win_row
  obtain ⟨fd__law_says, G__law_says, B__law_says, K__law_says⟩ := G__law_says
  obtain ⟨fd__law_pick, G__law_pick, B__law_pick, K__law_pick⟩ := G__law_pick
  obtain ⟨fd__law_is_line, G__law_is_line, B__law_is_line, K__law_is_line⟩ := G__law_is_line
  obtain ⟨fd__law_refused, G__law_refused, B__law_refused, K__law_refused⟩ := G__law_refused
  obtain ⟨fd__law_row_right, G__law_row_right, B__law_row_right, K__law_row_right⟩ := G__law_row_right
  obtain ⟨fd__law_win_fits, G__law_win_fits, B__law_win_fits, K__law_win_fits⟩ := G__law_win_fits
  obtain ⟨fd__law_due, G__law_due, B__law_due, K__law_due⟩ := G__law_due
  obtain ⟨fd_call_worth, G_call_worth, B_call_worth, K_call_worth⟩ := G_call_worth
  obtain ⟨fd__law_called, G__law_called, B__law_called, K__law_called⟩ := G__law_called
  obtain ⟨fd_rise_worth, G_rise_worth, B_rise_worth, K_rise_worth⟩ := G_rise_worth
  refine ok_ofF F sc_law (fun vs H Q E h => ?_) (fun f cdv A outer s H vs Q E hr h => ?_)
  · obtain ⟨_, _, _, _, _, _, _, rfl, _⟩ := h; rfl
  · refine ⟨_, (pss_cons (ps_set (i := 1) sc_law.nd rfl (by first | exact Or.inl rfl | exact Or.inr rfl) (pe_call G__law_pool hr (by rfl) T.g__law_pool K__law_pool B__law_pool .nil pass0 (pa_cons (pv 0) pa_nil)))
      (pss_cons (ps_set (i := 2) sc_law.nd rfl (by first | exact Or.inl rfl | exact Or.inr rfl) (pe_call G__law_web hr (by rfl) T.g__law_web K__law_web B__law_web .nil pass0 (pa_cons (pv 1) (pa_cons pe_int pa_nil))))
      (pss_cons (ps_set (i := 3) sc_law.nd rfl (by first | exact Or.inl rfl | exact Or.inr rfl) (pe_ix ix_list (pv 2) pe_int (fun _ _ => rfl)))
      (pss_cons (ps_set (i := 4) sc_law.nd rfl (by first | exact Or.inl rfl | exact Or.inr rfl) (pe_call G__law_calls hr (by rfl) T.g__law_calls K__law_calls B__law_calls .nil pass0 (pa_cons (pv 1) (pa_cons (pv 2) pa_nil))))
      (pss_cons (ps_set (i := 5) sc_law.nd rfl (by first | exact Or.inl rfl | exact Or.inr rfl) (pe_lst (pa_cons (pe_cmpR op_gt (pe_callB call_len_seq (by rfl) T.f_len PySem.boot_len (pa_cons (pe_call G__law_called hr (by rfl) T.g__law_called K__law_called B__law_called .nil pass0 (pa_cons (pv 3) (pa_cons (pv 4) pa_nil))) pa_nil)) pe_int (nomark _)) (pa_cons (pe_call G__law_is_line hr (by rfl) T.g__law_is_line K__law_is_line B__law_is_line .nil pass0 (pa_cons (pv 3) (pa_cons (pe_ix ix_list (pv 2) pe_int (fun _ _ => rfl)) pa_nil))) pa_nil))))
      (pss_cons (ps_set (i := 6) sc_law.nd rfl (by first | exact Or.inl rfl | exact Or.inr rfl) (pe_call G__law_lots hr (by rfl) T.g__law_lots K__law_lots B__law_lots .nil pass0 (pa_cons (pv 3) pa_nil)))
      (pss_cons (ps_set (i := 7) sc_law.nd rfl (by first | exact Or.inl rfl | exact Or.inr rfl) (pe_makeK T.mkr G_init hr (by rfl) T.g_World B_init pass0 (pa_cons (pe_ix ix_list (pv 2) pe_int (fun _ _ => rfl)) pa_nil) (pk_cons (pv 4) pk_nil)))
      (pss_cons (ps_set (i := 8) sc_law.nd rfl (by first | exact Or.inl rfl | exact Or.inr rfl) (pe_call G_win_row hr (by rfl) T.g_win_row K_win_row B_win_row .nil pass0 (pa_cons (pv 7) pa_nil)))
      (pss_cons (ps_if (PW.pt (pw_or (pt_not (pt_val (pe_call G__law_row_right hr (by rfl) T.g__law_row_right K__law_row_right B__law_row_right .nil pass0 (pa_cons (pv 8) (pa_cons (pe_callB call_len_seq (by rfl) T.f_len PySem.boot_len (pa_cons (pv 6) pa_nil)) pa_nil))))) (pw_or1 (pt_not (pt_val (pe_call G__law_win_fits hr (by rfl) T.g__law_win_fits K__law_win_fits B__law_win_fits .nil pass0 (pa_cons (pv 3) (pa_cons (pe_ix ix_list (pv 2) pe_int (fun _ _ => rfl)) (pa_cons (pv 4) (pa_cons (pv 8) pa_nil)))))))))) (pss_one (ps_ret pe_bl)) pss_nil)
      (pss_cons (ps_set (i := 9) sc_law.nd rfl (by first | exact Or.inl rfl | exact Or.inr rfl) (pe_call G__law_says hr (by rfl) T.g__law_says K__law_says B__law_says .nil pass0 (pa_cons (pv 3) (pa_cons (pe_ix ix_list (pv 2) pe_int (fun _ _ => rfl)) pa_nil))))
      (pss_cons (ps_for PassesOwn.never rfl (pi_range1 (by rfl) T.f_range (pa_cons pe_int pa_nil)) (pg_name (i := 10) sc_law.nd rfl (by first | exact Or.inl rfl | exact Or.inr rfl)) (pss_cons (ps_set (i := 11) sc_law.nd rfl (by first | exact Or.inl rfl | exact Or.inr rfl) (pe_ix ix_list (pv 6) (pe_op op_mod (pe_callTy call_int1 (by rfl) T.f_int (by decide +kernel) (pa_cons (pe_call G__law_pick hr (by rfl) T.g__law_pick K__law_pick B__law_pick .nil pass0 (pa_cons (pv 1) (pa_cons pe_int pa_nil))) pa_nil)) (pe_callB call_len_seq (by rfl) T.f_len PySem.boot_len (pa_cons (pv 6) pa_nil))) (fun _ _ => rfl)))
      (pss_cons (ps_setLc (i := 12) (own := [("_law_place", 16)]) (g := (gName 16)) (tt := tYes) (te := (tCB qInt (tCons (tOp (rIn K false) (tVar 16) (tVar 11)) tNil))) (by rfl) sc_law.nd rfl rfl (sw_true rfl rfl rfl (by kernel_rfl)) (pi_range1 (by rfl) T.f_range (pa_cons (pv 3) pa_nil)) (blkOk_by (by kernel_rfl)) (fun _ _ _ _ _ => (pg_name (i := 16) sc_law.nd rfl (by first | exact Or.inl rfl | exact Or.inr rfl))) (fun _ _ _ _ _ => pts_nil) (fun _ _ _ _ _ => (pe_callTy call_int1 (by rfl) T.f_int (by decide +kernel) (pa_cons (pe_cmpR op_in_seq (pv 16) (pv 11) (by rfl)) pa_nil))))
      (pss_one (ps_if (pt_not (pt_val (pe_call G__law_due hr (by rfl) T.g__law_due K__law_due B__law_due .nil pass0 (pa_cons (pe_call G_call_worth hr (by rfl) T.g_call_worth K_call_worth B_call_worth .nil pass0 (pa_cons (pv 7) (pa_cons (pe_revL (pv 11)) pa_nil))) (pa_cons (pv 9) (pa_cons (pv 8) (pa_cons (pv 12) (pa_cons (pv 5) pa_nil)))))))) (pss_one (ps_ret pe_bl)) pss_nil)))))
      (pss_cons (ps_setLc (i := 13) (own := [("_law_place", 16)]) (g := (gName 16)) (tt := tYes) (te := (tOp qSub (tCall (sp__law_pick K) [] E0 (tCons (tVar 1) (tCons (tC (.int 10)) tNil))) (tOp qMul (tC (.int 2)) (tCall (sp__law_pick K) [] E0 (tCons (tVar 1) (tCons (tC (.int 2)) tNil)))))) (by rfl) sc_law.nd rfl rfl (sw_true rfl rfl rfl (by kernel_rfl)) (pi_range1 (by rfl) T.f_range (pa_cons (pv 3) pa_nil)) (blkOk_by (by kernel_rfl)) (fun _ _ _ _ _ => (pg_name (i := 16) sc_law.nd rfl (by first | exact Or.inl rfl | exact Or.inr rfl))) (fun _ _ _ _ _ => pts_nil) (fun _ _ _ _ _ => (pe_op op_sub (pe_call G__law_pick hr (by rfl) T.g__law_pick K__law_pick B__law_pick .nil pass0 (pa_cons (pv 1) (pa_cons pe_int pa_nil))) (pe_op op_mulX pe_int (pe_call G__law_pick hr (by rfl) T.g__law_pick K__law_pick B__law_pick .nil pass0 (pa_cons (pv 1) (pa_cons pe_int pa_nil)))))))
      (pss_cons (ps_if (pt_cmpR op_eq (pe_call G__law_pick hr (by rfl) T.g__law_pick K__law_pick B__law_pick .nil pass0 (pa_cons (pv 1) (pa_cons pe_int pa_nil))) pe_int (nomark _)) (pss_one (ps_asg (pe_op op_pow pe_int pe_int) (pg_sub (pv 13) (pe_call G__law_pick hr (by rfl) T.g__law_pick K__law_pick B__law_pick .nil pass0 (pa_cons (pv 1) (pa_cons (pv 3) pa_nil))) set_list))) pss_nil)
      (pss_cons (ps_set (i := 14) sc_law.nd rfl (by first | exact Or.inl rfl | exact Or.inr rfl) (pe_callTy call_list_of (by rfl) T.f_list (by decide +kernel) (pa_cons (pv 13) pa_nil)))
      (pss_cons (ps_if (PW.pt (pw_or (pt_not (pt_val (pe_call G__law_due hr (by rfl) T.g__law_due K__law_due B__law_due .nil pass0 (pa_cons (pe_call G_rise_worth hr (by rfl) T.g_rise_worth K_rise_worth B_rise_worth .nil passE0 (pa_cons (pv 7) (pa_cons (pv 13) pa_nil))) (pa_cons (pv 9) (pa_cons (pv 8) (pa_cons (pv 13) (pa_cons (pv 5) pa_nil)))))))) (pw_or1 (pt_cmpR (op_neD hr.units) (pv 13) (pv 14) (nomark _))))) (pss_one (ps_ret pe_bl)) pss_nil)
      (pss_cons (ps_if (PW.pt (pw_or (pt_cmpR (op_neD hr.units) (pe_call G_call_worth hr (by rfl) T.g_call_worth K_call_worth B_call_worth .nil pass0 (pa_cons (pv 7) (pa_cons (pe_tup pa_nil) pa_nil))) (pe_tup (pa_cons pe_int (pa_cons pe_int pa_nil))) (nomark _)) (pw_or1 (pt_cmpR (op_neD hr.units) (pe_call G__law_refused hr (by rfl) T.g__law_refused K__law_refused B__law_refused .nil pass0 (pa_cons (pv 7) (pa_cons (pe_slice sl_list (pv 13) (po_some pe_int) po_none) pa_nil))) (pe_tup (pa_cons pe_str (pa_cons (pe_un un_neg pe_int) (pa_cons pe_bl pa_nil)))) (nomark _))))) (pss_one (ps_ret pe_bl)) pss_nil)
      (pss_cons (ps_set (i := 15) sc_law.nd rfl (by first | exact Or.inl rfl | exact Or.inr rfl) (pe_call G__law_pick hr (by rfl) T.g__law_pick K__law_pick B__law_pick .nil pass0 (pa_cons (pv 1) (pa_cons (pv 3) pa_nil))))
      (pss_cons (ps_asg (pe_ix ix_list (pe_lst (pa_cons pe_bl (pa_cons pe_non (pa_cons (pe_tup (pa_cons pe_int (pa_cons pe_int pa_nil))) (pa_cons pe_str pa_nil))))) (pe_call G__law_pick hr (by rfl) T.g__law_pick K__law_pick B__law_pick .nil pass0 (pa_cons (pv 1) (pa_cons pe_int pa_nil))) (fun _ _ => rfl)) (pg_sub (pv 13) (pv 15) set_list))
      (pss_one (ps_ret (pe_cmpR (op_eqD hr.units) (pe_call G__law_refused hr (by rfl) T.g__law_refused K__law_refused B__law_refused .nil pass0 (pa_cons (pv 7) (pa_cons (pv 13) pa_nil))) (pe_tup (pa_cons pe_str (pa_cons (pv 15) (pa_cons pe_bl pa_nil)))) (nomark _)))))))))))))))))))))), ?_⟩
    obtain ⟨G0, v0, ns, e0, hv0, hl0, hz0, rfl, fin⟩ := h
    refine s_setCall (A := AC (ScR K) ns A0) (ea_cons (ev_var rfl hv0) ea_nil) e0 fun vs G1 H1 s1 a1 => ?_
    obtain ⟨v1, rfl, rv1⟩ := ac1 a1
    refine ⟨G1, v1, ns, s1.v, rv1, hl0, hz0, rfl, fun pl G H s2 hp => ?_⟩
    have e := s2.v
    have P0 := hp.refl e
    -- the web
    refine ⟨_, rfl, G, pl, e, hp, rfl, fun wv q G3 H3 hq p3 rw3 => ?_⟩
    refine gset ?_
    dsimp only
    have P3 := P0.trans p3
    refine s_set (R := IR) (x := (q.n : Int)) (ev_wq0 rfl rw3) P3.e fun x G4 H4 s4 r4 => ?_
    obtain rfl := r4
    have P4 := P3.stp s4
    have rw4 := Mono.up s4.g rw3
    -- the calls
    refine ⟨_, rfl, _, rfl, G4, pl, q, wv, P4.e, Pl.ps P4, hq, rw4, rfl, fun cv C G5 H5 hC p5 rc5 => ?_⟩
    refine gset ?_
    dsimp only
    have P5 := P4.trans p5
    have rw5 := Mono.up p5.eg rw4
    have hw := web_wd hq hC
    obtain ⟨w', hw'⟩ : ∃ w' : Wd, w' = ⟨q.n, q.t, C⟩ := ⟨_, rfl⟩
    rw [← hw'] at hw
    have en : w'.n = q.n := by rw [hw']
    have et : w'.t = q.t := by rw [hw']
    have ec : w'.c = C := by rw [hw']
    have n2 := hw.n2
    have n4 := hw.n4
    have p16 := pow4 n4
    have p4 : 2 ^ 2 ≤ 2 ^ w'.n := Nat.pow_le_pow_right (by decide) n2
    rw [← en]
    rw [← ec] at rc5
    obtain ⟨k1, hk1⟩ : ∃ k1 : Bool, k1 = true ↔ LineP w'.n w'.t := by
      by_cases z : LineP w'.n w'.t
      · exact ⟨true, by simp [z]⟩
      · exact ⟨false, by simp [z]⟩
    have tk : ∀ {σ : L2.St} {G' H'}, Ex G5 G' → σ[2]? = some (some wv) → Ev (tOp (rIxL K) (tVar 2) (L2.tC (.int 1))) σ G' H' MxL w'.t := fun ex h => by rw [et]; exact ev_wq1 h (Mono.up ex rw5)
    -- what kind
    have hk0 : decide (0 < ((tiesP w'.n w'.c w'.n).length : Int)) = true ↔ ∃ i j, i < w'.n ∧ j < w'.n ∧ 0 < at2 w'.c i j := by
      rw [decide_eq_true_eq, ← ties_iff]
      omega
    obtain ⟨k0, ek0⟩ : ∃ k0, k0 = decide (0 < ((tiesP w'.n w'.c w'.n).length : Int)) := ⟨_, rfl⟩
    rw [← ek0] at hk0
    refine s_set (R := L2_ BR BR) (x := (k0, k1)) (ev_lst2 ?_ ?_) P5.e fun kv G6 H6 s6 r6 => ?_
    · rw [ek0]
      exact ev_B0 (f := fun i j => decide (j < i)) (ev_lenL (R := FR) (xs := tiesP w'.n w'.c w'.n) (ev_call (w'.n, w'.c) (ea_consI (ev_varI rfl) (ea_cons (R := MxL) (x := w'.c) (ev_var rfl rc5) ea_nil)) (fun vs G' _ h => ⟨⟨n4, hw.sc⟩, h⟩) (fun _ _ h => h))) ev_int
    · refine ev_call (w'.n, w'.t) (ea_consI (ev_varI rfl) (ea_cons (R := MxL) (x := w'.t) (tk (Ex.refl _) rfl) ea_nil)) (fun vs G' _ h => ⟨⟨n4, hw.st⟩, h⟩) (fun G' u h => ?_)
      obtain ⟨b, rb, hb⟩ := h
      have : b = k1 := by
        have := hb.trans hk1.symm
        cases b <;> cases k1 <;> simp_all
      rw [← this]; exact rb
    have P6 := P5.stp s6
    refine s_set (R := Ls (Ls NR)) (x := lotsP w'.n) (ev_call w'.n (ea_consI (ev_varI rfl) ea_nil) (fun vs G' _ h => ⟨n4, h⟩) (fun _ _ h => h)) P6.e fun lv G7 H7 s7 r7 => ?_
    have P7 := P6.stp s7
    have g57 := s6.g.trans s7.g
    -- the world
    refine s_make (ea_run (A := AC MxL w'.t A0) (ea_cons (R := MxL) (x := w'.t) (tk g57 rfl) ea_nil) P7.e fun vs G8 H8 s8 a8 => ?_)
    obtain ⟨tkv, rfl, rt8⟩ := ac1 a8
    refine ⟨cv, rfl, rfl, rfl, fun x dx hx hdx ne => ⟨G8, H8, w', x, dx, tkv, cv, s8.v, hx, hdx, ne, rfl, rfl, hw, rt8, Mono.up (g57.trans s8.g) rc5, fun G9 H9 s9 rw9 => ⟨rfl, ?_⟩⟩⟩
    have P9 := P7.stp (s8.trans s9)
    refine s_set (R := Tp FR) (x := wRow w') (ev_call w' (ea_cons (R := WR K) (ev_var rfl rw9) ea_nil) (fun vs G' _ h => ⟨hw, h⟩) (fun _ _ h => h)) P9.e fun rv G10 H10 s10 r10 => ?_
    have P10 := P9.stp s10
    have g510 := g57.trans (s8.g.trans (s9.g.trans s10.g))
    have b0 := hw.wb
    refine s_chk (et_or (b := false) (c := false) (et_not (b := true) (et_B ?_)) fun _ => et_not (b := true) (et_B ?_)) P10.e fun G11 H11 s11 => ?_
    · refine ev_call (wRow w') (ea_cons (R := Tp FR) (x := wRow w') (ev_var rfl r10) (ea_consI (i := ((wRow w').length : Int)) ((ev_lenL (R := Ls NR) (xs := lotsP w'.n) (ev_var rfl (Mono.up (s8.g.trans (s9.g.trans s10.g)) r7))).eq (by rw [lotsP_len, wRow_len])) ea_nil)) (fun vs G' _ h => ⟨⟨by rw [wRow_len]; omega, fun p hp => ?_⟩, h⟩) (fun _ _ h => h)
      obtain ⟨S, hS, rfl⟩ := wRow_mem hp
      have l := lowf_lw (wF w' S) (b := wB w') (by omega)
      have lp := low_pw (hw.wf hS) b0.2
      exact ⟨l.pos, l.low, pw_mono lp.1, pw_mono lp.2⟩
    · exact ev_call w' (ea_consI (ev_varI rfl) (ea_cons (R := MxL) (x := w'.t) (tk g510 rfl) (ea_cons (R := MxL) (x := w'.c) (ev_var rfl (Mono.up g510 rc5)) (ea_cons (R := Tp FR) (x := wRow w') (ev_var rfl r10) ea_nil)))) (fun vs G' _ h => ⟨hw, h⟩) (fun _ _ h => h)
    have P11 := P10.stp s11
    have g511 := g510.trans s11.g
    refine s_set (R := Ls FR) (x := sayL w') (ev_call w' (ea_consI (ev_varI rfl) (ea_cons (R := MxL) (x := w'.t) (tk g511 rfl) ea_nil)) (fun vs G' _ h => ⟨hw, h⟩) (fun _ _ h => h)) P11.e fun sv G12 H12 s12 r12 => ?_
    have P12 := P11.stp s12
    -- all that stands
    have W12 : WR K G12 (.ref x) w' := Mono.up (s10.g.trans (s11.g.trans s12.g)) rw9
    have R12 : Tp FR G12 rv (wRow w') := Mono.up (s11.g.trans s12.g) r10
    have K12 : L2_ BR BR G12 kv (k0, k1) := Mono.up (s7.g.trans (s8.g.trans (s9.g.trans (s10.g.trans (s11.g.trans s12.g))))) r6
    have L12 : Ls (Ls NR) G12 lv (lotsP w'.n) := Mono.up (s8.g.trans (s9.g.trans (s10.g.trans (s11.g.trans s12.g)))) r7
    clear P0 P3 P4 P5 P6 P7 P9 P10 P11
    have duef : ∀ {σ : L2.St} {G' H'} {tt tg : TE} {gs : List Int} {Tn : Int}, Ex G12 G' → σ[9]? = some (some sv) → σ[8]? = some (some rv) → σ[5]? = some (some kv) → Ev tt σ G' H' FR (lowf Tn (rB w')) → Ev tg σ G' H' (Ls IR) gs → GsOk w' gs → (∀ m M, Mn gs m → Mxx gs M → Tn = JF gs (rF w') m M) →
        Ev (tCall (sp__law_due K) [] E0 (tCons tt (tCons (tVar 9) (tCons (tVar 8) (tCons tg (tCons (tVar 5) tNil)))))) σ G' H' BR true := fun {σ G' H' tt tg gs Tn} ex h9 h8 h5 ht hg hgo hT =>
      ev_call (⟨w', gs, Tn, k0, k1⟩ : DueIn) (ea_cons (R := FR) ht (ea_cons (R := Ls FR) (x := sayL w') (ev_var h9 (Mono.up ex r12)) (ea_cons (R := Tp FR) (x := wRow w') (ev_var h8 (Mono.up ex R12)) (ea_cons (R := Ls IR) hg (ea_cons (R := L2_ BR BR) (x := (k0, k1)) (ev_var h5 (Mono.up ex K12)) ea_nil))))) (fun vs G' _ h => ⟨⟨hw, hgo, hT, hk0, hk1⟩, h⟩) (fun _ _ h => h)
    have worth : ∀ {σ : L2.St} {G' H'} {tl : TE} {l : List Nat}, Ex G12 G' → σ[7]? = some (some (.ref x)) → Ev tl σ G' H' (Sq NR) l → l.Nodup → (∀ p ∈ l, p < w'.n) → Ev (tCall (sp_call_worth K) [] E0 (tCons (tVar 7) (tCons tl tNil))) σ G' H' FR (lowf (rF w' (msk l)) (rB w')) := fun {σ G' H' tl l} ex h7 hl nd lt =>
      ev_call (w', l) (ea_cons (R := WR K) (x := w') (ev_var h7 (Mono.up ex W12)) (ea_cons (R := Sq NR) (x := l) hl ea_nil)) (fun vs G' _ h => ⟨⟨hw, nd, lt⟩, h⟩) (fun _ _ h => h)
    obtain ⟨ta, us, rfl, hta, pta⟩ := id L12
    have ul : us.length = 2 ^ w'.n := by rw [paired_len pta, lotsP_len]
    refine s_for (I := fun i σ G' H' => PS pl G H G' H' ∧ ∃ c10 c11 c12, σ = [some v0, some (.ref pl), some wv, some (.int (w'.n : Int)), some cv, some kv, some (.ref ta), some (.ref x), some rv, some sv, c10, c11, c12, none, none, none, none]) (ei_range1 (m := 2) (ea_consI ev_int ea_nil) (by omega) (by omega)) P12.e ?_ ?_ ?_
    · exact fun G13 H13 s13 => ⟨P12.stp s13, _, _, _, rfl⟩
    · rintro i y σ Gp Hq G' H' G1' hi f1 f2 ⟨P13, c10, c11, c12, rfl⟩ s14 rfl
      have P14 := P13.stp s14
      have g14 := f1.trans (f2.trans s14.g)
      refine ⟨_, rfl, ?_⟩
      refine pick_run (p := 1) (m := 30) rfl ev_int (by decide) P14.e (Pl.ps P14) fun kk G15 H15 hkk p15 => .inl ⟨(kk : Int), rfl, ?_⟩
      have P15 := P14.trans p15
      have g15 := g14.trans p15.eg
      have ht15 := P15.e _ _ (g15 _ _ hta)
      refine ⟨_, rfl, ta, us, rfl, .inl (SqL.of ht15), (kk : Int), (us.length : Int), rfl, rfl, by rw [ul]; omega, ?_⟩
      have em : (kk : Int) % (us.length : Int) = ((kk % us.length : Nat) : Int) := by push_cast; rfl
      have km : kk % us.length < us.length := Nat.mod_lt _ (by omega)
      obtain ⟨al, hal⟩ : ∃ al, us[kk % us.length]? = some al := ⟨_, List.getElem?_eq_getElem km⟩
      obtain ⟨l, hl, rl⟩ := paired_get2 pta hal
      obtain ⟨ll, nd, lt⟩ := lotsP_sub _ _ (List.mem_of_getElem? hl)
      refine ⟨ta, us, _, al, rfl, rfl, SqL.of ht15, by rw [em]; exact atI_nat hal, ?_⟩
      refine gset ?_
      dsimp only
      have rl15 := Mono.up g15 rl
      refine s_set (R := Ls IR) (x := indL w'.n l) (ev_lc0 (S := IR) (W := fun i _ v => v = .int (i : Int)) (n := w'.n) (f := fun i => if decide (i ∈ l) = true then 1 else 0) (ei_range1 (m := (w'.n : Int)) (by tm_at "ea") (by omega) (by omega)) (by omega) fun j v G16 H16 hj s16 ev => ?_) P15.e fun iv G16 H16 s16 r16 => ?_
      · obtain rfl := ev
        exact ev_intB (ev_inN (b := false) (ev_var (R := NR) (x := j) rfl rfl) (ev_var rfl (Mono.up s16.g rl15)))
      have P16 := P15.stp s16
      have g16 := g15.trans s16.g
      refine s_if (b := false) (et_not (b := true) (et_B (duef (gs := indL w'.n l) (Tn := rF w' (msk l)) g16 rfl rfl rfl (Ev.eq (worth (l := l.reverse) g16 rfl ((ev_rev (ev_var rfl (Mono.up s16.g rl15))).imp fun _ _ h => h.sq) (List.pairwise_reverse.mpr (nd.imp fun h => Ne.symm h)) (fun p hp => lt p (List.mem_reverse.mp hp))) ?_) (ev_var rfl r16) ⟨ind_len, fun z hz => ?_⟩ fun m M hm hM => ind_JF hw lt hm hM))) P16.e (fun _ _ _ z => by cases z) fun G17 H17 s17 _ => ⟨G17, f2.trans (s14.g.trans (p15.eg.trans (s16.g.trans s17.g))), s17.v, P16.stp s17, _, _, _, rfl⟩
      · rw [show msk l.reverse = msk l from bits_eq fun i => by rw [msk_test, msk_test]; congr 1; exact propext List.mem_reverse]
      · obtain ⟨i, _, rfl⟩ := ind_mem hz
        split
        · show Int.natAbs 1 < 2 ^ 50; decide
        · exact pw0 50
    · rintro σ Gp Hq f1 f2 ⟨P13, c10, c11, c12, rfl⟩
      -- the grades
      refine s_setP (n := w'.n) (P := fun v => -2 ≤ v ∧ v ≤ 9) (ev_varI rfl) (by omega) P13.e (Pl.ps P13) (fun i G' H' Qn hi ps k => ?_) fun L vs G14 H14 P14 hL gL dL vl vP => ?_
      · refine pick_run (p := 1) (m := 10) rfl ev_int (by decide) ps.e (Pl.ps ps) fun k1 G15 H15 hk1 p15 => ?_
        refine pick_run (p := 1) (m := 2) rfl ev_int (by decide) p15.e (Pl.ps p15) fun k2 G16 H16 hk2 p16 => ⟨2, (k2 : Int), rfl, rfl, mulx (a := 5) (b := 5) (by show Int.natAbs 2 < 2 ^ 5; decide) (by show Int.natAbs _ < 2 ^ 5; omega), ⟨(k1 : Int), 2 * (k2 : Int), rfl, rfl, k _ G16 H16 ⟨by omega, by omega⟩ (p15.trans p16)⟩⟩
      have nLp : L ≠ pl := (Pl.ps P13).2.ne hL
      have hL0 : Gp L = none := P13.e.none hL
      have P14b := P13.trans P14
      have hLb : H L = none := by
        cases z : H L with
        | none => rfl
        | some o =>
          have := P13.x.h _ _ nLp z
          rw [hL] at this; cases this
      have g14 := f1.trans P14.eg
      have p50 : ∀ z ∈ vs, pw 50 z := fun z hz => by
        have := vP z hz
        show Int.natAbs z < 2 ^ 50
        omega
      refine s_ifp (fun Hc => ∃ (Gc : Hp) (gs : List Int), PS pl G H Gc Hc ∧ Ex G12 Gc ∧ Gc L = none ∧ Hc L = some (.lst (gs.map V.int)) ∧ gs.length = w'.n ∧ ∀ z ∈ gs, pw 50 z) ?_ fun KK => ?_
      · rintro Hc ⟨Gc, gs, Pc, gc, eL, dL, gl, gp⟩
        have hgo : GsOk w' gs := ⟨gl, gp⟩
        obtain ⟨m, hm⟩ := mn_ex (gs := gs) (by omega)
        obtain ⟨M, hM⟩ := mxx_ex (gs := gs) (by omega)
        have es : Ex (upd Gc L (.lst (gs.map V.int))) Hc := Pc.e.add dL
        have rg : Ls IR (upd Gc L (.lst (gs.map V.int))) (.ref L) gs := ⟨L, _, rfl, upd_same, ints_paired _ _⟩
        have exs := gc.trans (Ex.new (o := .lst (gs.map V.int)) eL)
        refine s_set (R := Ls IR) (x := gs) (ev_listOf ((ev_var rfl rg).imp fun _ _ h => h.sq)) es fun kp G18 H18 s18 r18 => ?_
        have g18 := exs.trans s18.g
        have rg18 := Mono.up s18.g rg
        have told : ∀ {σ : L2.St} {G' H'}, Ex G18 G' → σ[7]? = some (some (.ref x)) → σ[13]? = some (some (.ref L)) → Ev (tCall (sp_rise_worth K) [] E0 (tCons (tVar 7) (tCons (tVar 13) tNil))) σ G' H' FR (lowf (JF gs (rF w') m M) (rB w')) := fun {σ G' H'} ex h7 h13 G1 H1 s Q qq =>
          ⟨_, h7, _, h13, .inl ⟨G1, w', .ref x, .ref L, gs, s.v, hw, Mono.up (g18.trans (ex.trans s.g)) W12, Mono.up (ex.trans s.g) rg18, gl, gp, rfl, fun r G2 H2 s2 ⟨lv, hs, hmem, hr⟩ => qq r G2 H2 s2 (by
            rw [← rise_JF (w := w') hs hmem hm hM]; exact hr)⟩⟩
        refine s_chk (et_or (b := false) (c := false) (et_not (b := true) (et_B (duef (gs := gs) (Tn := JF gs (rF w') m M) g18 rfl rfl rfl (told (Ex.refl _) rfl rfl) (ev_var rfl rg18) hgo fun m' M' hm' hM' => ?_))) fun _ => et_neLs (ev_var rfl rg18) (ev_var rfl r18) (by omega)) s18.v fun G19 H19 s19 => ?_
        · have e1 : m' = m := by have := hm'.2 m hm.1; have := hm.2 m' hm'.1; omega
          have e2 : M' = M := by have := hM'.2 M hM.1; have := hM.2 M' hM'.1; omega
          rw [e1, e2]
        have g19 := g18.trans s19.g
        have rg19 := Mono.up s19.g rg18
        have rb := hw.rb
        refine s_chk (et_or (b := false) (c := false) (et_neFR (p := (0, 1)) (Ev.eq (worth (l := []) g19 rfl ((ev_tup (R := NR) (xs := []) .nil (by show 0 ≤ 100000; decide)).imp fun _ _ h => h.sq) List.nodup_nil (fun p hp => by cases hp)) ?_) (ev_tup2 ev_int ev_int)) fun _ => et_neRf (i := -1) (ev_refused (Ts := (cutL gs (some 1) none).map fun _ => "int") hw (ev_var rfl (Mono.up g19 W12)) ((ev_sl (K := K) (ev_var rfl rg19) (eo_some ev_int) eo_none).imp fun _ _ h => ls_ints h) ?_ ?_ ?_) (ev_rfT (ev_un (f := fun i => -i) ev_int))) s19.v fun G20 H20 s20 => ?_
        · rw [show msk [] = 0 from rfl, WOk.rf0 hw, lowf_0 (by omega)]
        · rw [show (some (1 : Int)) = some ((1 : Nat) : Int) from rfl, cut_from gs 1 (by omega), List.length_map, List.length_drop]; omega
        · intro T hT
          obtain ⟨_, _, rfl⟩ := List.mem_map.mp hT
          exact .inl rfl
        · refine .inl ⟨?_, rfl⟩
          rw [show (some (1 : Int)) = some ((1 : Nat) : Int) from rfl, cut_from gs 1 (by omega), List.length_map, List.length_drop]; omega
        have S20 := s18.trans (s19.trans s20)
        have Sh := Stp.hide S20 eL
        have P20 := Pc.stp Sh
        have d20 := S20.h _ _ dL
        have W20 := Mono.up (gc.trans Sh.g) W12
        have h20 : hd G20 L L = none := hd_same
        refine s_pick (p := 1) (m := w'.n) rfl (ev_varI rfl) (by omega) P20.e (Pl.ps P20) fun at_ G21 H21 hat p21 => ?_
        have P21 := P20.trans p21
        have d21 := p21.x.h _ _ nLp d20
        have h21 := p21.x.n _ _ d20 h20
        refine s_asgR (chooseT_run (Ts := ["bool", "NoneType", "tuple", "str"]) (m := 4) (.cons (ev_bl.imp (S := TR) fun _ v r => by obtain rfl := r; exact .bl true) (.cons (ev_c.imp (S := TR) fun _ v r => by obtain rfl := r; exact .non) (.cons ((ev_tup2 ev_int ev_int).imp (S := TR) fun _ v r => tys_p2 r) (.cons (ev_c.imp (S := TR) fun _ v r => by obtain rfl := r; exact .str _) .nil)))) (by decide) rfl (fun _ _ _ => ev_int) (by decide) (by decide) P21.e (Pl.ps P21) fun v T G22 H22 hT rT p22 => ?_)
        have P22 := P21.trans p22
        have d22 := p22.x.h _ _ nLp d21
        have h22 := p22.x.n _ _ d21 h21
        refine ⟨_, rfl, _, rfl, L, gs.map V.int, (at_ : Int), at_, rfl, rfl, d22, ixN_nat (by rw [List.length_map]; omega), ?_⟩
        have e23 : Ex G22 (upd H22 L (.lst ((gs.map V.int).set at_ v))) := P22.e.mut h22
        have ef : Ex (upd G22 L (.lst ((gs.map V.int).set at_ v))) (upd H22 L (.lst ((gs.map V.int).set at_ v))) := e23.add upd_same
        have exf := Ex.new (o := .lst ((gs.map V.int).set at_ v)) h22
        have Wf := Mono.up (p21.eg.trans (p22.eg.trans exf)) W20
        have tsf : Ls TR (upd G22 L (.lst ((gs.map V.int).set at_ v))) (.ref L) ((gs.map fun _ => "int").set at_ T) := ⟨L, _, rfl, upd_same, paired_set (ints_ty gs) (Mono.up exf rT)⟩
        have kT : T ≠ "int" ∧ KnT T := by
          rcases (List.mem_cons.mp hT) with rfl | hT
          · exact ⟨by decide, .inr (.inl rfl)⟩
          rcases (List.mem_cons.mp hT) with rfl | hT
          · exact ⟨by decide, .inr (.inr (.inl rfl))⟩
          rcases (List.mem_cons.mp hT) with rfl | hT
          · exact ⟨by decide, .inr (.inr (.inr (.inr rfl)))⟩
          rcases (List.mem_cons.mp hT) with rfl | hT
          · exact ⟨by decide, .inr (.inr (.inr (.inl rfl)))⟩
          · cases hT
        have ll : ((gs.map fun _ => "int").set at_ T).length = w'.n := by rw [List.length_set, List.length_map, gl]
        refine s_ret (R := BR) (x := true) (ev_eqRf (i := (at_ : Int)) (ev_refused hw (ev_var rfl Wf) (ev_var rfl tsf) (by omega) (fun y hy => ?_) (.inr ⟨ll, at_, T, rfl, ?_, kT.1, fun j hj => ?_⟩)) (ev_rfT (ev_varI rfl))) ef fun v G24 H24 s24 r24 => ?_
        · rcases List.mem_or_eq_of_mem_set hy with h | h
          · obtain ⟨_, _, rfl⟩ := List.mem_map.mp h
            exact .inl rfl
          · rw [h]; exact kT.2
        · exact List.getElem?_set_self (by rw [List.length_map]; omega)
        · rw [List.getElem?_set_ne (by omega), List.getElem?_map, List.getElem?_eq_getElem (by omega)]; rfl
        · obtain rfl := r24
          exact fin _
      · refine et_pick (p := 1) (m := 6) (c := 5) rfl ev_int (by decide) P14b.e (Pl.ps P14b) fun kk G15 H15 hkk p15 => ?_
        have P15 := P14b.trans p15
        have d15 := p15.x.h _ _ nLp dL
        have g15 := p15.x.n _ _ dL gL
        cases hd_ : decide ((kk : Int) = 5) with
        | true =>
          refine iteT ((ev_I (f := fun i j => i ^ j.toNat) ev_int ev_int ⟨by decide, by decide, by decide⟩).run P15.e fun v G16 H16 s16 r16 => ?_)
          obtain rfl := r16
          have P16 := P15.stp s16
          refine ⟨_, rfl, pick_run (p := 1) (m := w'.n) rfl (ev_varI rfl) (by omega) P16.e (Pl.ps P16) fun k2 G17 H17 hk2 p17 => ?_⟩
          have d17 := p17.x.h _ _ nLp (s16.h _ _ d15)
          have h17 := p17.x.n _ _ (s16.h _ _ d15) (s16.n _ _ d15 g15)
          refine ⟨L, vs.map V.int, (k2 : Int), k2, rfl, rfl, d17, ixN_nat (by rw [List.length_map]; omega), ?_⟩
          have P17 := P16.trans p17
          have P17m : PS pl G H G17 (upd H17 L (.lst ((vs.map V.int).set k2 (.int ((10 : Int) ^ (12 : Int).toNat))))) := PS.upd_hid P17 h17 nLp
          refine KK _ ⟨G17, vs.set k2 ((10 : Int) ^ (12 : Int).toNat), P17m, g14.trans (p15.eg.trans (s16.g.trans p17.eg)), h17, ?_, by rw [List.length_set, vl], fun z hz => ?_⟩
          · rw [List.map_set]; exact upd_same
          · rcases List.mem_or_eq_of_mem_set hz with h | h
            · exact p50 z h
            · rw [h]; show Int.natAbs _ < 2 ^ 50; decide
        | false =>
          exact iteF (KK _ ⟨G15, vs, P15, g14.trans p15.eg, g15, d15, vl, p50⟩)

end Cy
namespace Cy
open PySem PySem.Spec PyProof.Rows L2 He
local macro_rules | `(tactic| tm_at "ex") => `(tactic| first
  | exact Ex.refl _ | assumption | exact Stp.g (by assumption) | exact Stp.v (by assumption)
  | (refine Ex.trans (Stp.g (by assumption)) ?_; tm_at "ex")
  | (refine Ex.trans (by assumption) ?_; tm_at "ex"))
local macro_rules | `(tactic| tm_at "rl") => `(tactic| first
  | exact rfl | assumption | (apply Mono.up; rotate_left; assumption; tm_at "ex"))
local macro_rules | `(tactic| tm_at "sc") => `(tactic| first | assumption | omega)
local macro_rules | `(tactic| tm_at "ev") => `(tactic| first
  | exact ev_int | exact ev_bl | assumption
  | (apply ev_varI; exact rfl)
  | (apply ev_var; exact rfl; tm_at "rl")
  | (apply ev_I0; tm_at "ev"; tm_at "ev")
  | (apply ev_B0; tm_at "ev"; tm_at "ev")
  | (apply ev_I; tm_at "ev"; tm_at "ev"; tm_at "sc")
  | (apply ev_un; tm_at "ev")
  | (apply ev_eqI; tm_at "ev"; tm_at "ev")
  | (apply ev_neI; tm_at "ev"; tm_at "ev")
  | (apply ev_fstI; tm_at "ev")
  | (apply ev_sndI; tm_at "ev")
  | (apply ev_max2; tm_at "ev"; tm_at "ev")
  | (apply ev_min2; tm_at "ev"; tm_at "ev")
  | (apply ev_abs; tm_at "ev")
  | (apply ev_int1; tm_at "ev")
  | (apply ev_bits; tm_at "ev")
  | (apply ev_gcd; tm_at "ev"; tm_at "ev")
  | (apply ev_len; tm_at "ev")
  | (apply ev_tup2; tm_at "ev"; tm_at "ev"))
local macro_rules | `(tactic| tm_at "ea") => `(tactic| first
  | exact ea_nil
  | (apply ea_consI; tm_at "ev"; tm_at "ea")
  | (apply ea_cons; tm_at "ev"; tm_at "ea"))
local macro_rules | `(tactic| tm_at "et") => `(tactic| first
  | (apply et_test; tm_at "ev")
  | (apply et_B; tm_at "ev")
  | (apply et_not; tm_at "et"))

open Cr
/-- all of the text -/
theorem law_ok {P : Program} {w : World} {K : PySem.W.Frag} {mg : Str → Option Value} {base : Heap} (T : Tx K mg) {fd : FuncData} (F : FunD K "law" "law" (defArgs s_law) (defBody s_law) (defScope s_law) [] [] (ga K "law") fd) : FnOk P w K mg base CX0 9 (ga K "law") fd P_law (sp_law K) := by
  have O__law_gcd := ok__law_gcd (P := P) (w := w) (base := base) (k := 0) T
  have O_is_whole := ok_is_whole (P := P) (w := w) (base := base) (k := 0) T
  have O__law_int := ok__law_int (P := P) (w := w) (base := base) (k := 0) T
  have O__ratios_lowest := ok__ratios_lowest (P := P) (w := w) (base := base) (k := 0) T
  have O_ratio := ok_ratio (P := P) (w := w) (base := base) (k := 1) T (O_is_whole.mono (by decide)) (O__ratios_lowest.mono (by decide))
  have O__law_low := ok__law_low (P := P) (w := w) (base := base) (k := 1) T (O__law_gcd.mono (by decide))
  have O__law_sum := ok__law_sum (P := P) (w := w) (base := base) (k := 2) T (O__law_low.mono (by decide))
  have O__law_right := ok__law_right (P := P) (w := w) (base := base) (k := 1) T (O__law_gcd.mono (by decide)) (O__law_int.mono (by decide))
  have O__law_row_right := ok__law_row_right (P := P) (w := w) (base := base) (k := 2) T (O__law_right.mono (by decide))
  have O_need_small := ok_need_small (P := P) (w := w) (base := base) (k := 0) T
  have O_bits_of := ok_bits_of (P := P) (w := w) (base := base) (k := 0) T
  have O_lot_from := ok_lot_from (P := P) (w := w) (base := base) (k := 0) T
  have O__lots_size := ok__lots_size (P := P) (w := w) (base := base) (k := 1) T (O_is_whole.mono (by decide))
  have O_lot_of := ok_lot_of (P := P) (w := w) (base := base) (k := 2) T (O__lots_size.mono (by decide)) (O_lot_from.mono (by decide)) (O_is_whole.mono (by decide))
  have O_number_of := ok_number_of (P := P) (w := w) (base := base) (k := 3) T (O_bits_of.mono (by decide)) (O_lot_of.mono (by decide))
  have O__linking_looks := ok__linking_looks (P := P) (w := w) (base := base) (k := 1) T (O_bits_of.mono (by decide))
  have O__linking_reached := ok__linking_reached (P := P) (w := w) (base := base) (k := 1) T (O_lot_from.mono (by decide))
  have O_shut_lot := ok_shut_lot (P := P) (w := w) (base := base) (k := 2) T (O__linking_looks.mono (by decide)) (O_lot_from.mono (by decide))
  have O_need_linked := ok_need_linked (P := P) (w := w) (base := base) (k := 3) T (O_shut_lot.mono (by decide))
  have O_heads := ok_heads (P := P) (w := w) (base := base) (k := 2) T (O__linking_looks.mono (by decide)) (O__linking_reached.mono (by decide)) (O_lot_from.mono (by decide))
  have O_need_one_head := ok_need_one_head (P := P) (w := w) (base := base) (k := 3) T (O_heads.mono (by decide))
  have O__solving_pivot := ok__solving_pivot (P := P) (w := w) (base := base) (k := 0) T
  have O_solved := ok_solved (P := P) (w := w) (base := base) (k := 1) T (O__solving_pivot.mono (by decide))
  have O__worlds_row := ok__worlds_row (P := P) (w := w) (base := base) (k := 1) T (O_is_whole.mono (by decide))
  have O__worlds_takes := ok__worlds_takes (P := P) (w := w) (base := base) (k := 2) T (O__worlds_row.mono (by decide))
  have O__worlds_calls := ok__worlds_calls (P := P) (w := w) (base := base) (k := 2) T (O__worlds_row.mono (by decide))
  have O__worlds_ties := ok__worlds_ties (P := P) (w := w) (base := base) (k := 0) T
  have O__win_equation := ok__win_equation (P := P) (w := w) (base := base) (k := 0) T
  have O_win_equations := ok_win_equations (P := P) (w := w) (base := base) (k := 1) T (O__win_equation.mono (by decide))
  have O_win_tops := ok_win_tops (P := P) (w := w) (base := base) (k := 4) T (O_need_small.mono (by decide)) (O_need_one_head.mono (by decide)) (O_win_equations.mono (by decide)) (O_solved.mono (by decide))
  have O_win_row := ok_win_row (P := P) (w := w) (base := base) (k := 5) T (O_win_tops.mono (by decide)) (O_ratio.mono (by decide))
  have O_say_numbers := ok_say_numbers (P := P) (w := w) (base := base) (k := 2) T (O_solved.mono (by decide))
  have O__rise_need := ok__rise_need (P := P) (w := w) (base := base) (k := 4) T (O_need_small.mono (by decide)) (O_need_linked.mono (by decide))
  have O__rise_tops := ok__rise_tops (P := P) (w := w) (base := base) (k := 3) T (O_say_numbers.mono (by decide)) (O_win_equations.mono (by decide)) (O_solved.mono (by decide)) (ok_calling (k := 2) T (O__worlds_ties.mono (by decide)))
  have O_call_worth := ok_call_worth (P := P) (w := w) (base := base) (k := 5) T (O__rise_need.mono (by decide)) (O_number_of.mono (by decide)) (O__rise_tops.mono (by decide)) (O_ratio.mono (by decide))
  have O_grades_of := ok_grades_of (P := P) (w := w) (base := base) (k := 1) T (ok_BadGrades___init__ (k := 0) T) (O_is_whole.mono (by decide))
  have O_rise_worth := ok_rise_worth (P := P) (w := w) (base := base) (k := 5) T (O__rise_need.mono (by decide)) (O_grades_of.mono (by decide)) (O__rise_tops.mono (by decide)) (O_bits_of.mono (by decide)) (O_ratio.mono (by decide))
  have O__law_refused := ok__law_refused (P := P) (w := w) (base := base) (k := 6) T (O_rise_worth.mono (by decide))
  have O__law_pick := ok__law_pick (P := P) (w := w) (base := base) (k := 0) T
  have O__law_size := ok__law_size (P := P) (w := w) (base := base) (k := 1) T (O__law_pick.mono (by decide))
  have O__law_rate := ok__law_rate (P := P) (w := w) (base := base) (k := 1) T (O__law_pick.mono (by decide))
  have O__law_blank := ok__law_blank (P := P) (w := w) (base := base) (k := 0) T
  have O__law_order := ok__law_order (P := P) (w := w) (base := base) (k := 1) T (O__law_pick.mono (by decide))
  have O__law_both := ok__law_both (P := P) (w := w) (base := base) (k := 2) T (O__law_rate.mono (by decide))
  have O__law_ring := ok__law_ring (P := P) (w := w) (base := base) (k := 2) T (O__law_blank.mono (by decide)) (O__law_rate.mono (by decide)) (O__law_pick.mono (by decide))
  have O__law_moved := ok__law_moved (P := P) (w := w) (base := base) (k := 1) T (O__law_blank.mono (by decide))
  have O__law_two_way := ok__law_two_way (P := P) (w := w) (base := base) (k := 3) T (O__law_blank.mono (by decide)) (O__law_both.mono (by decide)) (O__law_pick.mono (by decide))
  have O__law_paced := ok__law_paced (P := P) (w := w) (base := base) (k := 2) T (O__law_blank.mono (by decide)) (O__law_pick.mono (by decide)) (O__law_rate.mono (by decide))
  have O__law_stream := ok__law_stream (P := P) (w := w) (base := base) (k := 2) T (O__law_blank.mono (by decide)) (O__law_pick.mono (by decide)) (O__law_order.mono (by decide))
  have O__law_web := ok__law_web (P := P) (w := w) (base := base) (k := 4) T (O__law_size.mono (by decide)) (O__law_pick.mono (by decide)) (O__law_ring.mono (by decide)) (O__law_moved.mono (by decide)) (O__law_paced.mono (by decide)) (O__law_order.mono (by decide)) (O__law_stream.mono (by decide)) (O__law_two_way.mono (by decide))
  have O__law_calls := ok__law_calls (P := P) (w := w) (base := base) (k := 1) T (O__law_blank.mono (by decide)) (O__law_pick.mono (by decide))
  have O__law_pool := ok__law_pool (P := P) (w := w) (base := base) (k := 0) T
  have O__law_called := ok__law_called (P := P) (w := w) (base := base) (k := 0) T
  have O__law_lots := ok__law_lots (P := P) (w := w) (base := base) (k := 0) T
  have O__law_number := ok__law_number (P := P) (w := w) (base := base) (k := 0) T
  have O__law_is_line := ok__law_is_line (P := P) (w := w) (base := base) (k := 0) T
  have O__law_common := ok__law_common (P := P) (w := w) (base := base) (k := 1) T (O__law_gcd.mono (by decide))
  have O__law_win_fits := ok__law_win_fits (P := P) (w := w) (base := base) (k := 2) T (O__law_common.mono (by decide)) (O__law_lots.mono (by decide)) (O__law_number.mono (by decide))
  have O__law_solve := ok__law_solve (P := P) (w := w) (base := base) (k := 2) T (O__law_low.mono (by decide))
  have O__law_says := ok__law_says (P := P) (w := w) (base := base) (k := 3) T (O__law_solve.mono (by decide))
  have O__law_by_says := ok__law_by_says (P := P) (w := w) (base := base) (k := 3) T (O__law_sum.mono (by decide))
  have O__law_by_wins := ok__law_by_wins (P := P) (w := w) (base := base) (k := 3) T (O__law_sum.mono (by decide)) (O__law_number.mono (by decide)) (O__law_low.mono (by decide))
  have O__law_due := ok__law_due (P := P) (w := w) (base := base) (k := 4) T (O__law_by_says.mono (by decide)) (O__law_right.mono (by decide)) (O__law_sum.mono (by decide)) (O__law_by_wins.mono (by decide))
  exact ok_law (k := 7) T (ok_World___init__ (k := 6) T (O__worlds_takes.mono (by decide)) (O__worlds_calls.mono (by decide))) (O__law_pool.mono (by decide)) (O__law_web.mono (by decide)) (O__law_calls.mono (by decide)) (O__law_lots.mono (by decide)) (O_win_row.mono (by decide)) (O__law_says.mono (by decide)) (O__law_pick.mono (by decide)) (O__law_is_line.mono (by decide)) (O__law_refused.mono (by decide)) (O__law_row_right.mono (by decide)) (O__law_win_fits.mono (by decide)) (O__law_due.mono (by decide)) (O_call_worth.mono (by decide)) (O__law_called.mono (by decide)) (O_rise_worth.mono (by decide)) F
theorem facts {P : Program} {w : World} {K : PySem.W.Frag} {h : Heap} {mg : Str → Option Value} {f : Addr} (X : K.In h) (G : h.Ns mainGlobals mg) (hfa : mg ("law" : Str) = some (.ref f)) (c : SaysX K) :
    ∃ fd : FuncData, (∀ (s : Shared) (v : Value), BindsTo s fd ⟨[v], []⟩ [("_law_script", v)]) ∧ ∀ base : Heap, K.In base → base.Ns mainGlobals mg → FnOk P w K mg base CX0 9 f fd ["_law_script"] (sp_law K) := by
  have T : Tx K mg := ⟨c, h, X, G⟩
  obtain ⟨fd, F⟩ := T.d_law
  have e := hfa.symm.trans T.g_law
  cases e
  have b := FunD.bindsA (ps := ["_law_script"]) F fun _ _ _ _ _ _ us hl => match us, hl with | [_], _ => rfl
  exact ⟨fd, fun s v => b s [v] rfl, fun base _ _ => law_ok T F⟩
/-- the end of the row, the bits told -/
theorem walk_ofEB {l : PySem.W.OpenLaw} {n k : Nat} {q : Program} {ls : List Str} {XP : (Str → Option Value) → Heap → Prop} {YPr : World → Heap → Prop} {d : DefRec} {x : Str}
    (hmst : l.most = some n) (hmst2 : n ≤ sizeLine) (hnd : d.params.defaults = []) (hr : Room k callerA)
    (Fw : ∀ (w : World) (mg : Str → Option Value) (fad : Addr) (h : Heap), YPr w h → h.Ns mainGlobals mg → mg d.name = some (.ref fad) →
      ∃ (K : PySem.W.Frag) (fdt : FuncData) (sp : Sp), K.In h ∧ (∀ (s : Shared) (u : Value), BindsTo s fdt ⟨[u], []⟩ [(x, u)]) ∧
        (∀ (H : Hp) (a : Addr) (ns : List Int), ns.length ≤ n → (∀ z ∈ ns, Builtin.Int.intBits z ≤ 1048576) → Only H → SqL K H a (ns.map V.int) → sp [.ref a] H (fun v _ => v = .bl true) fun _ _ _ => False) ∧
        ∀ base : Heap, K.In base → base.Ns mainGlobals mg → FnOk l.prog w K mg base CX0 k fad fdt [x] sp) :
    PySem.W.WalkO q ls XP YPr l.row.toRowW d [] (fun f vs => PySem.call f vs) := by
  refine Att.attach_callB hmst hnd fun w s0 s1 mg mb fad o pm cd doc a vs ns G Y ho hd hcd hmg hobj hints hlen hbits hg => ?_
  obtain ⟨K, fdt, sp, KX, hb, hsp, hF⟩ := Fw w mg fad _ Y G.T.g hmg
  exact law_call KX G.T.g G.T.b G.T.builtins G.T.nolimit hg hobj hints (Nat.le_trans hlen hmst2) hr hF hb (fun H hO hS => hsp H a ns hlen hbits hO hS) fun H e s' z => z
end Cy
open PyProof.Rows PySem PySem.W PySem.Calls
theorem PySem.Challenge.cw_copyrates_k36_whole_effective_calls_weig_holds : PySem.Challenge.rw_copyrates_k36_whole_effective_calls_weig.Holds := by
  w_on; o_law
  refine HandSHeadRun.head_imp (r := OpenLaw.row PySem.Challenge.rw_copyrates_k36_whole_effective_calls_weig) (q := Cy.qv) (H := Cy.hk) (ob := Cy.ob) (M := 9000) (loose := Cy.loose) (d := HandSHeadRun.topDef (OpenLaw.row PySem.Challenge.rw_copyrates_k36_whole_effective_calls_weig).prog 90) (kwd := []) Cy.ob_eq
    Cy.run (by kernel_rfl) (by kernel_rfl) (by kernel_rfl) (by rfl) (by first | assumption | decide +kernel) (by decide +kernel) ⟨rfl, rfl, rfl, rfl, rfl, by decide +kernel⟩ ?hw ?hc
  case hw => w_witness2
  case hc =>
    refine Cy.walk_ofEB (l := PySem.Challenge.rw_copyrates_k36_whole_effective_calls_weig) (n := 63) (k := 9) (x := "_law_script") rfl (by decide) (by kernel_rfl) ⟨rfl, by decide, by decide⟩ ?F
    intro w mg fa h Y G hlaw0
    obtain ⟨K, KX, c⟩ := Y
    have hlaw : mg ("law" : PySem.Str) = some (.ref fa) := by
      have e : (HandSHeadRun.topDef (OpenLaw.row PySem.Challenge.rw_copyrates_k36_whole_effective_calls_weig).prog 90).name = ("law" : PySem.Str) := by kernel_rfl
      rw [← e]
      exact hlaw0
    obtain ⟨fd, hb, hF⟩ := Cy.facts (P := (PySem.Challenge.rw_copyrates_k36_whole_effective_calls_weig).prog) (w := w) KX G hlaw c
    refine ⟨K, fd, Cy.sp_law K, KX, hb, fun H a ns hl hz _ hS => ?_, hF⟩
    exact ⟨H, .ref a, ns, Cy.Ex.refl H, ⟨a, rfl, hS⟩, hl, hz, rfl, fun _ => rfl⟩
namespace Cy

end Cy
