import PyProof.Rows.All
import Wide.All
import OpenK.AllK
import Wide.FinOn
import KE.KStateDown
import KE.KDictPairs
import KE.GoesMore
import HandS.ForMost
import HandS.More
import HandS.Exc
import HandS.Words
import HandS.WordsExc
import HandS.Defaults
import HandS.Wide
import HandS.Walk
import HandS.Zip
import HandS.Evl
import HandS.Steps
import HandS.WrittenGet
import HandS.HeadHook3
import PySem.Challenge.RW_planwell_k20_whole_corners_tried
import HandS.Head0
import HandS.Head1
import HandS.Head2
import HandS.HeadEnd
import HandS.HeadHook1
import HandS.HeadHook2
import HandS.HeadHook4
set_option Elab.async false
set_option linter.all false
set_option maxRecDepth 100000
set_option maxHeartbeats 3900000
namespace PW
/-! sums over the first n numbers -/
def sumN : Nat → (Nat → Rat) → Rat
  | 0, _ => 0
  | n + 1, f => sumN n f + f n
theorem sumN_congr {f g : Nat → Rat} : ∀ {n : Nat}, (∀ i, i < n → f i = g i) → sumN n f = sumN n g
  | 0, _ => rfl
  | n + 1, h => by
    show sumN n f + f n = sumN n g + g n
    rw [sumN_congr fun i hi => h i (by omega), h n (by omega)]
theorem sumN_zero : ∀ {n : Nat} {f : Nat → Rat}, (∀ i, i < n → f i = 0) → sumN n f = 0
  | 0, _, _ => rfl
  | n + 1, f, h => by
    show sumN n f + f n = 0
    rw [sumN_zero fun i hi => h i (by omega), h n (by omega)]
    grind
theorem sumN_add (f g : Nat → Rat) : ∀ n : Nat, sumN n (fun i => f i + g i) = sumN n f + sumN n g
  | 0 => by show (0 : Rat) = 0 + 0; grind
  | n + 1 => by
    show sumN n (fun i => f i + g i) + (f n + g n) = (sumN n f + f n) + (sumN n g + g n)
    rw [sumN_add f g n]; grind
theorem sumN_mul (k : Rat) (f : Nat → Rat) : ∀ n : Nat, sumN n (fun i => k * f i) = k * sumN n f
  | 0 => by show (0 : Rat) = k * 0; grind
  | n + 1 => by
    show sumN n (fun i => k * f i) + k * f n = k * (sumN n f + f n)
    rw [sumN_mul k f n]; grind
theorem sumN_sub (f g : Nat → Rat) : ∀ n : Nat, sumN n (fun i => f i - g i) = sumN n f - sumN n g
  | 0 => by show (0 : Rat) = 0 - 0; grind
  | n + 1 => by
    show sumN n (fun i => f i - g i) + (f n - g n) = (sumN n f + f n) - (sumN n g + g n)
    rw [sumN_sub f g n]; grind
theorem sumN_nonneg {f : Nat → Rat} : ∀ {n : Nat}, (∀ i, i < n → 0 ≤ f i) → 0 ≤ sumN n f
  | 0, _ => by show (0 : Rat) ≤ 0; grind
  | n + 1, h => by
    show 0 ≤ sumN n f + f n
    have a := sumN_nonneg (f := f) (n := n) fun i hi => h i (by omega)
    have b := h n (by omega)
    grind
/-- one number alone -/
theorem sumN_one {f : Nat → Rat} {k : Nat} : ∀ {n : Nat}, k < n → (∀ i, i < n → i ≠ k → f i = 0) → sumN n f = f k
  | 0, h, _ => absurd h (Nat.not_lt_zero _)
  | n + 1, h, z => by
    show sumN n f + f n = f k
    by_cases e : k = n
    · subst e
      rw [sumN_zero fun i hi => z i (by omega) (by omega)]; grind
    · rw [sumN_one (f := f) (k := k) (n := n) (by omega) fun i hi hk => z i (by omega) hk, z n (by omega) (by omega)]; grind
theorem sumN_comm (f : Nat → Nat → Rat) (m : Nat) : ∀ n : Nat, sumN n (fun i => sumN m (fun j => f i j)) = sumN m (fun j => sumN n (fun i => f i j))
  | 0 => by
    show (0 : Rat) = sumN m (fun j => 0)
    rw [sumN_zero fun _ _ => rfl]
  | n + 1 => by
    show sumN n (fun i => sumN m (fun j => f i j)) + sumN m (fun j => f n j) = sumN m (fun j => sumN n (fun i => f i j) + f n j)
    rw [sumN_add, sumN_comm f m n]
/-- the term of one number, told apart -/
theorem sumN_split {f : Nat → Rat} {n k : Nat} (h : k < n) : sumN n f = f k + sumN n (fun i => if i = k then 0 else f i) := by
  have e : sumN n f = sumN n (fun i => (if i = k then f i else 0) + (if i = k then 0 else f i)) := sumN_congr fun i _ => by split <;> grind
  rw [e, sumN_add, sumN_one h fun i _ hk => by rw [if_neg hk], if_pos rfl]

/-! tableaus: row, column; the columns below n, the bounds at n; lines below m, goals behind -/
abbrev Tab := Nat → Nat → Rat
def dot (n : Nat) (a v : Nat → Rat) : Rat := sumN n (fun c => a c * v c)
def piv (T : Tab) (at_ s : Nat) : Tab := fun r c => if r = at_ then T at_ c / T at_ s else T r c - T r s * (T at_ c / T at_ s)
def Sol (T : Tab) (m n : Nat) (t : Rat) (v : Nat → Rat) : Prop := ∀ r, r < m → dot n (T r) v = T r n * t
/-- what a goal's row tells of values -/
def zof (T : Tab) (n g : Nat) (t : Rat) (v : Nat → Rat) : Rat := dot n (T g) v - T g n * t
theorem dot_piv_at (T : Tab) (a s n : Nat) (v : Nat → Rat) : dot n (piv T a s a) v = dot n (T a) v / T a s := by
  have e : dot n (piv T a s a) v = sumN n (fun c => (1 / T a s) * (T a c * v c)) := sumN_congr fun c _ => by
    show (if a = a then T a c / T a s else _) * v c = _
    rw [if_pos rfl]; grind
  rw [e, sumN_mul]; unfold dot; grind
theorem dot_piv_ne {T : Tab} {a s n r : Nat} (v : Nat → Rat) (h : r ≠ a) : dot n (piv T a s r) v = dot n (T r) v - T r s * (dot n (T a) v / T a s) := by
  have e : dot n (piv T a s r) v = sumN n (fun c => T r c * v c - (T r s / T a s) * (T a c * v c)) := sumN_congr fun c _ => by
    show (if r = a then _ else T r c - T r s * (T a c / T a s)) * v c = _
    rw [if_neg h]; grind
  rw [e, sumN_sub, sumN_mul]; unfold dot; grind
theorem piv_at (T : Tab) (a s c : Nat) : piv T a s a c = T a c / T a s := if_pos rfl
theorem piv_ne {T : Tab} {a s r : Nat} (c : Nat) (h : r ≠ a) : piv T a s r c = T r c - T r s * (T a c / T a s) := if_neg h
theorem sol_piv {T : Tab} {m n a s : Nat} {t : Rat} {v : Nat → Rat} (ha : a < m) (hp : T a s ≠ 0) (h : Sol T m n t v) : Sol (piv T a s) m n t v := fun r hr => by
  by_cases e : r = a
  · subst e
    rw [dot_piv_at, piv_at, h r ha]; grind
  · rw [dot_piv_ne v e, piv_ne n e, h r hr, h a ha]; grind
theorem sol_unpiv {T : Tab} {m n a s : Nat} {t : Rat} {v : Nat → Rat} (ha : a < m) (hp : T a s ≠ 0) (h : Sol (piv T a s) m n t v) : Sol T m n t v := by
  have h0 : dot n (T a) v = T a n * t := by
    have e := h a ha
    rw [dot_piv_at, piv_at] at e
    grind
  intro r hr
  by_cases e : r = a
  · subst e; exact h0
  · have q := h r hr
    rw [dot_piv_ne v e, piv_ne n e, h0] at q
    grind
theorem z_piv {T : Tab} {m n a s g : Nat} {t : Rat} {v : Nat → Rat} (ha : a < m) (hp : T a s ≠ 0) (h : Sol T m n t v) (hg : g ≠ a) : zof (piv T a s) n g t v = zof T n g t v := by
  unfold zof
  rw [dot_piv_ne v hg, piv_ne n hg, h a ha]; grind

/-! columns that stand -/
def vec (m : Nat) (B : Nat → Nat) (w : Nat → Rat) : Nat → Rat := fun c => sumN m (fun r => if B r = c then w r else 0)
structure Unit (T : Tab) (m n M : Nat) (B : Nat → Nat) : Prop where
  lt : ∀ r, r < m → B r < n
  one : ∀ r, r < m → ∀ q, q < M → T q (B r) = if q = r then 1 else 0
theorem Unit.inj {T : Tab} {m n M : Nat} {B : Nat → Nat} (U : Unit T m n M B) (hM : m ≤ M) {r q : Nat} (hr : r < m) (hq : q < m) (e : B r = B q) : r = q := by
  have h1 := U.one r hr r (by omega)
  rw [if_pos rfl, e, U.one q hq r (by omega)] at h1
  by_cases k : r = q
  · exact k
  · rw [if_neg k] at h1; grind
theorem dot_vec {m n : Nat} {B : Nat → Nat} (a : Nat → Rat) (w : Nat → Rat) (hB : ∀ r, r < m → B r < n) : dot n a (vec m B w) = sumN m (fun r => a (B r) * w r) := by
  have e : dot n a (vec m B w) = sumN n (fun c => sumN m (fun r => if B r = c then a c * w r else 0)) := sumN_congr fun c _ => by
    show a c * sumN m (fun r => if B r = c then w r else 0) = _
    rw [← sumN_mul]
    exact sumN_congr fun r _ => by split <;> grind
  rw [e, sumN_comm]
  exact sumN_congr fun r hr => by
    rw [sumN_one (hB r hr) fun c _ hc => if_neg fun z => hc z.symm, if_pos rfl]
theorem dot_vec_line {T : Tab} {m n M : Nat} {B : Nat → Nat} (U : Unit T m n M B) (hM : m ≤ M) (w : Nat → Rat) {q : Nat} (hq : q < m) : dot n (T q) (vec m B w) = w q := by
  rw [dot_vec (T q) w U.lt, sumN_one hq fun r hr hne => by
    rw [U.one r hr q (by omega), if_neg (fun z => hne z.symm)]; grind, U.one q hq q (by omega), if_pos rfl]
  grind
theorem dot_vec_goal {T : Tab} {m n M : Nat} {B : Nat → Nat} (U : Unit T m n M B) (w : Nat → Rat) {q : Nat} (h1 : m ≤ q) (h2 : q < M) : dot n (T q) (vec m B w) = 0 := by
  rw [dot_vec (T q) w U.lt]
  exact sumN_zero fun r hr => by
    rw [U.one r hr q h2, if_neg (by omega)]; grind
theorem vec_at {m : Nat} {B : Nat → Nat} {w : Nat → Rat} (inj : ∀ r q, r < m → q < m → B r = B q → r = q) {r : Nat} (hr : r < m) : vec m B w (B r) = w r := by
  unfold vec
  rw [sumN_one hr fun q hq hne => if_neg fun z => hne (inj q r hq hr z), if_pos rfl]
theorem vec_out {m : Nat} {B : Nat → Nat} {w : Nat → Rat} {c : Nat} (h : ∀ r, r < m → B r ≠ c) : vec m B w c = 0 := sumN_zero fun r hr => if_neg (h r hr)
def setB (B : Nat → Nat) (a s : Nat) : Nat → Nat := fun r => if r = a then s else B r
theorem unit_piv {T : Tab} {m n M : Nat} {B : Nat → Nat} (U : Unit T m n M B) (hM : m ≤ M) {a s : Nat} (ha : a < m) (hs : s < n) (hp : T a s ≠ 0) : Unit (piv T a s) m n M (setB B a s) := by
  refine ⟨fun r hr => ?_, fun r hr q hq => ?_⟩
  · unfold setB; split
    · exact hs
    · exact U.lt r hr
  · unfold setB
    by_cases e : r = a
    · rw [if_pos e, e]
      by_cases k : q = a
      · rw [k, piv_at, if_pos rfl]; grind
      · rw [piv_ne _ k, if_neg k]; grind
    · rw [if_neg e]
      have h0 : T a (B r) = 0 := by rw [U.one r hr a (by omega), if_neg (fun z => e z.symm)]
      by_cases k : q = a
      · rw [k, piv_at, h0, if_neg (fun z => e z.symm)]; grind
      · rw [piv_ne _ k, h0, U.one r hr q hq]; grind
/-- the values at which all columns but those that stand are nought -/
def bas (T : Tab) (m n : Nat) (B : Nat → Nat) : Nat → Rat := vec m B (fun r => T r n)
theorem sol_bas {T : Tab} {m n M : Nat} {B : Nat → Nat} (U : Unit T m n M B) (hM : m ≤ M) : Sol T m n 1 (bas T m n B) := fun r hr => by
  unfold bas
  rw [dot_vec_line U hM _ hr]; grind
theorem z_bas {T : Tab} {m n M g : Nat} {B : Nat → Nat} (U : Unit T m n M B) (h1 : m ≤ g) (h2 : g < M) : zof T n g 1 (bas T m n B) = - T g n := by
  unfold zof bas
  rw [dot_vec_goal U _ h1 h2]; grind
/-- the way on along a column -/
def dir (T : Tab) (m : Nat) (B : Nat → Nat) (s : Nat) : Nat → Rat := fun c => (if c = s then 1 else 0) - vec m B (fun r => T r s) c
theorem dot_dir {m n : Nat} {B : Nat → Nat} (T : Tab) (a : Nat → Rat) {s : Nat} (hs : s < n) : dot n a (dir T m B s) = a s - dot n a (vec m B (fun r => T r s)) := by
  have e : dot n a (dir T m B s) = sumN n (fun c => (if c = s then a c else 0) - a c * vec m B (fun r => T r s) c) := sumN_congr fun c _ => by
    show a c * ((if c = s then 1 else 0) - vec m B (fun r => T r s) c) = _
    split <;> grind
  rw [e, sumN_sub, sumN_one hs fun c _ h => if_neg h, if_pos rfl]; rfl
theorem sol_dir {T : Tab} {m n M s : Nat} {B : Nat → Nat} (U : Unit T m n M B) (hM : m ≤ M) (hs : s < n) : Sol T m n 0 (dir T m B s) := fun r hr => by
  rw [dot_dir T _ hs, dot_vec_line U hM _ hr]; grind
theorem z_dir {T : Tab} {m n M g s : Nat} {B : Nat → Nat} (U : Unit T m n M B) (hs : s < n) (h1 : m ≤ g) (h2 : g < M) : zof T n g 0 (dir T m B s) = T g s := by
  unfold zof
  rw [dot_dir T _ hs, dot_vec_goal U _ h1 h2]; grind
end PW
namespace PW
/-! Bland's rule: no basis comes twice -/
/-- one turn: column s comes to stand in line a -/
structure Step (m n border g : Nat) (T : Tab) (B : Nat → Nat) (a s : Nat) : Prop where
  am : a < m
  sb : s < border
  neg : T g s < 0
  least : ∀ c, c < s → 0 ≤ T g c
  pos : 0 < T a s
  ratio : ∀ r, r < m → 0 < T r s → 0 ≤ T r n * T a s - T a n * T r s
  tie : ∀ r, r < m → 0 < T r s → T r n * T a s - T a n * T r s = 0 → B a ≤ B r
structure Good (m n M : Nat) (T : Tab) (B : Nat → Nat) : Prop where
  u : Unit T m n M B
  rhs : ∀ r, r < m → 0 ≤ T r n
theorem div_nonneg' {a b : Rat} (h : 0 ≤ a) (hb : 0 < b) : 0 ≤ a / b := by
  rw [Rat.div_def]
  exact Rat.mul_nonneg h (Rat.le_of_lt (Rat.inv_pos.mpr hb))
theorem mul_nonpos' {a b : Rat} (h : a ≤ 0) (hb : 0 ≤ b) : a * b ≤ 0 := by
  have := Rat.mul_nonneg (show 0 ≤ -a by grind) hb
  grind
theorem good_step {m n M border g : Nat} {T : Tab} {B : Nat → Nat} {a s : Nat} (G : Good m n M T B) (hM : m ≤ M) (hb : border ≤ n) (S : Step m n border g T B a s) : Good m n M (piv T a s) (setB B a s) := by
  have hp := S.pos
  have hs := S.sb
  refine ⟨unit_piv G.u hM S.am (by omega) (by grind), fun r hr => ?_⟩
  by_cases e : r = a
  · rw [e, piv_at]
    exact div_nonneg' (G.rhs a S.am) S.pos
  · rw [piv_ne _ e]
    have h1 := G.rhs r hr
    have h2 := G.rhs a S.am
    have h3 := div_nonneg' h2 S.pos
    by_cases k : 0 < T r s
    · have q := S.ratio r hr k
      have e2 : T r n - T r s * (T a n / T a s) = (T r n * T a s - T a n * T r s) / T a s := by grind
      rw [e2]
      exact div_nonneg' q S.pos
    · have := mul_nonpos' (show T r s ≤ 0 by grind) h3
      grind
theorem step_change {P : Nat → Prop} (b : Nat) : ∀ (a : Nat), a ≤ b → P a → ¬ P b → ∃ k, a ≤ k ∧ k < b ∧ P k ∧ ¬ P (k + 1) := by
  induction b with
  | zero => intro a h p q; exact absurd (by rw [show (0:Nat) = a by omega]; exact p) q
  | succ b ih =>
    intro a h p q
    by_cases e : a = b + 1
    · exact absurd (e ▸ p) q
    · by_cases pb : P b
      · exact ⟨b, by omega, by omega, pb, q⟩
      · obtain ⟨k, h1, h2, h3⟩ := ih a (by omega) p pb
        exact ⟨k, h1, by omega, h3⟩
/-- a greatest one below a bound -/
theorem greatest {P : Nat → Prop} (N : Nat) (hN : ∀ c, P c → c < N) {c0 : Nat} (h0 : P c0) : ∃ t, P t ∧ ∀ c, P c → c ≤ t := by
  induction N generalizing c0 with
  | zero => exact absurd (hN c0 h0) (Nat.not_lt_zero _)
  | succ N ih =>
    by_cases p : P N
    · exact ⟨N, p, fun c hc => by have := hN c hc; omega⟩
    · exact ih (fun c hc => by
        have := hN c hc
        have : c ≠ N := fun e => p (e ▸ hc)
        omega) h0
section
variable {m n M border g : Nat} {T : Nat → Tab} {B : Nat → Nat → Nat} {a s : Nat → Nat} {i j : Nat}
/-- a run from i to j -/
structure Runs (m n M border g : Nat) (T : Nat → Tab) (B : Nat → Nat → Nat) (a s : Nat → Nat) (i j : Nat) : Prop where
  mM : m ≤ M
  bn : border ≤ n
  g1 : m ≤ g
  g2 : g < M
  g0 : Good m n M (T i) (B i)
  step : ∀ k, i ≤ k → k < j → Step m n border g (T k) (B k) (a k) (s k)
  nextT : ∀ k, i ≤ k → k < j → T (k + 1) = piv (T k) (a k) (s k)
  nextB : ∀ k, i ≤ k → k < j → B (k + 1) = setB (B k) (a k) (s k)
theorem Runs.good (R : Runs m n M border g T B a s i j) : ∀ k, i ≤ k → k ≤ j → Good m n M (T k) (B k) := by
  intro k
  induction k with
  | zero => intro h _; have e : i = 0 := by omega
            exact e ▸ R.g0
  | succ k ih =>
    intro h1 h2
    by_cases e : i = k + 1
    · exact e ▸ R.g0
    · rw [R.nextT k (by omega) (by omega), R.nextB k (by omega) (by omega)]
      exact good_step (ih (by omega) (by omega)) R.mM R.bn (R.step k (by omega) (by omega))
/-- the same values are told by all, and the same goal -/
theorem Runs.sol (R : Runs m n M border g T B a s i j) {t : Rat} {v : Nat → Rat} : ∀ k, i ≤ k → k ≤ j → (Sol (T i) m n t v ↔ Sol (T k) m n t v) ∧ (Sol (T i) m n t v → zof (T k) n g t v = zof (T i) n g t v) := by
  intro k
  induction k with
  | zero => intro h _; have e : i = 0 := by omega
            subst e; exact ⟨Iff.rfl, fun _ => rfl⟩
  | succ k ih =>
    intro h1 h2
    by_cases e : i = k + 1
    · subst e; exact ⟨Iff.rfl, fun _ => rfl⟩
    · have S := R.step k (by omega) (by omega)
      have hp : T k (a k) (s k) ≠ 0 := by have := S.pos; grind
      obtain ⟨h3, h4⟩ := ih (by omega) (by omega)
      rw [R.nextT k (by omega) (by omega)]
      refine ⟨⟨fun h => sol_piv S.am hp (h3.mp h), fun h => h3.mpr (sol_unpiv S.am hp h)⟩, fun h => ?_⟩
      have := S.am
      have := R.g1
      rw [z_piv S.am hp (h3.mp h) (by omega)]
      exact h4 h
theorem Runs.sol2 (R : Runs m n M border g T B a s i j) {t : Rat} {v : Nat → Rat} {k l : Nat} (h1 : i ≤ k) (h2 : k ≤ j) (h3 : i ≤ l) (h4 : l ≤ j) (h : Sol (T k) m n t v) : Sol (T l) m n t v ∧ zof (T l) n g t v = zof (T k) n g t v := by
  have a1 := R.sol (t := t) (v := v) k h1 h2
  have a2 := R.sol (t := t) (v := v) l h3 h4
  have h0 := a1.1.mpr h
  exact ⟨a2.1.mp h0, (a2.2 h0).trans (a1.2 h0).symm⟩
theorem bas_same {T T' : Tab} {B B' : Nat → Nat} (U : Unit T m n M B) (hM : m ≤ M) (hB : ∀ r, r < m → B' r = B r) (h : Sol T m n 1 (bas T' m n B')) : ∀ r, r < m → T' r n = T r n := fun r hr => by
  have e := h r hr
  have e2 : bas T' m n B' = vec m B (fun r => T' r n) := by
    funext c
    exact sumN_congr fun q hq => by rw [hB q hq]
  rw [e2, dot_vec_line U hM _ hr] at e
  grind
theorem Runs.obj_le (R : Runs m n M border g T B a s i j) (k : Nat) (h1 : i ≤ k) (h2 : k < j) : T (k + 1) g n = T k g n - T k g (s k) * (T k (a k) n / T k (a k) (s k)) ∧ 0 ≤ T k (a k) n / T k (a k) (s k) := by
  have S := R.step k h1 h2
  have := S.am
  have := R.g1
  rw [R.nextT k h1 h2]
  exact ⟨piv_ne n (by omega), div_nonneg' ((R.good k h1 (by omega)).rhs _ S.am) S.pos⟩
theorem Runs.mono (R : Runs m n M border g T B a s i j) : ∀ d k, i ≤ k → k + d ≤ j → T k g n ≤ T (k + d) g n := by
  intro d
  induction d with
  | zero => intro k _ _; exact Rat.le_refl
  | succ d ih =>
    intro k h1 h2
    have h3 := ih k h1 (by omega)
    obtain ⟨h4, h5⟩ := R.obj_le (k + d) (by omega) (by omega)
    have S := R.step (k + d) (by omega) (by omega)
    have := mul_nonpos' (show T (k + d) g (s (k + d)) ≤ 0 by have := S.neg; grind) h5
    rw [show k + (d + 1) = k + d + 1 from rfl, h4]
    grind
/-- NO BASIS COMES TWICE -/
theorem bland (R : Runs m n M border g T B a s i j) (hij : i < j) (hB : ∀ r, r < m → B i r = B j r) : False := by
  have hM := R.mM
  have hbn := R.bn
  have gI := R.good i (Nat.le_refl _) (by omega)
  have gJ := R.good j (by omega) (Nat.le_refl _)
  have obj : T i g n = T j g n := by
    have sJ := R.sol2 (k := j) (l := i) (by omega) (Nat.le_refl _) (Nat.le_refl _) (by omega) (sol_bas gJ.u hM)
    have e1 := bas_same gI.u hM (fun r hr => (hB r hr).symm) sJ.1
    have e2 : bas (T j) m n (B j) = bas (T i) m n (B i) := by
      funext c
      refine sumN_congr fun q hq => ?_
      show (if B j q = c then T j q n else 0) = if B i q = c then T i q n else 0
      rw [hB q hq, e1 q hq]
    have z1 := z_bas gJ.u R.g1 R.g2
    have z2 := z_bas gI.u R.g1 R.g2
    have z3 := sJ.2
    rw [e2] at z1 z3
    rw [z1] at z3
    rw [z3] at z2
    grind
  have objk : ∀ k, i ≤ k → k ≤ j → T k g n = T i g n := fun k h1 h2 => by
    have l1 := R.mono (k - i) i (Nat.le_refl _) (by omega)
    have l2 := R.mono (j - k) k h1 (by omega)
    rw [show i + (k - i) = k by omega] at l1
    rw [show k + (j - k) = j by omega] at l2
    grind
  -- every turn is of no length
  have zero : ∀ k, i ≤ k → k < j → T k (a k) n = 0 := fun k h1 h2 => by
    obtain ⟨e1, e2⟩ := R.obj_le k h1 h2
    rw [objk (k + 1) (by omega) (by omega), objk k h1 (by omega)] at e1
    have S := R.step k h1 h2
    have hn := S.neg
    have hp := S.pos
    have e3 : T k g (s k) * (T k (a k) n / T k (a k) (s k)) = 0 := by grind
    have e4 : T k (a k) n / T k (a k) (s k) = 0 := by
      rcases Rat.mul_eq_zero.mp e3 with h | h
      · grind
      · exact h
    grind
  have basK : ∀ k, i ≤ k → k ≤ j → bas (T k) m n (B k) = bas (T i) m n (B i) := by
    intro k
    induction k with
    | zero => intro h _; have e : i = 0 := by omega
              rw [e]
    | succ k ih =>
      intro h1 h2
      by_cases e : i = k + 1
      · rw [e]
      · rw [← ih (by omega) (by omega), R.nextT k (by omega) (by omega), R.nextB k (by omega) (by omega)]
        have z := zero k (by omega) (by omega)
        funext c
        refine sumN_congr fun r hr => ?_
        show (if setB (B k) (a k) (s k) r = c then piv (T k) (a k) (s k) r n else 0) = if B k r = c then T k r n else 0
        unfold setB
        by_cases q : r = a k
        · rw [q, piv_at, z]
          have : (0 : Rat) / T k (a k) (s k) = 0 := by rw [Rat.div_def]; grind
          rw [this]
          simp
        · rw [if_neg q, piv_ne _ q, z]
          have : T k r n - T k r (s k) * (0 / T k (a k) (s k)) = T k r n := by rw [Rat.div_def]; grind
          rw [this]
  -- the columns that come to stand
  let In : Nat → Nat → Prop := fun k c => ∃ r, r < m ∧ B k r = c
  let F : Nat → Prop := fun c => ∃ k, i ≤ k ∧ k < j ∧ s k = c
  have sNon : ∀ k, i ≤ k → k < j → ¬ In k (s k) := fun k h1 h2 ⟨r, hr, e⟩ => by
    have S := R.step k h1 h2
    have u := (R.good k h1 (by omega)).u.one r hr g R.g2
    have := R.g1
    rw [e, if_neg (by omega)] at u
    have := S.neg
    grind
  have sIn : ∀ k, i ≤ k → k < j → In (k + 1) (s k) := fun k h1 h2 => by
    have S := R.step k h1 h2
    refine ⟨a k, S.am, ?_⟩
    rw [R.nextB k h1 h2]
    exact if_pos rfl
  have comes : ∀ k c, i ≤ k → k < j → ¬ In k c → In (k + 1) c → s k = c := fun k c h1 h2 hn ⟨r, hr, e⟩ => by
    rw [R.nextB k h1 h2] at e
    unfold setB at e
    by_cases q : r = a k
    · rw [if_pos q] at e; exact e
    · rw [if_neg q] at e; exact absurd ⟨r, hr, e⟩ hn
  have goes : ∀ k c, i ≤ k → k < j → In k c → ¬ In (k + 1) c → B k (a k) = c := fun k c h1 h2 ⟨r, hr, e⟩ hn => by
    by_cases q : r = a k
    · rw [← q]; exact e
    · refine absurd ⟨r, hr, ?_⟩ hn
      rw [R.nextB k h1 h2]
      unfold setB
      rw [if_neg q]; exact e
  have inIJ : ∀ c, In i c ↔ In j c := fun c => ⟨fun ⟨r, hr, e⟩ => ⟨r, hr, by rw [← hB r hr]; exact e⟩, fun ⟨r, hr, e⟩ => ⟨r, hr, by rw [hB r hr]; exact e⟩⟩
  -- from nonbasic to basic: it comes
  have enters : ∀ c k l, i ≤ k → k ≤ l → l ≤ j → ¬ In k c → In l c → F c := fun c k l h1 h2 h3 hn hy => by
    obtain ⟨q, q1, q2, q3, q4⟩ := step_change (P := fun k => ¬ In k c) l k h2 hn (fun z => z hy)
    exact ⟨q, by omega, by omega, comes q c (by omega) (by omega) q3 (Classical.not_not.mp q4)⟩
  have inF : ∀ c k l, i ≤ k → k ≤ j → i ≤ l → l ≤ j → In k c → ¬ In l c → F c := fun c k l h1 h2 h3 h4 hy hn => by
    by_cases o : l ≤ k
    · exact enters c l k h3 o h2 hn hy
    · by_cases q : In j c
      · exact enters c l j h3 h4 (Nat.le_refl _) hn q
      · exact enters c i k (Nat.le_refl _) h1 h2 (fun z => q ((inIJ c).mp z)) hy
  obtain ⟨t, ⟨l, l1, l2, lt⟩, tmax⟩ := greatest (P := F) border (fun c ⟨k, h1, h2, e⟩ => e ▸ (R.step k h1 h2).sb) ⟨i, Nat.le_refl _, hij, rfl⟩
  have tN : ¬ In l t := lt ▸ sNon l l1 l2
  have tI : In (l + 1) t := lt ▸ sIn l l1 l2
  obtain ⟨k, k1, k2, kt⟩ : ∃ k, i ≤ k ∧ k < j ∧ B k (a k) = t := by
    by_cases q : In i t
    · obtain ⟨k, h1, h2, h3, h4⟩ := step_change (P := fun k => In k t) l i l1 q tN
      exact ⟨k, h1, by omega, goes k t h1 (by omega) h3 h4⟩
    · obtain ⟨k, h1, h2, h3, h4⟩ := step_change (P := fun k => In k t) j (l + 1) (by omega) tI (fun z => q ((inIJ t).mpr z))
      exact ⟨k, by omega, h2, goes k t (by omega) h2 h3 h4⟩
  have SK := R.step k k1 k2
  have SL := R.step l l1 l2
  have gK := R.good k k1 (by omega)
  have gL := R.good l l1 (by omega)
  have hsn : s k < n := by have := SK.sb; omega
  have zd := (R.sol2 (k := k) (l := l) k1 (by omega) l1 (by omega) (sol_dir gK.u hM hsn)).2
  rw [z_dir gK.u hsn R.g1 R.g2] at zd
  unfold zof at zd
  rw [dot_dir _ _ hsn, dot_vec _ _ gK.u.lt] at zd
  have p1 : 0 ≤ T l g (s k) := by
    have h1 := tmax (s k) ⟨k, k1, k2, rfl⟩
    have h2 : s k ≠ t := fun e => sNon k k1 k2 ⟨a k, SK.am, by rw [kt, e]⟩
    exact SL.least (s k) (by omega)
  have p2 : 0 ≤ sumN m (fun r => - (T l g (B k r) * T k r (s k))) := sumN_nonneg fun r hr => by
    by_cases q : In l (B k r)
    · obtain ⟨r', hr', e⟩ := q
      have u := gL.u.one r' hr' g R.g2
      have := R.g1
      rw [e, if_neg (by omega)] at u
      rw [u]; grind
    · have f := inF (B k r) k l k1 (by omega) l1 (by omega) ⟨r, hr, rfl⟩ q
      have ct := tmax _ f
      by_cases e : B k r = t
      · have er : r = a k := gK.u.inj hM hr SK.am (e.trans kt.symm)
        subst er
        have h1 := SL.neg
        have h2 := SK.pos
        rw [lt] at h1
        rw [e]
        have := mul_nonpos' (show T l g t ≤ 0 by grind) (show 0 ≤ T k (a k) (s k) by grind)
        grind
      · have h1 : 0 ≤ T l g (B k r) := SL.least _ (by omega)
        by_cases h2 : 0 < T k r (s k)
        · exfalso
          have rn : T k r n = 0 := by
            have w1 : bas (T k) m n (B k) (B k r) = T k r n := vec_at (fun r q hr hq e => gK.u.inj hM hr hq e) hr
            have w2 : bas (T l) m n (B l) (B k r) = 0 := vec_out fun r' hr' e' => q ⟨r', hr', e'⟩
            rw [basK l l1 (by omega), ← basK k k1 (by omega), w1] at w2
            exact w2
          have an := zero k k1 k2
          have := SK.tie r hr h2 (by rw [rn, an]; grind)
          omega
        · have := mul_nonpos' (show T k r (s k) ≤ 0 by grind) h1
          grind
  have p3 : sumN m (fun r => - (T l g (B k r) * T k r (s k))) = - sumN m (fun r => T l g (B k r) * T k r (s k)) := by
    have e := sumN_mul (-1) (fun r => T l g (B k r) * T k r (s k)) m
    have e2 : sumN m (fun r => - (T l g (B k r) * T k r (s k))) = sumN m (fun r => -1 * (T l g (B k r) * T k r (s k))) := sumN_congr fun r _ => by grind
    rw [e2, e]; grind
  have := SK.neg
  grind
end
end PW
namespace PW
/-! the turns end -/
theorem pigeon : ∀ (N : Nat) (f : Nat → Nat), (∀ i, i ≤ N → f i < N) → ∃ i j, i < j ∧ j ≤ N ∧ f i = f j
  | 0, f, h => absurd (h 0 (Nat.le_refl _)) (Nat.not_lt_zero _)
  | N + 1, f, h => by
    by_cases q : ∃ i, i ≤ N ∧ f i = f (N + 1)
    · obtain ⟨i, hi, e⟩ := q
      exact ⟨i, N + 1, by omega, Nat.le_refl _, e⟩
    · have ne : ∀ i, i ≤ N → f i ≠ f (N + 1) := fun i hi e => q ⟨i, hi, e⟩
      have hv := h (N + 1) (Nat.le_refl _)
      obtain ⟨i, j, h1, h2, h3⟩ := pigeon N (fun i => if f (N + 1) < f i then f i - 1 else f i) fun i hi => by
        have h1 := h i (by omega)
        have h2 := ne i hi
        show (if f (N + 1) < f i then f i - 1 else f i) < N
        split <;> omega
      refine ⟨i, j, h1, by omega, ?_⟩
      have n1 := ne i (by omega)
      have n2 := ne j (by omega)
      have h4 : (if f (N + 1) < f i then f i - 1 else f i) = (if f (N + 1) < f j then f j - 1 else f j) := h3
      split at h4 <;> split at h4 <;> omega
def code (n : Nat) (B : Nat → Nat) : Nat → Nat
  | 0 => 0
  | m + 1 => code n B m * n + B m
theorem code_lt {n : Nat} {B : Nat → Nat} : ∀ {m : Nat}, (∀ r, r < m → B r < n) → code n B m < n ^ m
  | 0, _ => by show 0 < 1; omega
  | m + 1, h => by
    have h1 := code_lt (n := n) (B := B) (m := m) fun r hr => h r (by omega)
    have h2 := h m (by omega)
    show code n B m * n + B m < n ^ m * n
    have h3 : (code n B m + 1) * n ≤ n ^ m * n := Nat.mul_le_mul_right n h1
    rw [Nat.add_mul] at h3
    omega
theorem code_inj {n : Nat} {B C : Nat → Nat} : ∀ {m : Nat}, (∀ r, r < m → B r < n) → (∀ r, r < m → C r < n) → code n B m = code n C m → ∀ r, r < m → B r = C r
  | 0, _, _, _ => fun r hr => absurd hr (Nat.not_lt_zero _)
  | m + 1, h, k, e => by
    have h2 := h m (by omega)
    have k2 := k m (by omega)
    have e : code n B m * n + B m = code n C m * n + C m := e
    have e1 : code n B m = code n C m := by
      have a : (code n B m * n + B m) / n = (code n C m * n + C m) / n := by rw [e]
      rw [Nat.mul_comm, Nat.mul_add_div (by omega), Nat.div_eq_of_lt h2, Nat.mul_comm, Nat.mul_add_div (by omega), Nat.div_eq_of_lt k2] at a
      omega
    rw [e1] at e
    intro r hr
    by_cases q : r = m
    · rw [q]; omega
    · exact code_inj (fun r hr => h r (by omega)) (fun r hr => k r (by omega)) e1 r (by omega)

/-- the least column below nought -/
def ent (T : Tab) (g border : Nat) : Option Nat := ((List.range border).filter fun c => decide (T g c < 0)).head?
theorem ent_some {T : Tab} {g border s : Nat} (h : ent T g border = some s) : s < border ∧ T g s < 0 ∧ ∀ c, c < s → 0 ≤ T g c := by
  unfold ent at h
  rw [List.head?_filter, List.find?_range_eq_some] at h
  obtain ⟨h1, h2, h3⟩ := h
  refine ⟨by simpa using h2, by simpa using h1, fun c hc => ?_⟩
  have := h3 c hc
  simp only [Bool.not_eq_true', decide_eq_false_iff_not] at this
  grind
theorem ent_none {T : Tab} {g border : Nat} (h : ent T g border = none) : ∀ c, c < border → 0 ≤ T g c := fun c hc => by
  unfold ent at h
  rw [List.head?_filter, List.find?_range_eq_none] at h
  have := h c hc
  simp only [Bool.not_eq_true', decide_eq_false_iff_not] at this
  grind
def off (T : Tab) (n s r b : Nat) : Rat := T r n * T b s - T b n * T r s
/-- the line that the column comes to stand in, among the first k -/
def lea (T : Tab) (B : Nat → Nat) (n s : Nat) : Nat → Option Nat
  | 0 => none
  | k + 1 => match lea T B n s k with
    | none => if 0 < T k s then some k else none
    | some b => if 0 < T k s ∧ (off T n s k b < 0 ∨ (off T n s k b = 0 ∧ B k < B b)) then some k else some b
theorem off_eq {T : Tab} {n s r b : Nat} (h1 : 0 < T r s) (h2 : 0 < T b s) : off T n s r b = (T r n / T r s - T b n / T b s) * (T r s * T b s) := by
  unfold off; grind
theorem off_neg {T : Tab} {n s r b : Nat} (h1 : 0 < T r s) (h2 : 0 < T b s) : off T n s r b < 0 ↔ T r n / T r s < T b n / T b s := by
  rw [off_eq h1 h2]
  have p := Rat.mul_pos h1 h2
  constructor
  · intro h
    by_cases q : T r n / T r s < T b n / T b s
    · exact q
    · have := Rat.mul_nonneg (show 0 ≤ T r n / T r s - T b n / T b s by grind) (Rat.le_of_lt p)
      grind
  · intro h
    have := Rat.mul_pos (show 0 < T b n / T b s - T r n / T r s by grind) p
    grind
theorem off_zero {T : Tab} {n s r b : Nat} (h1 : 0 < T r s) (h2 : 0 < T b s) : off T n s r b = 0 ↔ T r n / T r s = T b n / T b s := by
  rw [off_eq h1 h2]
  have p := Rat.mul_pos h1 h2
  constructor
  · intro h
    rcases Rat.mul_eq_zero.mp h with h | h
    · grind
    · grind
  · intro h
    rw [h]; grind
theorem lea_none {T : Tab} {B : Nat → Nat} {n s : Nat} : ∀ {k : Nat}, lea T B n s k = none → ∀ r, r < k → T r s ≤ 0
  | 0, _ => fun r hr => absurd hr (Nat.not_lt_zero _)
  | k + 1, h => fun r hr => by
    unfold lea at h
    cases e : lea T B n s k with
    | none =>
      rw [e] at h
      simp only [] at h
      by_cases q : 0 < T k s
      · rw [if_pos q] at h; cases h
      · by_cases z : r = k
        · rw [z]; grind
        · exact lea_none e r (by omega)
    | some b =>
      rw [e] at h
      simp only [] at h
      split at h <;> cases h
theorem lea_some {T : Tab} {B : Nat → Nat} {n s : Nat} : ∀ {k a : Nat}, lea T B n s k = some a → a < k ∧ 0 < T a s ∧ ∀ r, r < k → 0 < T r s → T a n / T a s < T r n / T r s ∨ (T a n / T a s = T r n / T r s ∧ B a ≤ B r)
  | 0, a, h => by cases h
  | k + 1, a, h => by
    unfold lea at h
    cases e : lea T B n s k with
    | none =>
      rw [e] at h
      simp only [] at h
      by_cases q : 0 < T k s
      · rw [if_pos q] at h
        cases h
        refine ⟨by omega, q, fun r hr hp => ?_⟩
        by_cases z : r = k
        · rw [z]; exact .inr ⟨rfl, Nat.le_refl _⟩
        · have := lea_none e r (by omega)
          grind
      · rw [if_neg q] at h; cases h
    | some b =>
      obtain ⟨i1, i2, i3⟩ := lea_some e
      rw [e] at h
      simp only [] at h
      by_cases q : 0 < T k s ∧ (off T n s k b < 0 ∨ (off T n s k b = 0 ∧ B k < B b))
      · rw [if_pos q] at h
        cases h
        obtain ⟨q1, q2⟩ := q
        rw [off_neg q1 i2, off_zero q1 i2] at q2
        refine ⟨by omega, q1, fun r hr hp => ?_⟩
        by_cases z : r = k
        · rw [z]; exact .inr ⟨rfl, Nat.le_refl _⟩
        · rcases i3 r (by omega) hp with w | ⟨w1, w2⟩
          · rcases q2 with q2 | ⟨q2, _⟩
            · exact .inl (by grind)
            · exact .inl (by grind)
          · rcases q2 with q2 | ⟨q2, q3⟩
            · exact .inl (by grind)
            · exact .inr ⟨by grind, by omega⟩
      · rw [if_neg q] at h
        cases h
        refine ⟨by omega, i2, fun r hr hp => ?_⟩
        by_cases z : r = k
        · subst z
          rw [off_neg hp i2, off_zero hp i2] at q
          by_cases w1 : T a n / T a s < T r n / T r s
          · exact .inl w1
          · refine .inr ?_
            have w2 : ¬ T r n / T r s < T a n / T a s := fun w => q ⟨hp, .inl w⟩
            have w3 : T r n / T r s = T a n / T a s := by grind
            refine ⟨w3.symm, ?_⟩
            by_cases w4 : B r < B a
            · exact absurd ⟨hp, .inr ⟨w3, w4⟩⟩ q
            · omega
        · exact i3 r (by omega) hp
structure St where
  T : Tab
  B : Nat → Nat
def turnS (x : St) (a s : Nat) : St := ⟨piv x.T a s, setB x.B a s⟩
def pick (m n border g : Nat) (x : St) : Option (Nat × Nat) := match ent x.T g border with
  | none => none
  | some s => match lea x.T x.B n s m with
    | none => none
    | some a => some (a, s)
theorem pick_step {m n border g : Nat} {x : St} {a s : Nat} (h : pick m n border g x = some (a, s)) : Step m n border g x.T x.B a s := by
  unfold pick at h
  cases e : ent x.T g border with
  | none => simp only [e] at h; cases h
  | some s' =>
    rw [e] at h
    simp only [] at h
    cases f : lea x.T x.B n s' m with
    | none => rw [f] at h; cases h
    | some a' =>
      rw [f] at h
      cases h
      obtain ⟨e1, e2, e3⟩ := ent_some e
      obtain ⟨f1, f2, f3⟩ := lea_some f
      refine ⟨f1, e1, e2, e3, f2, fun r hr hp => ?_, fun r hr hp z => ?_⟩
      · have n1 := off_neg (n := n) hp f2
        have n2 : ¬ off x.T n s r a < 0 := fun w => by
          have := n1.mp w
          rcases f3 r hr hp with q | ⟨q, _⟩ <;> grind
        unfold off at n2
        grind
      · have n1 := (off_zero (n := n) hp f2).mp z
        rcases f3 r hr hp with q | ⟨_, q⟩
        · grind
        · exact q
def go (m n border g : Nat) (x : St) : Nat → St
  | 0 => x
  | k + 1 => match pick m n border g (go m n border g x k) with
    | some (a, s) => turnS (go m n border g x k) a s
    | none => go m n border g x k
theorem least_of {P : Nat → Prop} : ∀ k, P k → ∃ l, P l ∧ ∀ i, i < l → ¬ P i
  | k, h => by
    by_cases q : ∃ i, i < k ∧ P i
    · obtain ⟨i, hi, p⟩ := q
      exact least_of i p
    · exact ⟨k, h, fun i hi p => q ⟨i, hi, p⟩⟩
theorem go_good {m n M border g : Nat} {x : St} (G : Good m n M x.T x.B) (hM : m ≤ M) (hb : border ≤ n) : ∀ k, Good m n M (go m n border g x k).T (go m n border g x k).B
  | 0 => G
  | k + 1 => by
    unfold go
    cases e : pick m n border g (go m n border g x k) with
    | none => exact go_good G hM hb k
    | some p =>
      obtain ⟨a, s⟩ := p
      exact good_step (go_good G hM hb k) hM hb (pick_step e)
/-- THE TURNS END -/
theorem stops {m n M border g : Nat} {x : St} (G : Good m n M x.T x.B) (hM : m ≤ M) (hb : border ≤ n) (g1 : m ≤ g) (g2 : g < M) :
    ∃ k, pick m n border g (go m n border g x k) = none ∧ ∀ l, l < k → pick m n border g (go m n border g x l) ≠ none := by
  by_cases q : ∃ k, pick m n border g (go m n border g x k) = none
  · obtain ⟨k, h⟩ := q
    exact least_of k h
  · exfalso
    have some_ : ∀ k, ∃ p : Nat × Nat, pick m n border g (go m n border g x k) = some p := fun k => by
      cases e : pick m n border g (go m n border g x k) with
      | none => exact absurd ⟨k, e⟩ q
      | some p => exact ⟨p, rfl⟩
    let p : Nat → Nat × Nat := fun k => Classical.choose (some_ k)
    have hp : ∀ k, pick m n border g (go m n border g x k) = some ((p k).1, (p k).2) := fun k => Classical.choose_spec (some_ k)
    have nx : ∀ k, go m n border g x (k + 1) = turnS (go m n border g x k) (p k).1 (p k).2 := fun k => by
      show (match pick m n border g (go m n border g x k) with
        | some (a, s) => turnS (go m n border g x k) a s
        | none => go m n border g x k) = _
      rw [hp k]
    obtain ⟨i, j, h1, h2, h3⟩ := pigeon (n ^ m) (fun k => code n (go m n border g x k).B m) fun k _ => code_lt (go_good G hM hb k).u.lt
    refine bland (m := m) (n := n) (M := M) (border := border) (g := g) (T := fun k => (go m n border g x k).T) (B := fun k => (go m n border g x k).B) (a := fun k => (p k).1) (s := fun k => (p k).2) (i := i) (j := j) ⟨hM, hb, g1, g2, go_good G hM hb i, fun k _ _ => pick_step (hp k), fun k _ _ => ?_, fun k _ _ => ?_⟩ h1 (code_inj (go_good G hM hb i).u.lt (go_good G hM hb j).u.lt h3)
    · show (go m n border g x (k + 1)).T = _
      rw [nx k]; rfl
    · show (go m n border g x (k + 1)).B = _
      rw [nx k]; rfl
end PW
namespace PW
/-! lines laid out: slack columns, made up columns -/
inductive Mark where
  | le | ge | eq
  deriving DecidableEq
def Mark.flip : Mark → Mark
  | .le => .ge
  | .ge => .le
  | .eq => .eq
structure Line where
  a : Rat
  b : Rat
  mark : Mark
  c : Rat
def holdsM (mk : Mark) (x y : Rat) : Prop := match mk with
  | .le => x ≤ y
  | .ge => y ≤ x
  | .eq => x = y
def Line.holds (l : Line) (t x y : Rat) : Prop := holdsM l.mark (l.a * x + l.b * y) (l.c * t)
def upr (l : Line) : Line := if 0 ≤ l.c then l else ⟨-l.a, -l.b, l.mark.flip, -l.c⟩
theorem upr_c (l : Line) : 0 ≤ (upr l).c := by
  unfold upr; split
  · assumption
  · show 0 ≤ -l.c
    grind
theorem upr_holds (l : Line) (t x y : Rat) : (upr l).holds t x y ↔ l.holds t x y := by
  unfold upr
  split
  · exact Iff.rfl
  · cases l with | mk a b k c =>
    cases k <;> simp only [Line.holds, holdsM, Mark.flip] <;> constructor <;> intro h <;> grind
section
variable (L : Nat → Line)
/-- how many of the first k lines have a slack column, a made up one -/
def nS : Nat → Nat
  | 0 => 0
  | k + 1 => nS k + if (L k).mark = .eq then 0 else 1
def nA : Nat → Nat
  | 0 => 0
  | k + 1 => nA k + if (L k).mark = .le then 0 else 1
def sl (i : Nat) : Nat := 2 + nS L i
def bord (m : Nat) : Nat := 2 + nS L m
def ar (m i : Nat) : Nat := bord L m + nA L i
def wid (m : Nat) : Nat := bord L m + nA L m
def ownc (m i : Nat) : Nat := if (L i).mark = .le then sl L i else ar L m i
def exq (m i c : Nat) : Rat := (if (L i).mark ≠ .eq ∧ c = sl L i then (if (L i).mark = .le then 1 else -1) else 0) + (if (L i).mark ≠ .le ∧ c = ar L m i then 1 else 0)
def lin (m i c : Nat) : Rat := if c = 0 then (L i).a else if c = 1 then (L i).b else if c = wid L m then (L i).c else exq L m i c
def mis (m c : Nat) : Rat := - sumN m (fun i => if (L i).mark = .le then 0 else lin L m i c - if c = ar L m i then 1 else 0)
/-- the tableau: m lines, the goal, what is missing -/
def tab (m : Nat) (g0 g1 : Rat) : Tab := fun r c => if r < m then lin L m r c else if r = m then (if c = 0 then g0 else if c = 1 then g1 else 0) else mis L m c
end
section
variable {L : Nat → Line}
theorem nS_mono {i k : Nat} (h : i ≤ k) : nS L i ≤ nS L k := by
  induction k with
  | zero => rw [show i = 0 by omega]; exact Nat.le_refl _
  | succ k ih =>
    by_cases e : i = k + 1
    · rw [e]; exact Nat.le_refl _
    · have := ih (by omega)
      have e2 : nS L (k + 1) = nS L k + if (L k).mark = .eq then 0 else 1 := rfl
      omega
theorem nA_mono {i k : Nat} (h : i ≤ k) : nA L i ≤ nA L k := by
  induction k with
  | zero => rw [show i = 0 by omega]; exact Nat.le_refl _
  | succ k ih =>
    by_cases e : i = k + 1
    · rw [e]; exact Nat.le_refl _
    · have := ih (by omega)
      have e2 : nA L (k + 1) = nA L k + if (L k).mark = .le then 0 else 1 := rfl
      omega
theorem nS_lt {i k : Nat} (h : i < k) (hm : (L i).mark ≠ .eq) : nS L i < nS L k := by
  have h1 := nS_mono (L := L) (show i + 1 ≤ k from h)
  have h2 : nS L (i + 1) = nS L i + 1 := by
    show nS L i + (if (L i).mark = .eq then 0 else 1) = _
    rw [if_neg hm]
  omega
theorem nA_lt {i k : Nat} (h : i < k) (hm : (L i).mark ≠ .le) : nA L i < nA L k := by
  have h1 := nA_mono (L := L) (show i + 1 ≤ k from h)
  have h2 : nA L (i + 1) = nA L i + 1 := by
    show nA L i + (if (L i).mark = .le then 0 else 1) = _
    rw [if_neg hm]
  omega
theorem sl_lt {m i : Nat} (h : i < m) (hm : (L i).mark ≠ .eq) : sl L i < bord L m := by
  have := nS_lt h hm
  unfold sl bord; omega
theorem sl_inj {i j : Nat} (hi : (L i).mark ≠ .eq) (hj : (L j).mark ≠ .eq) (e : sl L i = sl L j) : i = j := by
  unfold sl at e
  by_cases h : i < j
  · have := nS_lt h hi; omega
  · by_cases k : j < i
    · have := nS_lt k hj; omega
    · omega
theorem ar_inj {m i j : Nat} (hi : (L i).mark ≠ .le) (hj : (L j).mark ≠ .le) (e : ar L m i = ar L m j) : i = j := by
  unfold ar at e
  by_cases h : i < j
  · have := nA_lt h hi; omega
  · by_cases k : j < i
    · have := nA_lt k hj; omega
    · omega
theorem ar_lt {m i : Nat} (h : i < m) (hm : (L i).mark ≠ .le) : ar L m i < wid L m := by
  have := nA_lt h hm
  unfold ar wid; omega
theorem ar_ge (m i : Nat) : bord L m ≤ ar L m i := by unfold ar; omega
/-- each made up column is some line's -/
theorem ar_all {m : Nat} : ∀ k c, k ≤ m → c < nA L k → ∃ i, i < k ∧ (L i).mark ≠ .le ∧ nA L i = c := by
  intro k
  induction k with
  | zero => intro c _ h; exact absurd h (Nat.not_lt_zero _)
  | succ k ih =>
    intro c hk h
    have e : nA L (k + 1) = nA L k + if (L k).mark = .le then 0 else 1 := rfl
    by_cases q : c < nA L k
    · obtain ⟨i, h1, h2⟩ := ih c (by omega) q
      exact ⟨i, by omega, h2⟩
    · by_cases z : (L k).mark = .le
      · rw [if_pos z] at e; omega
      · rw [if_neg z] at e
        exact ⟨k, by omega, z, by omega⟩
theorem ar_of {m c : Nat} (h1 : bord L m ≤ c) (h2 : c < wid L m) : ∃ i, i < m ∧ (L i).mark ≠ .le ∧ ar L m i = c := by
  unfold wid at h2
  obtain ⟨i, a, b, e⟩ := ar_all (L := L) (m := m) m (c - bord L m) (Nat.le_refl _) (by omega)
  exact ⟨i, a, b, by unfold ar; omega⟩
/-- the part of a line that its own columns bring -/
def own (L : Nat → Line) (m i : Nat) (v : Nat → Rat) : Rat := match (L i).mark with
  | .le => v (sl L i)
  | .ge => v (ar L m i) - v (sl L i)
  | .eq => v (ar L m i)
theorem two_le_wid (m : Nat) : 2 ≤ bord L m := by unfold bord; omega
theorem sumN_ite {n k : Nat} (h : k < n) (x : Rat) (v : Nat → Rat) : sumN n (fun c => (if c = k then x else 0) * v c) = x * v k := by
  rw [sumN_one h fun c _ hc => by rw [if_neg hc]; grind, if_pos rfl]
theorem dot_lin {m i : Nat} (hi : i < m) (v : Nat → Rat) : dot (wid L m) (lin L m i) v = (L i).a * v 0 + (L i).b * v 1 + own L m i v := by
  have h2 : 2 ≤ wid L m := by have := two_le_wid (L := L) m; unfold wid; omega
  have e : dot (wid L m) (lin L m i) v = sumN (wid L m) (fun c => ((if c = 0 then (L i).a else 0) * v c + (if c = 1 then (L i).b else 0) * v c) + ((if (L i).mark ≠ .eq ∧ c = sl L i then (if (L i).mark = .le then 1 else -1) else 0) * v c + (if (L i).mark ≠ .le ∧ c = ar L m i then 1 else 0) * v c)) :=
    sumN_congr fun c hc => by
      show lin L m i c * v c = _
      unfold lin exq
      have hs : ∀ q, 2 ≤ sl L q := fun q => by unfold sl; omega
      have hr : ∀ q, 2 ≤ ar L m q := fun q => by unfold ar bord; omega
      by_cases c0 : c = 0
      · subst c0
        have a1 := hs i
        have a2 := hr i
        rw [if_pos rfl, if_pos rfl, if_neg (by omega), if_neg (by omega), if_neg (by omega)]; grind
      · by_cases c1 : c = 1
        · subst c1
          have a1 := hs i
          have a2 := hr i
          rw [if_neg (by omega), if_pos rfl, if_neg (by omega), if_pos rfl, if_neg (by omega), if_neg (by omega)]; grind
        · rw [if_neg c0, if_neg c1, if_neg (by omega), if_neg c0, if_neg c1]; grind
  rw [e, sumN_add, sumN_add, sumN_add, sumN_ite (by omega), sumN_ite (by omega)]
  unfold own
  cases hm : (L i).mark with
  | le =>
    have h := sl_lt hi (show (L i).mark ≠ .eq by rw [hm]; decide)
    have w : bord L m ≤ wid L m := by unfold wid; omega
    have e1 : sumN (wid L m) (fun c => (if Mark.le ≠ .eq ∧ c = sl L i then (if Mark.le = .le then 1 else -1) else 0) * v c) = 1 * v (sl L i) := by
      rw [← sumN_ite (show sl L i < wid L m by omega) 1 v]
      exact sumN_congr fun c _ => by simp
    have e2 : sumN (wid L m) (fun c => (if Mark.le ≠ .le ∧ c = ar L m i then 1 else 0) * v c) = 0 := sumN_zero fun c _ => by simp
    rw [e1, e2]; grind
  | ge =>
    have h := sl_lt hi (show (L i).mark ≠ .eq by rw [hm]; decide)
    have h' := ar_lt hi (show (L i).mark ≠ .le by rw [hm]; decide)
    have w : bord L m ≤ wid L m := by unfold wid; omega
    have e1 : sumN (wid L m) (fun c => (if Mark.ge ≠ .eq ∧ c = sl L i then (if Mark.ge = .le then 1 else -1) else 0) * v c) = -1 * v (sl L i) := by
      rw [← sumN_ite (show sl L i < wid L m by omega) (-1) v]
      exact sumN_congr fun c _ => by simp
    have e2 : sumN (wid L m) (fun c => (if Mark.ge ≠ .le ∧ c = ar L m i then 1 else 0) * v c) = 1 * v (ar L m i) := by
      rw [← sumN_ite h' 1 v]
      exact sumN_congr fun c _ => by simp
    rw [e1, e2]; grind
  | eq =>
    have h' := ar_lt hi (show (L i).mark ≠ .le by rw [hm]; decide)
    have e1 : sumN (wid L m) (fun c => (if Mark.eq ≠ .eq ∧ c = sl L i then (if Mark.eq = .le then 1 else -1) else 0) * v c) = 0 := sumN_zero fun c _ => by simp
    have e2 : sumN (wid L m) (fun c => (if Mark.eq ≠ .le ∧ c = ar L m i then 1 else 0) * v c) = 1 * v (ar L m i) := by
      rw [← sumN_ite h' 1 v]
      exact sumN_congr fun c _ => by simp
    rw [e1, e2]; grind
theorem wid_ge (m : Nat) : bord L m ≤ wid L m := by unfold wid; omega
theorem lin_c {m i : Nat} : lin L m i (wid L m) = (L i).c := by
  have h2 := two_le_wid (L := L) m
  have w := wid_ge (L := L) m
  unfold lin
  rw [if_neg (by omega), if_neg (by omega), if_pos rfl]
theorem ownc_lt {m i : Nat} (h : i < m) : ownc L m i < wid L m := by
  unfold ownc
  split
  · rename_i q
    have := sl_lt h (show (L i).mark ≠ .eq by rw [q]; decide)
    have := wid_ge (L := L) m
    omega
  · exact ar_lt h (by assumption)
theorem ownc_ge {m i : Nat} : 2 ≤ ownc L m i := by
  unfold ownc sl ar bord; split <;> omega
theorem lin_own {m i j : Nat} (hi : i < m) (hj : j < m) : lin L m i (ownc L m j) = if i = j then 1 else 0 := by
  have h1 := ownc_lt (L := L) hj
  have h2 := ownc_ge (L := L) (m := m) (i := j)
  unfold lin
  rw [if_neg (by omega), if_neg (by omega), if_neg (by omega)]
  unfold exq
  by_cases q : (L j).mark = .le
  · have q1 : (L j).mark ≠ .eq := by rw [q]; decide
    have e : ownc L m j = sl L j := by unfold ownc; rw [if_pos q]
    have n1 : ¬ ((L i).mark ≠ .le ∧ sl L j = ar L m i) := fun ⟨_, z⟩ => by
      have := sl_lt hj q1
      have := ar_ge (L := L) m i
      omega
    rw [e, if_neg n1]
    by_cases k : i = j
    · subst k
      rw [if_pos ⟨q1, rfl⟩, if_pos q, if_pos rfl]; grind
    · rw [if_neg fun ⟨z1, z2⟩ => k (sl_inj z1 q1 z2.symm), if_neg k]; grind
  · have e : ownc L m j = ar L m j := by unfold ownc; rw [if_neg q]
    have n1 : ¬ ((L i).mark ≠ .eq ∧ ar L m j = sl L i) := fun ⟨z, z2⟩ => by
      have := sl_lt hi z
      have := ar_ge (L := L) m j
      omega
    rw [e, if_neg n1]
    by_cases k : i = j
    · subst k
      rw [if_pos ⟨q, rfl⟩, if_pos rfl]; grind
    · rw [if_neg fun ⟨z1, z2⟩ => k (ar_inj z1 q z2.symm), if_neg k]; grind
theorem mis_own {m j : Nat} (hj : j < m) : mis L m (ownc L m j) = 0 := by
  unfold mis
  rw [sumN_zero fun i hi => ?_]
  · grind
  · by_cases q : (L i).mark = .le
    · rw [if_pos q]
    · rw [if_neg q, lin_own hi hj]
      by_cases k : i = j
      · subst k
        rw [if_pos rfl, if_pos (by unfold ownc; rw [if_neg q])]; grind
      · rw [if_neg k]
        by_cases z : ownc L m j = ar L m i
        · exfalso
          unfold ownc at z
          by_cases p : (L j).mark = .le
          · rw [if_pos p] at z
            have := sl_lt hj (show (L j).mark ≠ .eq by rw [p]; decide)
            have := ar_ge (L := L) m i
            omega
          · rw [if_neg p] at z
            exact k (ar_inj q p z.symm)
        · rw [if_neg z]; grind
/-- what is missing, by the made up columns -/
theorem dot_mis {m : Nat} {t : Rat} {v : Nat → Rat} (h : ∀ i, i < m → dot (wid L m) (lin L m i) v = (L i).c * t) :
    dot (wid L m) (mis L m) v - mis L m (wid L m) * t = sumN m (fun i => if (L i).mark = .le then 0 else v (ar L m i)) := by
  have e : dot (wid L m) (mis L m) v = - sumN m (fun i => if (L i).mark = .le then 0 else (L i).c * t - v (ar L m i)) := by
    have e1 : dot (wid L m) (mis L m) v = sumN (wid L m) (fun c => (-1) * sumN m (fun i => if (L i).mark = .le then 0 else lin L m i c * v c - (if c = ar L m i then 1 else 0) * v c)) := sumN_congr fun c _ => by
      show mis L m c * v c = _
      unfold mis
      have e2 : sumN m (fun i => if (L i).mark = .le then 0 else lin L m i c * v c - (if c = ar L m i then 1 else 0) * v c) = v c * sumN m (fun i => if (L i).mark = .le then 0 else lin L m i c - if c = ar L m i then 1 else 0) := by
        rw [← sumN_mul]
        exact sumN_congr fun i _ => by
          by_cases q : (L i).mark = .le
          · rw [if_pos q, if_pos q]; grind
          · rw [if_neg q, if_neg q]; grind
      rw [e2]; grind
    rw [e1, sumN_mul, sumN_comm]
    have e3 : sumN m (fun j => sumN (wid L m) (fun i => if (L j).mark = .le then 0 else lin L m j i * v i - (if i = ar L m j then 1 else 0) * v i)) = sumN m (fun i => if (L i).mark = .le then 0 else (L i).c * t - v (ar L m i)) := sumN_congr fun j hj => by
      by_cases q : (L j).mark = .le
      · rw [if_pos q]
        exact sumN_zero fun c _ => if_pos q
      · rw [if_neg q, ← h j hj]
        have e4 : sumN (wid L m) (fun i => if (L j).mark = .le then 0 else lin L m j i * v i - (if i = ar L m j then 1 else 0) * v i) = sumN (wid L m) (fun i => lin L m j i * v i - (if i = ar L m j then 1 else 0) * v i) := sumN_congr fun c _ => if_neg q
        rw [e4, sumN_sub, sumN_ite (ar_lt hj q)]
        show dot (wid L m) (lin L m j) v - 1 * v (ar L m j) = _
        grind
    rw [e3]; grind
  have e5 : mis L m (wid L m) = - sumN m (fun i => if (L i).mark = .le then 0 else (L i).c) := by
    unfold mis
    have : sumN m (fun i => if (L i).mark = .le then 0 else lin L m i (wid L m) - if wid L m = ar L m i then 1 else 0) = sumN m (fun i => if (L i).mark = .le then 0 else (L i).c) := sumN_congr fun i hi => by
      by_cases q : (L i).mark = .le
      · rw [if_pos q, if_pos q]
      · have := ar_lt hi q
        rw [if_neg q, if_neg q, lin_c, if_neg (by omega)]; grind
    rw [this]
  have e6 : sumN m (fun i => if (L i).mark = .le then 0 else (L i).c * t - v (ar L m i)) = t * sumN m (fun i => if (L i).mark = .le then 0 else (L i).c) - sumN m (fun i => if (L i).mark = .le then 0 else v (ar L m i)) := by
    rw [← sumN_mul, ← sumN_sub]
    exact sumN_congr fun i _ => by
      by_cases q : (L i).mark = .le
      · simp only [if_pos q]; grind
      · simp only [if_neg q]; grind
  rw [e, e5, e6]; grind
/-! the tableau at the start -/
theorem tab_lin {m r : Nat} {g0 g1 : Rat} (h : r < m) : tab L m g0 g1 r = lin L m r := by
  funext c; unfold tab; rw [if_pos h]
theorem tab_mis {m : Nat} {g0 g1 : Rat} : tab L m g0 g1 (m + 1) = mis L m := by
  funext c; unfold tab; rw [if_neg (by omega), if_neg (by omega)]
theorem tab_goal {m c : Nat} {g0 g1 : Rat} : tab L m g0 g1 m c = if c = 0 then g0 else if c = 1 then g1 else 0 := by
  unfold tab; rw [if_neg (by omega), if_pos rfl]
theorem unit0 (m : Nat) (g0 g1 : Rat) : Unit (tab L m g0 g1) m (wid L m) (m + 2) (ownc L m) := by
  refine ⟨fun r hr => ownc_lt hr, fun r hr q hq => ?_⟩
  by_cases h : q < m
  · rw [tab_lin h, lin_own h hr]
  · rw [if_neg (by omega)]
    by_cases k : q = m
    · have := ownc_ge (L := L) (m := m) (i := r)
      rw [k, tab_goal, if_neg (by omega), if_neg (by omega)]
    · rw [show q = m + 1 by omega, tab_mis, mis_own hr]
theorem good0 {m : Nat} {g0 g1 : Rat} (hc : ∀ i, i < m → 0 ≤ (L i).c) : Good m (wid L m) (m + 2) (tab L m g0 g1) (ownc L m) :=
  ⟨unit0 m g0 g1, fun r hr => by rw [tab_lin hr, lin_c]; exact hc r hr⟩
theorem sol0 {m : Nat} {g0 g1 t : Rat} {v : Nat → Rat} : Sol (tab L m g0 g1) m (wid L m) t v ↔ ∀ i, i < m → (L i).a * v 0 + (L i).b * v 1 + own L m i v = (L i).c * t := by
  constructor
  · intro h i hi
    have := h i hi
    rw [tab_lin hi, dot_lin hi, lin_c] at this
    exact this
  · intro h i hi
    rw [tab_lin hi, dot_lin hi, lin_c]
    exact h i hi
theorem z_goal0 {m : Nat} {g0 g1 t : Rat} {v : Nat → Rat} : zof (tab L m g0 g1) (wid L m) m t v = g0 * v 0 + g1 * v 1 := by
  have h2 := two_le_wid (L := L) m
  have w := wid_ge (L := L) m
  unfold zof
  have e : dot (wid L m) (tab L m g0 g1 m) v = sumN (wid L m) (fun c => (if c = 0 then g0 else 0) * v c + (if c = 1 then g1 else 0) * v c) := sumN_congr fun c _ => by
    show tab L m g0 g1 m c * v c = _
    rw [tab_goal]
    by_cases c0 : c = 0
    · rw [if_pos c0, if_pos c0, if_neg (by omega)]; grind
    · rw [if_neg c0, if_neg c0]; grind
  rw [e, sumN_add, sumN_ite (by omega), sumN_ite (by omega), tab_goal, if_neg (by omega), if_neg (by omega)]; grind
theorem z_mis0 {m : Nat} {g0 g1 t : Rat} {v : Nat → Rat} (h : Sol (tab L m g0 g1) m (wid L m) t v) : zof (tab L m g0 g1) (wid L m) (m + 1) t v = sumN m (fun i => if (L i).mark = .le then 0 else v (ar L m i)) := by
  unfold zof
  rw [tab_mis]
  exact dot_mis fun i hi => by
    have := h i hi
    rw [tab_lin hi, lin_c] at this
    exact this
/-- values of the columns, all from nought on, the made up ones nought, meet the lines -/
theorem sound {m : Nat} {g0 g1 t : Rat} {v : Nat → Rat} (h : Sol (tab L m g0 g1) m (wid L m) t v) (h0 : ∀ c, c < wid L m → 0 ≤ v c) (hz : ∀ c, bord L m ≤ c → c < wid L m → v c = 0) : ∀ i, i < m → (L i).holds t (v 0) (v 1) := fun i hi => by
  have e := sol0.mp h i hi
  have w := wid_ge (L := L) m
  unfold own at e
  unfold Line.holds
  cases hm : (L i).mark with
  | le =>
    rw [hm] at e
    have := h0 (sl L i) (by have := sl_lt hi (show (L i).mark ≠ .eq by rw [hm]; decide); omega)
    show _ ≤ _
    simp only [] at e
    grind
  | ge =>
    rw [hm] at e
    have := h0 (sl L i) (by have := sl_lt hi (show (L i).mark ≠ .eq by rw [hm]; decide); omega)
    have := hz (ar L m i) (ar_ge m i) (ar_lt hi (show (L i).mark ≠ .le by rw [hm]; decide))
    show _ ≤ _
    simp only [] at e
    grind
  | eq =>
    rw [hm] at e
    have := hz (ar L m i) (ar_ge m i) (ar_lt hi (show (L i).mark ≠ .le by rw [hm]; decide))
    show _ = _
    simp only [] at e
    grind
/-- a point that meets the lines, as values of the columns -/
def colsOf (L : Nat → Line) (m : Nat) (t x y : Rat) : Nat → Rat := fun c => if c = 0 then x else if c = 1 then y else
  sumN m (fun i => if (L i).mark ≠ .eq ∧ c = sl L i then (if (L i).mark = .le then (L i).c * t - ((L i).a * x + (L i).b * y) else (L i).a * x + (L i).b * y - (L i).c * t) else 0)
theorem colsOf_sl {m i : Nat} {t x y : Rat} (hi : i < m) (hm : (L i).mark ≠ .eq) : colsOf L m t x y (sl L i) = if (L i).mark = .le then (L i).c * t - ((L i).a * x + (L i).b * y) else (L i).a * x + (L i).b * y - (L i).c * t := by
  unfold colsOf
  rw [if_neg (by unfold sl; omega), if_neg (by unfold sl; omega), sumN_one hi fun j _ hne => if_neg fun ⟨z1, z2⟩ => hne (sl_inj z1 hm z2.symm), if_pos ⟨hm, rfl⟩]
theorem colsOf_ar {m c : Nat} {t x y : Rat} (h : bord L m ≤ c) : colsOf L m t x y c = 0 := by
  have h2 := two_le_wid (L := L) m
  unfold colsOf
  rw [if_neg (by omega)]
  rw [if_neg (by omega)]
  exact sumN_zero fun i hi => if_neg fun ⟨z1, z2⟩ => by
    have := sl_lt hi z1
    omega
theorem complete {m : Nat} {g0 g1 t x y : Rat} (hx : 0 ≤ x) (hy : 0 ≤ y) (h : ∀ i, i < m → (L i).holds t x y) :
    Sol (tab L m g0 g1) m (wid L m) t (colsOf L m t x y) ∧ (∀ c, 0 ≤ colsOf L m t x y c) := by
  constructor
  · rw [sol0]
    intro i hi
    have e := h i hi
    have e0 : colsOf L m t x y 0 = x := rfl
    have e1 : colsOf L m t x y 1 = y := rfl
    rw [e0, e1]
    unfold own
    cases hm : (L i).mark with
    | le =>
      show _ + colsOf L m t x y (sl L i) = _
      rw [colsOf_sl hi (by rw [hm]; decide), if_pos hm]; grind
    | ge =>
      show _ + (colsOf L m t x y (ar L m i) - colsOf L m t x y (sl L i)) = _
      rw [colsOf_sl hi (by rw [hm]; decide), colsOf_ar (ar_ge m i), if_neg (by rw [hm]; decide)]; grind
    | eq =>
      show _ + colsOf L m t x y (ar L m i) = _
      rw [colsOf_ar (ar_ge m i)]
      unfold Line.holds at e
      rw [hm] at e
      have e : (L i).a * x + (L i).b * y = (L i).c * t := e
      grind
  · intro c
    unfold colsOf
    split
    · exact hx
    · split
      · exact hy
      · refine sumN_nonneg fun i hi => ?_
        split
        · have e := h i hi
          unfold Line.holds at e
          rename_i z
          cases hm : (L i).mark with
          | le =>
            rw [hm] at e
            rw [if_pos rfl]
            have e : (L i).a * x + (L i).b * y ≤ (L i).c * t := e
            grind
          | ge =>
            rw [hm] at e
            rw [if_neg (by decide)]
            have e : (L i).c * t ≤ (L i).a * x + (L i).b * y := e
            grind
          | eq => exact absurd hm z.1
        · grind
end
end PW
namespace PW
/-! the whole road: from the start to none or to the best -/
/-- what every tableau on the road keeps -/
structure Rel (m n M : Nat) (o : Nat → Nat) (T0 T : Tab) : Prop where
  sol : ∀ t v, Sol T0 m n t v ↔ Sol T m n t v
  z : ∀ g t v, m ≤ g → g < M → Sol T0 m n t v → zof T n g t v = zof T0 n g t v
  rep : ∀ r, r < M → ∀ c, T r c = (if r < m then 0 else T0 r c) + sumN m (fun i => T r (o i) * T0 i c)
theorem rel0 {m n M : Nat} {o : Nat → Nat} {T0 : Tab} (h : ∀ i, i < m → ∀ q, q < M → T0 q (o i) = if q = i then 1 else 0) : Rel m n M o T0 T0 := by
  refine ⟨fun _ _ => Iff.rfl, fun _ _ _ _ _ _ => rfl, fun r hr c => ?_⟩
  by_cases q : r < m
  · rw [if_pos q, sumN_one q fun i hi hne => by
      rw [h i hi r hr, if_neg (fun z => hne z.symm)]; grind, h r q r hr, if_pos rfl]; grind
  · rw [if_neg q, sumN_zero fun i hi => by
      rw [h i hi r hr, if_neg (by omega)]; grind]; grind
theorem rel_piv {m n M : Nat} {o : Nat → Nat} {T0 T : Tab} (R : Rel m n M o T0 T) (hM : m ≤ M) {a s : Nat} (ha : a < m) (hp : T a s ≠ 0) : Rel m n M o T0 (piv T a s) := by
  refine ⟨fun t v => (R.sol t v).trans ⟨fun h => sol_piv ha hp h, fun h => sol_unpiv ha hp h⟩, fun g t v h1 h2 h => ?_, fun r hr c => ?_⟩
  · rw [z_piv ha hp ((R.sol t v).mp h) (by omega)]
    exact R.z g t v h1 h2 h
  · have ea := R.rep a (by omega) c
    rw [if_pos ha] at ea
    by_cases q : r = a
    · subst q
      rw [piv_at, if_pos ha]
      have e : sumN m (fun i => piv T r s r (o i) * T0 i c) = sumN m (fun i => (1 / T r s) * (T r (o i) * T0 i c)) := sumN_congr fun i _ => by
        rw [piv_at]; grind
      rw [e, sumN_mul]
      grind
    · have er := R.rep r hr c
      rw [piv_ne c q]
      have e : sumN m (fun i => piv T a s r (o i) * T0 i c) = sumN m (fun i => T r (o i) * T0 i c - (T r s / T a s) * (T a (o i) * T0 i c)) := sumN_congr fun i _ => by
        rw [piv_ne _ q]; grind
      rw [e, sumN_sub, sumN_mul]
      grind
structure Rch (m n M : Nat) (o : Nat → Nat) (T0 : Tab) (x : St) : Prop where
  good : Good m n M x.T x.B
  rel : Rel m n M o T0 x.T
section
variable {m n M border g : Nat} {o : Nat → Nat} {T0 : Tab} {x : St}
theorem rch_go (R : Rch m n M o T0 x) (hM : m ≤ M) (hb : border ≤ n) : ∀ k, Rch m n M o T0 (go m n border g x k)
  | 0 => R
  | k + 1 => by
    have ih := rch_go R hM hb k
    unfold go
    cases e : pick m n border g (go m n border g x k) with
    | none => exact ih
    | some p =>
      obtain ⟨a, s⟩ := p
      have S := pick_step e
      exact ⟨good_step ih.good hM hb S, rel_piv ih.rel hM S.am (by have := S.pos; grind)⟩
/-! what is made up leaves -/
def fst (T : Tab) (k border : Nat) : Option Nat := ((List.range border).filter fun c => decide (T k c ≠ 0)).head?
theorem fst_some {k s : Nat} {T : Tab} (h : fst T k border = some s) : s < border ∧ T k s ≠ 0 := by
  unfold fst at h
  rw [List.head?_filter, List.find?_range_eq_some] at h
  obtain ⟨h1, h2, _⟩ := h
  exact ⟨by simpa using h2, by simpa using h1⟩
theorem fst_none {k : Nat} {T : Tab} (h : fst T k border = none) : ∀ c, c < border → T k c = 0 := fun c hc => by
  unfold fst at h
  rw [List.head?_filter, List.find?_range_eq_none] at h
  have := h c hc
  simpa using this
def setl (border : Nat) (x : St) : Nat → St
  | 0 => x
  | k + 1 => if border ≤ (setl border x k).B k then match fst (setl border x k).T k border with
      | some c => turnS (setl border x k) k c
      | none => setl border x k
    else setl border x k
/-- lines in which something made up stands are empty -/
def Art (m n border : Nat) (x : St) (k : Nat) : Prop := ∀ r, r < k → border ≤ x.B r → ∀ c, c < border → x.T r c = 0
def ArtZ (m n border : Nat) (x : St) : Prop := ∀ r, r < m → border ≤ x.B r → x.T r n = 0
theorem setl_ok (R : Rch m n M o T0 x) (hM : m ≤ M) (hb : border ≤ n) (hz : ArtZ m n border x) : ∀ k, k ≤ m → Rch m n M o T0 (setl border x k) ∧ ArtZ m n border (setl border x k) ∧ Art m n border (setl border x k) k
  | 0, _ => ⟨R, hz, fun r hr => absurd hr (Nat.not_lt_zero _)⟩
  | k + 1, hk => by
    obtain ⟨h1, h2, h3⟩ := setl_ok R hM hb hz k (by omega)
    unfold setl
    by_cases q : border ≤ (setl border x k).B k
    · rw [if_pos q]
      have rk := h2 k (by omega) q
      cases e : fst (setl border x k).T k border with
      | none =>
        refine ⟨h1, h2, fun r hr hB c hc => ?_⟩
        by_cases z : r = k
        · rw [z]; exact fst_none e c hc
        · exact h3 r (by omega) hB c hc
      | some s =>
        obtain ⟨s1, s2⟩ := fst_some e
        have un := unit_piv h1.good.u hM (show k < m by omega) (show s < n by omega) s2
        have rhs : ∀ r, (turnS (setl border x k) k s).T r n = (setl border x k).T r n := fun r => by
          show piv _ k s r n = _
          by_cases z : r = k
          · rw [z, piv_at, rk]; grind
          · rw [piv_ne _ z, rk]; grind
        refine ⟨⟨⟨un, fun r hr => ?_⟩, rel_piv h1.rel hM (by omega) s2⟩, fun r hr hB => ?_, fun r hr hB c hc => ?_⟩
        · show 0 ≤ (turnS (setl border x k) k s).T r n
          rw [rhs]; exact h1.good.rhs r hr
        · rw [rhs]
          by_cases z : r = k
          · rw [z]; exact rk
          · refine h2 r hr ?_
            have hB : border ≤ setB (setl border x k).B k s r := hB
            unfold setB at hB
            rw [if_neg z] at hB
            exact hB
        · have hB : border ≤ setB (setl border x k).B k s r := hB
          unfold setB at hB
          by_cases z : r = k
          · rw [if_pos z] at hB; omega
          · rw [if_neg z] at hB
            show piv _ k s r c = 0
            rw [piv_ne _ z, h3 r (by omega) hB c hc, h3 r (by omega) hB s s1]; grind
    · rw [if_neg q]
      refine ⟨h1, h2, fun r hr hB c hc => ?_⟩
      by_cases z : r = k
      · rw [z] at hB; exact absurd hB q
      · exact h3 r (by omega) hB c hc
theorem art_go (hM : m ≤ M) (R : Rch m n M o T0 x) (hb : border ≤ n) (h1 : ArtZ m n border x) (h2 : Art m n border x m) : ∀ k, ArtZ m n border (go m n border g x k) ∧ Art m n border (go m n border g x k) m
  | 0 => ⟨h1, h2⟩
  | k + 1 => by
    obtain ⟨i1, i2⟩ := art_go hM R hb h1 h2 k
    unfold go
    cases e : pick m n border g (go m n border g x k) with
    | none => exact ⟨i1, i2⟩
    | some p =>
      obtain ⟨a, s⟩ := p
      have S := pick_step e
      have key : ∀ r, r < m → border ≤ setB (go m n border g x k).B a s r → r ≠ a ∧ border ≤ (go m n border g x k).B r := fun r hr hB => by
        unfold setB at hB
        by_cases z : r = a
        · rw [if_pos z] at hB
          have := S.sb
          omega
        · rw [if_neg z] at hB; exact ⟨z, hB⟩
      refine ⟨fun r hr hB => ?_, fun r hr hB c hc => ?_⟩
      · obtain ⟨z, hB⟩ := key r hr hB
        show piv _ a s r n = 0
        rw [piv_ne _ z, i1 r hr hB, i2 r hr hB s S.sb]; grind
      · obtain ⟨z, hB⟩ := key r hr hB
        show piv _ a s r c = 0
        rw [piv_ne _ z, i2 r hr hB c hc, i2 r hr hB s S.sb]; grind
end
theorem vec_nonneg {m : Nat} {B : Nat → Nat} {w : Nat → Rat} (h : ∀ r, r < m → 0 ≤ w r) (c : Nat) : 0 ≤ vec m B w c := sumN_nonneg fun r hr => by
  split
  · exact h r hr
  · grind
section
variable {L : Nat → Line} {m : Nat} {g0 g1 : Rat} {x : St}
abbrev RchL (L : Nat → Line) (m : Nat) (g0 g1 : Rat) (x : St) : Prop := Rch m (wid L m) (m + 2) (ownc L m) (tab L m g0 g1) x
theorem rchL0 (hc : ∀ i, i < m → 0 ≤ (L i).c) : RchL L m g0 g1 ⟨tab L m g0 g1, ownc L m⟩ := ⟨good0 hc, rel0 fun i hi q hq => (unit0 m g0 g1).one i hi q hq⟩
theorem dir_nonneg {T : Tab} {B : Nat → Nat} {s : Nat} (h : ∀ r, r < m → T r s ≤ 0) (c : Nat) : 0 ≤ dir T m B s c := by
  have h1 : 0 ≤ sumN m (fun r => if B r = c then - T r s else 0) := sumN_nonneg fun r hr => by
    have := h r hr
    split <;> grind
  have h2 : sumN m (fun r => if B r = c then - T r s else 0) = - vec m B (fun r => T r s) c := by
    have e : sumN m (fun r => if B r = c then - T r s else 0) = sumN m (fun r => -1 * (if B r = c then T r s else 0)) := sumN_congr fun r _ => by split <;> grind
    rw [e, sumN_mul]; unfold vec; grind
  unfold dir
  split <;> grind
/-- what is missing can't go on without end -/
theorem phase1_ends (R : RchL L m g0 g1 x) {s : Nat} (hs : s < wid L m) (hn : x.T (m + 1) s < 0) (hl : ∀ r, r < m → x.T r s ≤ 0) : False := by
  have sd := sol_dir R.good.u (by omega) hs
  have zd := z_dir R.good.u hs (show m ≤ m + 1 by omega) (by omega)
  have s0 := (R.rel.sol 0 _).mpr sd
  rw [R.rel.z (m + 1) 0 _ (by omega) (by omega) s0, z_mis0 s0] at zd
  have : 0 ≤ sumN m (fun i => if (L i).mark = .le then 0 else dir x.T m x.B s (ar L m i)) := sumN_nonneg fun i hi => by
    split
    · grind
    · exact dir_nonneg hl _
  grind
/-- something is missing: no point meets the lines -/
theorem none_of_missing (R : RchL L m g0 g1 x) (he : ∀ c, c < bord L m → 0 ≤ x.T (m + 1) c) (hn : x.T (m + 1) (wid L m) < 0) {p q : Rat} (hp : 0 ≤ p) (hq : 0 ≤ q) (h : ∀ i, i < m → (L i).holds 1 p q) : False := by
  obtain ⟨s0, nn⟩ := complete (g0 := g0) (g1 := g1) hp hq h
  have z := R.rel.z (m + 1) 1 _ (by omega) (by omega) s0
  rw [z_mis0 s0, sumN_zero fun i hi => by
    split
    · rfl
    · exact colsOf_ar (ar_ge m i)] at z
  unfold zof at z
  have : 0 ≤ dot (wid L m) (x.T (m + 1)) (colsOf L m 1 p q) := sumN_nonneg fun c hc => by
    show 0 ≤ x.T (m + 1) c * colsOf L m 1 p q c
    by_cases b : c < bord L m
    · exact Rat.mul_nonneg (he c b) (nn c)
    · rw [colsOf_ar (by omega)]; grind
  grind
/-- nothing is missing: what is made up stands with nought -/
theorem artz_of (R : RchL L m g0 g1 x) (hn : 0 ≤ x.T (m + 1) (wid L m)) : ArtZ m (wid L m) (bord L m) x := by
  have U := R.good.u
  have sb := sol_bas U (by omega)
  have s0 := (R.rel.sol 1 _).mpr sb
  have zb := z_bas U (show m ≤ m + 1 by omega) (by omega)
  rw [R.rel.z (m + 1) 1 _ (by omega) (by omega) s0, z_mis0 s0] at zb
  have nn : ∀ c, 0 ≤ bas x.T m (wid L m) x.B c := vec_nonneg R.good.rhs
  intro r hr hB
  obtain ⟨i, hi, hm, e⟩ := ar_of hB (U.lt r hr)
  have er : bas x.T m (wid L m) x.B (x.B r) = x.T r (wid L m) := vec_at (fun r q hr hq e => U.inj (by omega) hr hq e) hr
  rw [sumN_split hi, if_neg hm, e, er] at zb
  have : 0 ≤ sumN m (fun k => if k = i then 0 else if (L k).mark = .le then 0 else bas x.T m (wid L m) x.B (ar L m k)) := sumN_nonneg fun k hk => by
    split
    · grind
    · split
      · grind
      · exact nn _
  have := R.good.rhs r hr
  grind
theorem bas_art (R : RchL L m g0 g1 x) (hz : ArtZ m (wid L m) (bord L m) x) {c : Nat} (hc : bord L m ≤ c) : bas x.T m (wid L m) x.B c = 0 := sumN_zero fun r hr => by
  split
  · rename_i e
    exact hz r hr (by rw [e]; exact hc)
  · rfl
theorem phase2_ends (R : RchL L m g0 g1 x) (ha : Art m (wid L m) (bord L m) x m) (box : ∀ p q : Rat, 0 ≤ p → 0 ≤ q → (∀ i, i < m → (L i).holds 0 p q) → p = 0 ∧ q = 0)
    {s : Nat} (hs : s < bord L m) (hn : x.T m s < 0) (hl : ∀ r, r < m → x.T r s ≤ 0) : False := by
  have w := wid_ge (L := L) m
  have sd := sol_dir R.good.u (by omega) (show s < wid L m by omega)
  have zd := z_dir R.good.u (show s < wid L m by omega) (Nat.le_refl m) (by omega)
  have s0 := (R.rel.sol 0 _).mpr sd
  rw [R.rel.z m 0 _ (Nat.le_refl _) (by omega) s0, z_goal0] at zd
  have nn := dir_nonneg (B := x.B) hl
  have b := box _ _ (nn 0) (nn 1) (sound s0 (fun c _ => nn c) fun c h1 h2 => by
    unfold dir
    rw [if_neg (by omega)]
    have : vec m x.B (fun r => x.T r s) c = 0 := sumN_zero fun r hr => by
      split
      · rename_i e
        exact ha r hr (by rw [e]; exact h1) s hs
      · rfl
    rw [this]; grind)
  rw [b.1, b.2] at zd
  grind
/-- THE BEST -/
theorem best_of (R : RchL L m g0 g1 x) (hz : ArtZ m (wid L m) (bord L m) x) (he : ∀ c, c < bord L m → 0 ≤ x.T m c) :
    0 ≤ bas x.T m (wid L m) x.B 0 ∧ 0 ≤ bas x.T m (wid L m) x.B 1 ∧ (∀ i, i < m → (L i).holds 1 (bas x.T m (wid L m) x.B 0) (bas x.T m (wid L m) x.B 1)) ∧
    ∀ p q : Rat, 0 ≤ p → 0 ≤ q → (∀ i, i < m → (L i).holds 1 p q) → g0 * bas x.T m (wid L m) x.B 0 + g1 * bas x.T m (wid L m) x.B 1 ≤ g0 * p + g1 * q := by
  have U := R.good.u
  have s0 := (R.rel.sol 1 _).mpr (sol_bas U (by omega))
  have zb := z_bas U (Nat.le_refl m) (by omega)
  rw [R.rel.z m 1 _ (Nat.le_refl _) (by omega) s0, z_goal0] at zb
  have nn : ∀ c, 0 ≤ bas x.T m (wid L m) x.B c := vec_nonneg R.good.rhs
  refine ⟨nn 0, nn 1, sound s0 (fun c _ => nn c) fun c h1 h2 => bas_art R hz h1, fun p q hp hq h => ?_⟩
  obtain ⟨s1, n1⟩ := complete (g0 := g0) (g1 := g1) hp hq h
  have z1 := R.rel.z m 1 _ (Nat.le_refl _) (by omega) s1
  rw [z_goal0] at z1
  unfold zof at z1
  have : 0 ≤ dot (wid L m) (x.T m) (colsOf L m 1 p q) := sumN_nonneg fun c hc => by
    show 0 ≤ x.T m c * colsOf L m 1 p q c
    by_cases b : c < bord L m
    · exact Rat.mul_nonneg (he c b) (n1 c)
    · rw [colsOf_ar (by omega)]; grind
  have e0 : colsOf L m 1 p q 0 = p := rfl
  have e1 : colsOf L m 1 p q 1 = q := rfl
  rw [e0, e1] at z1
  grind
/-- a stop of the first road -/
theorem stop1 (R : RchL L m g0 g1 x) (h : pick m (wid L m) (bord L m) (m + 1) x = none) : ∀ c, c < bord L m → 0 ≤ x.T (m + 1) c := by
  have w := wid_ge (L := L) m
  unfold pick at h
  cases e : ent x.T (m + 1) (bord L m) with
  | none => exact ent_none e
  | some s =>
    rw [e] at h
    simp only [] at h
    cases f : lea x.T x.B (wid L m) s m with
    | none =>
      obtain ⟨h1, h2, _⟩ := ent_some e
      exact (phase1_ends R (by omega) h2 (lea_none f)).elim
    | some a => rw [f] at h; cases h
theorem stop2 (R : RchL L m g0 g1 x) (ha : Art m (wid L m) (bord L m) x m) (box : ∀ p q : Rat, 0 ≤ p → 0 ≤ q → (∀ i, i < m → (L i).holds 0 p q) → p = 0 ∧ q = 0)
    (h : pick m (wid L m) (bord L m) m x = none) : ent x.T m (bord L m) = none := by
  unfold pick at h
  cases e : ent x.T m (bord L m) with
  | none => rfl
  | some s =>
    rw [e] at h
    simp only [] at h
    cases f : lea x.T x.B (wid L m) s m with
    | none =>
      obtain ⟨h1, h2, _⟩ := ent_some e
      exact (phase2_ends R ha box h1 h2 (lea_none f)).elim
    | some a => rw [f] at h; cases h
end
end PW
namespace PW
/-! how great the numbers of a tableau are -/
/-- a whole number of at most this size -/
def IB (x : Rat) (b : Nat) : Prop := ∃ z : Int, x = (z : Rat) ∧ z.natAbs ≤ b
theorem IB.mono {x : Rat} {a b : Nat} (h : IB x a) (l : a ≤ b) : IB x b := by
  obtain ⟨z, e, k⟩ := h
  exact ⟨z, e, by omega⟩
theorem IB.zero (b : Nat) : IB 0 b := ⟨0, by simp, by simp⟩
theorem IB.one {b : Nat} (h : 1 ≤ b) : IB 1 b := ⟨1, by simp, by simpa using h⟩
theorem IB.add {x y : Rat} {a b : Nat} (h : IB x a) (k : IB y b) : IB (x + y) (a + b) := by
  obtain ⟨z, e, l⟩ := h
  obtain ⟨w, f, l2⟩ := k
  exact ⟨z + w, by rw [e, f, Rat.intCast_add], by omega⟩
theorem IB.neg {x : Rat} {a : Nat} (h : IB x a) : IB (-x) a := by
  obtain ⟨z, e, l⟩ := h
  exact ⟨-z, by rw [e, Rat.intCast_neg], by omega⟩
theorem IB.sub {x y : Rat} {a b : Nat} (h : IB x a) (k : IB y b) : IB (x - y) (a + b) := by
  have := h.add k.neg
  rw [Rat.sub_eq_add_neg]; exact this
theorem IB.mul {x y : Rat} {a b : Nat} (h : IB x a) (k : IB y b) : IB (x * y) (a * b) := by
  obtain ⟨z, e, l⟩ := h
  obtain ⟨w, f, l2⟩ := k
  exact ⟨z * w, by rw [e, f, Rat.intCast_mul], by rw [Int.natAbs_mul]; exact Nat.mul_le_mul l l2⟩
theorem IB.sum {f : Nat → Rat} {b : Nat} : ∀ {m : Nat}, (∀ i, i < m → IB (f i) b) → IB (sumN m f) (m * b)
  | 0, _ => by rw [Nat.zero_mul]; exact IB.zero 0
  | m + 1, h => by
    have := (IB.sum (f := f) (b := b) (m := m) fun i hi => h i (by omega)).add (h m (by omega))
    rw [Nat.succ_mul]; exact this
theorem IB.of_eq {x y : Rat} {a : Nat} (h : IB x a) (e : x = y) : IB y a := e ▸ h
/-- m places into m but one: two fall together -/
theorem inj_miss {m s : Nat} (f : Nat → Nat) (hl : ∀ j, j < m → f j < m) (hi : ∀ i j, i < m → j < m → f i = f j → i = j) (hs : s < m) (hm : ∀ j, j < m → f j ≠ s) : False := by
  obtain ⟨i, j, h1, h2, h3⟩ := pigeon (m - 1) (fun j => if s < f j then f j - 1 else f j) fun i hi => by
    have a := hl i (by omega)
    have b := hm i (by omega)
    show (if s < f i then f i - 1 else f i) < m - 1
    split <;> omega
  have a := hm i (by omega)
  have b := hm j (by omega)
  have h4 : (if s < f i then f i - 1 else f i) = (if s < f j then f j - 1 else f j) := h3
  have e : f i = f j := by split at h4 <;> split at h4 <;> omega
  have := hi i j (by omega) (by omega) e
  omega
section
variable {L : Nat → Line} {m : Nat} {g0 g1 : Rat} {x : St}
theorem sl_all : ∀ k c, c < nS L k → ∃ i, i < k ∧ (L i).mark ≠ .eq ∧ nS L i = c := by
  intro k
  induction k with
  | zero => intro c h; exact absurd h (Nat.not_lt_zero _)
  | succ k ih =>
    intro c h
    have e : nS L (k + 1) = nS L k + if (L k).mark = .eq then 0 else 1 := rfl
    by_cases q : c < nS L k
    · obtain ⟨i, h1, h2⟩ := ih c q
      exact ⟨i, by omega, h2⟩
    · by_cases z : (L k).mark = .eq
      · rw [if_pos z] at e; omega
      · rw [if_neg z] at e
        exact ⟨k, by omega, z, by omega⟩
theorem sl_of {c : Nat} (h1 : 2 ≤ c) (h2 : c < bord L m) : ∃ i, i < m ∧ (L i).mark ≠ .eq ∧ sl L i = c := by
  unfold bord at h2
  obtain ⟨i, a, b, e⟩ := sl_all (L := L) m (c - 2) (by omega)
  exact ⟨i, a, b, by unfold sl; omega⟩
def sgm (L : Nat → Line) (i : Nat) : Rat := if (L i).mark = .le then 1 else -1
theorem lin_sl {i k : Nat} (hi : i < m) (hm : (L i).mark ≠ .eq) : lin L m k (sl L i) = if k = i then sgm L i else 0 := by
  have h := sl_lt hi hm
  have w := wid_ge (L := L) m
  have h2 : 2 ≤ sl L i := by unfold sl; omega
  have h3 := ar_ge (L := L) m k
  unfold lin exq sgm
  rw [if_neg (by omega), if_neg (by omega), if_neg (by omega)]
  have n : ¬ ((L k).mark ≠ .le ∧ sl L i = ar L m k) := by omega
  rw [if_neg n]
  by_cases q : k = i
  · subst q
    rw [if_pos ⟨hm, rfl⟩, if_pos rfl]; grind
  · rw [if_neg fun ⟨z1, z2⟩ => q (sl_inj z1 hm z2.symm), if_neg q]; grind
theorem mis_sl {i : Nat} (hi : i < m) (hm : (L i).mark = .ge) : mis L m (sl L i) = 1 := by
  have hq : (L i).mark ≠ .eq := by rw [hm]; decide
  have h := sl_lt hi hq
  unfold mis
  rw [sumN_one hi fun k hk hne => ?_]
  · rw [if_neg (by rw [hm]; decide), lin_sl hi hq, if_pos rfl, if_neg (by have := ar_ge (L := L) m i; omega)]
    unfold sgm
    rw [if_neg (by rw [hm]; decide)]; grind
  · split
    · rfl
    · rw [lin_sl hi hq, if_neg hne, if_neg (by have := ar_ge (L := L) m k; omega)]; grind
/-- column c is a column of line i's own -/
def Of (L : Nat → Line) (m i c : Nat) : Prop := c = ownc L m i ∨ ((L i).mark = .ge ∧ c = sl L i)
theorem of_all {c : Nat} (h1 : 2 ≤ c) (h2 : c < wid L m) : ∃ i, i < m ∧ Of L m i c := by
  by_cases q : c < bord L m
  · obtain ⟨i, a, b, e⟩ := sl_of h1 q
    refine ⟨i, a, ?_⟩
    unfold Of ownc
    cases hm : (L i).mark with
    | le => exact .inl (by rw [if_pos rfl]; exact e.symm)
    | ge => exact .inr ⟨rfl, e.symm⟩
    | eq => exact absurd hm b
  · obtain ⟨i, a, b, e⟩ := ar_of (by omega) h2
    exact ⟨i, a, .inl (by unfold ownc; rw [if_neg b]; exact e.symm)⟩
/-- the multiples that a row is of the lines -/
abbrev mul (L : Nat → Line) (m : Nat) (x : St) (r i : Nat) : Rat := x.T r (ownc L m i)
theorem rep_at (R : RchL L m g0 g1 x) {r : Nat} (hr : r < m + 2) (c : Nat) : x.T r c = (if r < m then 0 else tab L m g0 g1 r c) + sumN m (fun i => mul L m x r i * lin L m i c) := by
  rw [R.rel.rep r hr c]
  congr 1
  exact sumN_congr fun i hi => by rw [tab_lin hi]
theorem mul_of (R : RchL L m g0 g1 x) {r i j : Nat} (hr : r < m + 2) (hi : i < m) (hj : j < m) (h : Of L m i (x.B j)) :
    IB (mul L m x r i) 1 ∧ (r < m → r ≠ j → mul L m x r i = 0) ∧ (r = j → ((x.B j = ownc L m i → mul L m x r i = 1) ∧ (x.B j ≠ ownc L m i → mul L m x r i = -1))) := by
  have u := R.good.u.one j hj r hr
  by_cases e : x.B j = ownc L m i
  · rw [e] at u
    unfold mul
    rw [u]
    refine ⟨?_, fun _ h => if_neg h, fun h => ⟨fun _ => if_pos h, fun z => absurd e z⟩⟩
    split
    · exact IB.one (Nat.le_refl _)
    · exact IB.zero 1
  · rcases h with h | ⟨hm, h⟩
    · exact absurd h e
    · have hq : (L i).mark ≠ .eq := by rw [hm]; decide
      have rp := rep_at R hr (x.B j)
      rw [u, h, sumN_one hi fun k _ hne => by rw [lin_sl hi hq, if_neg hne]; grind, lin_sl hi hq, if_pos rfl] at rp
      have sg : sgm L i = -1 := by unfold sgm; rw [if_neg (by rw [hm]; decide)]
      rw [sg] at rp
      have h2 : 2 ≤ sl L i := by unfold sl; omega
      by_cases a : r < m
      · rw [if_pos a] at rp
        by_cases b : r = j
        · rw [if_pos b] at rp
          have e1 : mul L m x r i = -1 := by grind
          refine ⟨e1 ▸ (IB.one (Nat.le_refl 1)).neg, fun _ z => absurd b z, fun _ => ⟨fun z => absurd z e, fun _ => e1⟩⟩
        · rw [if_neg b] at rp
          have e1 : mul L m x r i = 0 := by grind
          refine ⟨e1 ▸ IB.zero 1, fun _ _ => e1, fun z => absurd z b⟩
      · rw [if_neg a, if_neg (by omega)] at rp
        refine ⟨?_, fun z => absurd z a, fun z => by omega⟩
        by_cases b : r = m
        · rw [b, tab_goal, if_neg (by omega), if_neg (by omega)] at rp
          have e1 : mul L m x r i = 0 := by rw [b]; grind
          exact e1 ▸ IB.zero 1
        · rw [show r = m + 1 by omega, tab_mis, mis_sl hi hm] at rp
          have e1 : mul L m x r i = 1 := by rw [show r = m + 1 by omega]; grind
          exact e1 ▸ IB.one (Nat.le_refl 1)
/-- two columns of one line's own don't stand both -/
theorem of_inj (R : RchL L m g0 g1 x) {i j k : Nat} (hi : i < m) (hj : j < m) (hk : k < m) (h : Of L m i (x.B j)) (h' : Of L m i (x.B k)) : j = k := by
  by_cases e : j = k
  · exact e
  · exfalso
    have a1 := mul_of R (r := j) (by omega) hi hj h
    have a2 := mul_of R (r := j) (by omega) hi hk h'
    have z := a2.2.1 hj e
    by_cases q : x.B j = ownc L m i
    · have := (a1.2.2 rfl).1 q; grind
    · have := (a1.2.2 rfl).2 q; grind
/-- lines that have a column that stands -/
def Has (L : Nat → Line) (m : Nat) (x : St) (i : Nat) : Prop := ∃ j, j < m ∧ Of L m i (x.B j)
theorem exists_place (R : RchL L m g0 g1 x) (f : Nat → Nat) (hf : ∀ j, j < m → x.B j < 2 → f j < m ∧ ¬ Has L m x (f j)) (inj : ∀ i j, i < m → j < m → x.B i < 2 → x.B j < 2 → f i = f j → i = j)
    {s : Nat} (hs : s < m) (hn : ∀ j, j < m → x.B j < 2 → f j ≠ s) : Has L m x s := by
  by_cases q : Has L m x s
  · exact q
  · exfalso
    have ex : ∀ j, ∃ i, j < m → ¬ x.B j < 2 → i < m ∧ Of L m i (x.B j) := fun j => by
      by_cases a : j < m
      · by_cases b : x.B j < 2
        · exact ⟨0, fun _ z => absurd b z⟩
        · obtain ⟨i, h⟩ := of_all (L := L) (m := m) (show 2 ≤ x.B j by omega) (R.good.u.lt j a)
          exact ⟨i, fun _ _ => h⟩
      · exact ⟨0, fun z => absurd z a⟩
    let ℓ : Nat → Nat := fun j => Classical.choose (ex j)
    have hℓ : ∀ j, j < m → ¬ x.B j < 2 → ℓ j < m ∧ Of L m (ℓ j) (x.B j) := fun j => Classical.choose_spec (ex j)
    refine inj_miss (m := m) (s := s) (fun j => if x.B j < 2 then f j else ℓ j) (fun j hj => ?_) (fun i j hi hj e => ?_) hs (fun j hj e => ?_)
    · show (if x.B j < 2 then f j else ℓ j) < m
      split
      · exact (hf j hj (by assumption)).1
      · exact (hℓ j hj (by assumption)).1
    · have e : (if x.B i < 2 then f i else ℓ i) = (if x.B j < 2 then f j else ℓ j) := e
      by_cases a : x.B i < 2
      · rw [if_pos a] at e
        by_cases b : x.B j < 2
        · rw [if_pos b] at e
          exact inj i j hi hj a b e
        · rw [if_neg b] at e
          exact absurd ⟨j, hj, by rw [e]; exact (hℓ j hj b).2⟩ (hf i hi a).2
      · rw [if_neg a] at e
        by_cases b : x.B j < 2
        · rw [if_pos b] at e
          exact absurd ⟨i, hi, by rw [← e]; exact (hℓ i hi a).2⟩ (hf j hj b).2
        · rw [if_neg b] at e
          have h1 := hℓ i hi a
          have h2 := hℓ j hj b
          rw [← e] at h2
          exact of_inj R h1.1 hi hj h1.2 h2.2
    · have e : (if x.B j < 2 then f j else ℓ j) = s := e
      by_cases a : x.B j < 2
      · rw [if_pos a] at e
        exact hn j hj a e
      · rw [if_neg a] at e
        exact q ⟨j, hj, by rw [← e]; exact (hℓ j hj a).2⟩
/-! the sizes -/
/-- all numbers of the first tableau are so many-th parts, of such a size -/
structure Sized (L : Nat → Line) (m : Nat) (g0 g1 : Rat) (d K : Nat) : Prop where
  d0 : 0 < d
  dK : d ≤ K
  at_ : ∀ r, r < m + 2 → ∀ c, c ≤ wid L m → IB (tab L m g0 g1 r c * (d : Rat)) K
theorem Sized.ln {d K : Nat} (S : Sized L m g0 g1 d K) {i c : Nat} (hi : i < m) (hc : c ≤ wid L m) : IB (lin L m i c * (d : Rat)) K := by
  have := S.at_ i (by omega) c hc
  rw [tab_lin hi] at this
  exact this
theorem Sized.ap {d K : Nat} (S : Sized L m g0 g1 d K) {r c : Nat} (hr : r < m + 2) (hc : c ≤ wid L m) : IB ((if r < m then 0 else tab L m g0 g1 r c) * (d : Rat)) K := by
  split
  · exact (IB.zero K).of_eq (by grind)
  · exact S.at_ r hr c hc
/-- all numbers of a tableau are so many-th parts, of such a size -/
def Bnd (L : Nat → Line) (m : Nat) (T : Tab) (b : Nat) : Prop := ∃ δ : Int, δ ≠ 0 ∧ δ.natAbs ≤ b ∧ ∀ r, r < m + 2 → ∀ c, c ≤ wid L m → IB (T r c * (δ : Rat)) b
theorem cube {K : Nat} (h : 1 ≤ K) : K ≤ K * K ∧ K * K ≤ K * K * K := by
  have a := Nat.mul_le_mul_left K h
  have b := Nat.mul_le_mul_left (K * K) h
  omega
theorem bnd_none {d K : Nat} (R : RchL L m g0 g1 x) (S : Sized L m g0 g1 d K) (hm : m ≤ 5) (h : ∀ i, i < m → Has L m x i) : Bnd L m x.T (64 * (K * K * K)) := by
  have hK : 1 ≤ K := by have := S.d0; have := S.dK; omega
  have cb := cube hK
  have h0 := S.dK
  refine ⟨(d : Int), by have := S.d0; omega, by omega, fun r hr c hc => ?_⟩
  have hs : IB (sumN m (fun i => mul L m x r i * (lin L m i c * (d : Rat)))) (m * (1 * K)) := IB.sum fun i hi => by
    obtain ⟨j, hj, ho⟩ := h i hi
    exact (mul_of R hr hi hj ho).1.mul (S.ln hi hc)
  have := (S.ap hr hc).add hs
  have hmK : m * (1 * K) ≤ 5 * K := by rw [Nat.one_mul]; exact Nat.mul_le_mul_right K hm
  refine (this.mono (b := 64 * (K * K * K)) (by omega)).of_eq ?_
  have e : sumN m (fun i => mul L m x r i * (lin L m i c * (d : Rat))) = (d : Rat) * sumN m (fun i => mul L m x r i * lin L m i c) := by
    rw [← sumN_mul]
    exact sumN_congr fun i _ => by grind
  rw [e, rep_at R hr c]
  have : ((d : Int) : Rat) = (d : Rat) := rfl
  grind
end
end PW
namespace PW
section
variable {L : Nat → Line} {m : Nat} {g0 g1 : Rat} {x : St}
/-- a row without some lines -/
def wo (f : Nat → Rat) (p : Nat) : Nat → Rat := fun i => if i = p then 0 else f i
theorem sum_wo {f : Nat → Rat} {p : Nat} (hp : p < m) : sumN m f = f p + sumN m (wo f p) := sumN_split hp
theorem u_bound {d K e : Nat} (R : RchL L m g0 g1 x) (S : Sized L m g0 g1 d K) (hm : m ≤ 5) (he : e ≤ wid L m) {f : Nat → Rat} {r : Nat} (hr : r < m + 2) (hf : ∀ i, i < m → IB (f i) 1)
    {y : Rat} (hy : IB y 1) : IB ((y - (if r < m then 0 else tab L m g0 g1 r e) - sumN m (fun i => f i * lin L m i e)) * (d : Rat)) (7 * K) := by
  have hs : IB (sumN m (fun i => f i * (lin L m i e * (d : Rat)))) (m * (1 * K)) := IB.sum fun i hi => (hf i hi).mul (S.ln hi he)
  have hd : IB (y * (d : Rat)) (1 * d) := hy.mul ⟨(d : Int), rfl, by simp⟩
  have h0 := S.dK
  have hmK : m * (1 * K) ≤ 5 * K := by rw [Nat.one_mul]; exact Nat.mul_le_mul_right K hm
  refine (((hd.sub (S.ap hr he)).sub hs).mono (b := 7 * K) (by omega)).of_eq ?_
  have e1 : sumN m (fun i => f i * (lin L m i e * (d : Rat))) = (d : Rat) * sumN m (fun i => f i * lin L m i e) := by
    rw [← sumN_mul]
    exact sumN_congr fun i _ => by grind
  rw [e1]; grind
theorem unit_IB (R : RchL L m g0 g1 x) {r j : Nat} (hr : r < m + 2) (hj : j < m) : IB (x.T r (x.B j)) 1 := by
  rw [R.good.u.one j hj r hr]
  split
  · exact IB.one (Nat.le_refl 1)
  · exact IB.zero 1
theorem wo_IB (R : RchL L m g0 g1 x) {r p : Nat} (hr : r < m + 2) (h : ∀ i, i < m → i ≠ p → Has L m x i) : ∀ i, i < m → IB (wo (mul L m x r) p i) 1 := fun i hi => by
  unfold wo
  by_cases q : i = p
  · rw [if_pos q]; exact IB.zero 1
  · rw [if_neg q]
    obtain ⟨j, hj, ho⟩ := h i hi q
    exact (mul_of R hr hi hj ho).1
theorem wo2_IB (R : RchL L m g0 g1 x) {r p q : Nat} (hr : r < m + 2) (h : ∀ i, i < m → i ≠ p → i ≠ q → Has L m x i) : ∀ i, i < m → IB (wo (wo (mul L m x r) p) q i) 1 := fun i hi => by
  unfold wo
  by_cases z : i = q
  · rw [if_pos z]; exact IB.zero 1
  · rw [if_neg z]
    by_cases y : i = p
    · rw [if_pos y]; exact IB.zero 1
    · rw [if_neg y]
      obtain ⟨j, hj, ho⟩ := h i hi y z
      exact (mul_of R hr hi hj ho).1
theorem rep1 (R : RchL L m g0 g1 x) {r p : Nat} (hr : r < m + 2) (hp : p < m) (c : Nat) : x.T r c = (if r < m then 0 else tab L m g0 g1 r c) + (mul L m x r p * lin L m p c + sumN m (fun i => wo (mul L m x r) p i * lin L m i c)) := by
  rw [rep_at R hr c, sum_wo hp]
  congr 2
  exact sumN_congr fun i _ => by unfold wo; split <;> grind
theorem rep2 (R : RchL L m g0 g1 x) {r p q : Nat} (hr : r < m + 2) (hp : p < m) (hq : q < m) (hpq : p ≠ q) (c : Nat) :
    x.T r c = (if r < m then 0 else tab L m g0 g1 r c) + (mul L m x r p * lin L m p c + (mul L m x r q * lin L m q c + sumN m (fun i => wo (wo (mul L m x r) p) q i * lin L m i c))) := by
  rw [rep1 R hr hp c, sum_wo hq]
  congr 3
  · unfold wo; rw [if_neg (fun z => hpq z.symm)]
  · exact sumN_congr fun i _ => by unfold wo; split <;> grind
/-- in a line where a column of the program's own stands, the other lines have no part -/
theorem mul_zero (R : RchL L m g0 g1 x) {i j : Nat} (hi : i < m) (hj : j < m) (h2 : x.B j < 2) (h : Has L m x i) : mul L m x j i = 0 := by
  obtain ⟨k, hk, ho⟩ := h
  refine (mul_of R (r := j) (by omega) hi hk ho).2.1 hj fun e => ?_
  subst e
  have h3 := ownc_ge (L := L) (m := m) (i := i)
  rcases ho with z | ⟨_, z⟩
  · omega
  · unfold sl at z; omega
theorem lin_le {e : Nat} (h : e < 2) : e ≤ wid L m := by
  have := two_le_wid (L := L) m
  have := wid_ge (L := L) m
  omega
theorem bnd_one {d K : Nat} (R : RchL L m g0 g1 x) (S : Sized L m g0 g1 d K) (hm : m ≤ 5) {je p : Nat} (hj : je < m) (h2 : x.B je < 2) (hp : p < m) (h : ∀ i, i < m → i ≠ p → Has L m x i) : Bnd L m x.T (64 * (K * K * K)) := by
  have hK : 1 ≤ K := by have := S.d0; have := S.dK; omega
  have cb := cube hK
  have he : x.B je ≤ wid L m := lin_le h2
  -- the number about which it turned
  have one := R.good.u.one je hj je (by omega)
  rw [if_pos rfl, rep1 R (by omega) hp, if_pos hj, sumN_zero fun i hi => by
    unfold wo
    by_cases q : i = p
    · rw [if_pos q]; grind
    · rw [if_neg q, mul_zero R hi hj h2 (h i hi q)]; grind] at one
  have nz : lin L m p (x.B je) ≠ 0 := fun z => by rw [z] at one; grind
  obtain ⟨al, ea, la⟩ := S.ln hp he
  have d0 : (d : Rat) ≠ 0 := fun z => by
    have := S.d0
    have : ((d : Nat) : Rat) = ((0 : Nat) : Rat) := z
    have := Rat.natCast_inj.mp this
    omega
  have al0 : al ≠ 0 := fun z => by
    rw [z] at ea
    have : lin L m p (x.B je) * (d : Rat) = 0 := by rw [ea]; rfl
    rcases Rat.mul_eq_zero.mp this with h | h
    · exact nz h
    · exact d0 h
  have dK := S.dK
  have D0 := S.d0
  refine ⟨al * (d : Int), Int.mul_ne_zero al0 (by omega), ?_, fun r hr c hc => ?_⟩
  · rw [Int.natAbs_mul]
    have := Nat.mul_le_mul la (show ((d : Int)).natAbs ≤ K by omega)
    omega
  · have u := u_bound R S hm he hr (wo_IB R hr h) (unit_IB R hr hj)
    have t1 := (S.ap hr hc).mul (show IB (al : Rat) K from ⟨al, rfl, la⟩)
    have t2 : IB (sumN m (fun i => wo (mul L m x r) p i * ((lin L m i c * (d : Rat)) * (al : Rat)))) (m * (1 * (K * K))) := IB.sum fun i hi => (wo_IB R hr h i hi).mul ((S.ln hi hc).mul ⟨al, rfl, la⟩)
    have t3 := u.mul (S.ln hp hc)
    have hmK : m * (1 * (K * K)) ≤ 5 * (K * K) := by rw [Nat.one_mul]; exact Nat.mul_le_mul_right _ hm
    have hA : 7 * K * K = 7 * (K * K) := by rw [Nat.mul_assoc]
    refine (((t1.add t2).add t3).mono (b := 64 * (K * K * K)) (by omega)).of_eq ?_
    have e1 : sumN m (fun i => wo (mul L m x r) p i * ((lin L m i c * (d : Rat)) * (al : Rat))) = (d : Rat) * (al : Rat) * sumN m (fun i => wo (mul L m x r) p i * lin L m i c) := by
      rw [← sumN_mul]
      exact sumN_congr fun i _ => by grind
    have re := rep1 R hr hp (x.B je)
    have rc := rep1 R hr hp c
    rw [e1, rc]
    have ci : ((al * (d : Int) : Int) : Rat) = (al : Rat) * (d : Rat) := by rw [Rat.intCast_mul]; rfl
    rw [ci]
    have e2 : x.T r (x.B je) - (if r < m then 0 else tab L m g0 g1 r (x.B je)) - sumN m (fun i => wo (mul L m x r) p i * lin L m i (x.B je)) = mul L m x r p * lin L m p (x.B je) := by rw [re]; grind
    rw [e2]
    grind
theorem bnd_two {d K : Nat} (R : RchL L m g0 g1 x) (S : Sized L m g0 g1 d K) (hm : m ≤ 5) {j0 j1 p q : Nat} (h0 : j0 < m) (h1 : j1 < m) (b0 : x.B j0 = 0) (b1 : x.B j1 = 1) (hp : p < m) (hq : q < m) (hpq : p ≠ q)
    (h : ∀ i, i < m → i ≠ p → i ≠ q → Has L m x i) : Bnd L m x.T (64 * (K * K * K)) := by
  have hK : 1 ≤ K := by have := S.d0; have := S.dK; omega
  have cb := cube hK
  have dK := S.dK
  have D0 := S.d0
  have w0 : 0 ≤ wid L m := Nat.zero_le _
  have w1 : 1 ≤ wid L m := lin_le (by omega)
  have j01 : j0 ≠ j1 := fun e => by rw [e] at b0; omega
  have row : ∀ {j : Nat}, j < m → x.B j < 2 → ∀ c, x.T j c = mul L m x j p * lin L m p c + mul L m x j q * lin L m q c := fun {j} hj hb c => by
    have := rep2 R (r := j) (by omega) hp hq hpq c
    rw [if_pos hj, sumN_zero fun i hi => by
      unfold wo
      by_cases z : i = q
      · rw [if_pos z]; grind
      · rw [if_neg z]
        by_cases y : i = p
        · rw [if_pos y]; grind
        · rw [if_neg y, mul_zero R hi hj hb (h i hi y z)]; grind] at this
    grind
  have u := fun r (hr : r < m + 2) => R.good.u.one j0 h0 r hr
  have v := fun r (hr : r < m + 2) => R.good.u.one j1 h1 r hr
  rw [b0] at u
  rw [b1] at v
  have a1 := u j0 (by omega)
  have a2 := v j0 (by omega)
  have a3 := u j1 (by omega)
  have a4 := v j1 (by omega)
  rw [if_pos rfl, row h0 (by omega)] at a1
  rw [if_neg j01, row h0 (by omega)] at a2
  rw [if_neg (fun z => j01 z.symm), row h1 (by omega)] at a3
  rw [if_pos rfl, row h1 (by omega)] at a4
  obtain ⟨ap, eap, lap⟩ := S.ln hp w0
  obtain ⟨bp, ebp, lbp⟩ := S.ln hp w1
  obtain ⟨aq, eaq, laq⟩ := S.ln hq w0
  obtain ⟨bq, ebq, lbq⟩ := S.ln hq w1
  have d0 : (d : Rat) ≠ 0 := fun z => by
    have : ((d : Nat) : Rat) = ((0 : Nat) : Rat) := z
    have := Rat.natCast_inj.mp this
    omega
  have det : (mul L m x j0 p * mul L m x j1 q - mul L m x j0 q * mul L m x j1 p) * (lin L m p 0 * lin L m q 1 - lin L m q 0 * lin L m p 1) = 1 := by
    have e1 : (mul L m x j0 p * mul L m x j1 q - mul L m x j0 q * mul L m x j1 p) * (lin L m p 0 * lin L m q 1 - lin L m q 0 * lin L m p 1)
      = (mul L m x j0 p * lin L m p 0 + mul L m x j0 q * lin L m q 0) * (mul L m x j1 p * lin L m p 1 + mul L m x j1 q * lin L m q 1) - (mul L m x j0 p * lin L m p 1 + mul L m x j0 q * lin L m q 1) * (mul L m x j1 p * lin L m p 0 + mul L m x j1 q * lin L m q 0) := by grind
    rw [e1, a1, a2, a3, a4]; grind
  have dz : ap * bq - aq * bp ≠ 0 := fun z => by
    have z2 : ((ap * bq - aq * bp : Int) : Rat) = 0 := by rw [z]; rfl
    rw [Rat.intCast_sub, Rat.intCast_mul, Rat.intCast_mul, ← eap, ← ebq, ← eaq, ← ebp] at z2
    have z3 : (lin L m p 0 * lin L m q 1 - lin L m q 0 * lin L m p 1) * ((d : Rat) * (d : Rat)) = 0 := by grind
    rcases Rat.mul_eq_zero.mp z3 with h | h
    · rw [h] at det; grind
    · rcases Rat.mul_eq_zero.mp h with h | h <;> exact d0 h
  have lD : (ap * bq - aq * bp).natAbs ≤ 2 * (K * K) := by
    have l1 := Nat.mul_le_mul lap lbq
    have l2 := Nat.mul_le_mul laq lbp
    rw [← Int.natAbs_mul] at l1 l2
    omega
  refine ⟨(ap * bq - aq * bp) * (d : Int), Int.mul_ne_zero dz (by omega), ?_, fun r hr c hc => ?_⟩
  · rw [Int.natAbs_mul]
    have := Nat.mul_le_mul lD (show ((d : Int)).natAbs ≤ K by omega)
    have e : 2 * (K * K) * K = 2 * (K * K * K) := by rw [Nat.mul_assoc]
    omega
  · have iw := wo2_IB R hr h
    have uu := u_bound R S hm w0 hr iw (b0 ▸ unit_IB R hr h0 : IB (x.T r 0) 1)
    have vv := u_bound R S hm w1 hr iw (b1 ▸ unit_IB R hr h1 : IB (x.T r 1) 1)
    have ru := rep2 R hr hp hq hpq 0
    have rv := rep2 R hr hp hq hpq 1
    have rc := rep2 R hr hp hq hpq c
    have e0 : x.T r 0 - (if r < m then 0 else tab L m g0 g1 r 0) - sumN m (fun i => wo (wo (mul L m x r) p) q i * lin L m i 0) = mul L m x r p * lin L m p 0 + mul L m x r q * lin L m q 0 := by rw [ru]; grind
    have e1 : x.T r 1 - (if r < m then 0 else tab L m g0 g1 r 1) - sumN m (fun i => wo (wo (mul L m x r) p) q i * lin L m i 1) = mul L m x r p * lin L m p 1 + mul L m x r q * lin L m q 1 := by rw [rv]; grind
    rw [e0] at uu
    rw [e1] at vv
    have iD : IB ((ap * bq - aq * bp : Int) : Rat) (2 * (K * K)) := ⟨_, rfl, lD⟩
    have t1 := (S.ap hr hc).mul iD
    have t2 : IB (sumN m (fun i => wo (wo (mul L m x r) p) q i * ((lin L m i c * (d : Rat)) * ((ap * bq - aq * bp : Int) : Rat)))) (m * (1 * (K * (2 * (K * K))))) := IB.sum fun i hi => (iw i hi).mul ((S.ln hi hc).mul iD)
    have t3 := ((uu.mul (S.ln hq w1)).sub (vv.mul (S.ln hq w0))).mul (S.ln hp hc)
    have t4 := ((vv.mul (S.ln hp w0)).sub (uu.mul (S.ln hp w1))).mul (S.ln hq hc)
    have k1 : K * (2 * (K * K)) = 2 * (K * K * K) := by rw [← Nat.mul_assoc, Nat.mul_comm K 2, Nat.mul_assoc, Nat.mul_assoc]
    have hmK : m * (1 * (K * (2 * (K * K)))) ≤ 5 * (2 * (K * K * K)) := by rw [Nat.one_mul, k1]; exact Nat.mul_le_mul_right _ hm
    have k3 : (7 * K * K + 7 * K * K) * K = 14 * (K * K * K) := by
      rw [show 7 * K * K = 7 * (K * K) from Nat.mul_assoc 7 K K, show 7 * (K * K) + 7 * (K * K) = 14 * (K * K) by omega, Nat.mul_assoc]
    refine ((((t1.add t2).add t3).add t4).mono (b := 64 * (K * K * K)) (by omega)).of_eq ?_
    have es : sumN m (fun i => wo (wo (mul L m x r) p) q i * ((lin L m i c * (d : Rat)) * ((ap * bq - aq * bp : Int) : Rat))) = (d : Rat) * ((ap * bq - aq * bp : Int) : Rat) * sumN m (fun i => wo (wo (mul L m x r) p) q i * lin L m i c) := by
      rw [← sumN_mul]
      exact sumN_congr fun i _ => by grind
    have ci : (((ap * bq - aq * bp) * (d : Int) : Int) : Rat) = ((ap * bq - aq * bp : Int) : Rat) * (d : Rat) := by rw [Rat.intCast_mul]; rfl
    have cd : ((ap * bq - aq * bp : Int) : Rat) = lin L m p 0 * (d : Rat) * (lin L m q 1 * (d : Rat)) - lin L m q 0 * (d : Rat) * (lin L m p 1 * (d : Rat)) := by
      rw [Rat.intCast_sub, Rat.intCast_mul, Rat.intCast_mul, eap, ebq, eaq, ebp]
    rw [es, rc, ci, cd]
    grind
/-- THE NUMBERS STAY SMALL -/
theorem bnd {d K : Nat} (R : RchL L m g0 g1 x) (S : Sized L m g0 g1 d K) (hm : m ≤ 5) (hm2 : 2 ≤ m) : Bnd L m x.T (64 * (K * K * K)) := by
  have inj := fun i j (hi : i < m) (hj : j < m) (e : x.B i = x.B j) => R.good.u.inj (show m ≤ m + 2 by omega) hi hj e
  by_cases q0 : ∃ j, j < m ∧ x.B j = 0
  · obtain ⟨j0, h0, b0⟩ := q0
    by_cases q1 : ∃ j, j < m ∧ x.B j = 1
    · obtain ⟨j1, h1, b1⟩ := q1
      have j01 : j0 ≠ j1 := fun e => by rw [e] at b0; omega
      by_cases t1 : ∃ p, p < m ∧ ¬ Has L m x p
      · obtain ⟨p, hp, np⟩ := t1
        by_cases t2 : ∃ q, q < m ∧ q ≠ p ∧ ¬ Has L m x q
        · obtain ⟨q, hq, hqp, nq⟩ := t2
          refine bnd_two R S hm h0 h1 b0 b1 hp hq (fun e => hqp e.symm) fun i hi n1 n2 => ?_
          refine exists_place R (fun j => if j = j0 then p else q) (fun j hj hb => ?_) (fun a b ha hb c1 c2 e => ?_) hi (fun j hj hb e => ?_)
          · show (if j = j0 then p else q) < m ∧ ¬ Has L m x (if j = j0 then p else q)
            split
            · exact ⟨hp, np⟩
            · exact ⟨hq, nq⟩
          · have e : (if a = j0 then p else q) = (if b = j0 then p else q) := e
            have ca : a = j0 ∨ a = j1 := by
              by_cases z : x.B a = 0
              · exact .inl (inj a j0 ha h0 (z.trans b0.symm))
              · exact .inr (inj a j1 ha h1 ((show x.B a = 1 by omega).trans b1.symm))
            have cb : b = j0 ∨ b = j1 := by
              by_cases z : x.B b = 0
              · exact .inl (inj b j0 hb h0 (z.trans b0.symm))
              · exact .inr (inj b j1 hb h1 ((show x.B b = 1 by omega).trans b1.symm))
            split at e <;> split at e <;> omega
          · have e : (if j = j0 then p else q) = i := e
            split at e <;> omega
        · obtain ⟨q, hq, hqp⟩ : ∃ q, q < m ∧ q ≠ p := ⟨if p = 0 then 1 else 0, by split <;> omega, by split <;> omega⟩
          refine bnd_two R S hm h0 h1 b0 b1 hp hq (fun e => hqp e.symm) fun i hi n1 n2 => ?_
          exact Classical.not_not.mp fun z => t2 ⟨i, hi, n1, z⟩
      · exact bnd_two R S hm h0 h1 b0 b1 (show 0 < m by omega) (show 1 < m by omega) (by omega) fun i hi _ _ => Classical.not_not.mp fun z => t1 ⟨i, hi, z⟩
    · by_cases t1 : ∃ p, p < m ∧ ¬ Has L m x p
      · obtain ⟨p, hp, np⟩ := t1
        refine bnd_one R S hm h0 (by omega) hp fun i hi n1 => ?_
        refine exists_place R (fun _ => p) (fun j hj hb => ⟨hp, np⟩) (fun a b ha hb c1 c2 e => ?_) hi (fun j hj hb e => n1 e.symm)
        have za : x.B a = 0 := by have : x.B a ≠ 1 := fun z => q1 ⟨a, ha, z⟩; omega
        have zb : x.B b = 0 := by have : x.B b ≠ 1 := fun z => q1 ⟨b, hb, z⟩; omega
        exact inj a b ha hb (za.trans zb.symm)
      · exact bnd_none R S hm fun i hi => Classical.not_not.mp fun z => t1 ⟨i, hi, z⟩
  · by_cases q1 : ∃ j, j < m ∧ x.B j = 1
    · obtain ⟨j1, h1, b1⟩ := q1
      by_cases t1 : ∃ p, p < m ∧ ¬ Has L m x p
      · obtain ⟨p, hp, np⟩ := t1
        refine bnd_one R S hm h1 (by omega) hp fun i hi n1 => ?_
        refine exists_place R (fun _ => p) (fun j hj hb => ⟨hp, np⟩) (fun a b ha hb c1 c2 e => ?_) hi (fun j hj hb e => n1 e.symm)
        have za : x.B a = 1 := by have : x.B a ≠ 0 := fun z => q0 ⟨a, ha, z⟩; omega
        have zb : x.B b = 1 := by have : x.B b ≠ 0 := fun z => q0 ⟨b, hb, z⟩; omega
        exact inj a b ha hb (za.trans zb.symm)
      · exact bnd_none R S hm fun i hi => Classical.not_not.mp fun z => t1 ⟨i, hi, z⟩
    · refine bnd_none R S hm fun i hi => ?_
      exact exists_place R (fun _ => 0) (fun j hj hb => by
        have a : x.B j ≠ 0 := fun z => q0 ⟨j, hj, z⟩
        have b : x.B j ≠ 1 := fun z => q1 ⟨j, hj, z⟩
        omega) (fun a b ha hb c1 c2 e => by
        have z1 : x.B a ≠ 0 := fun z => q0 ⟨a, ha, z⟩
        have z2 : x.B a ≠ 1 := fun z => q1 ⟨a, ha, z⟩
        omega) hi fun j hj hb e => by
        have a : x.B j ≠ 0 := fun z => q0 ⟨j, hj, z⟩
        have b : x.B j ≠ 1 := fun z => q1 ⟨j, hj, z⟩
        omega
/-- a table over its least scale is as small -/
theorem least_scale {T : Tab} {b : Nat} (h : Bnd L m T b) {N : Nat → Nat → Int} {sc : Nat} (s0 : 0 < sc) (hT : ∀ r, r < m + 2 → ∀ c, c ≤ wid L m → T r c = (N r c : Rat) / (sc : Rat))
    (hl : ∀ k : Nat, k ∣ sc → (∀ r, r < m + 2 → ∀ c, c ≤ wid L m → (k : Int) ∣ N r c) → k = 1) : sc ≤ b ∧ ∀ r, r < m + 2 → ∀ c, c ≤ wid L m → (N r c).natAbs ≤ b := by
  obtain ⟨δ, dz, dl, ha⟩ := h
  have s0' : (sc : Rat) ≠ 0 := fun z => by
    have : ((sc : Nat) : Rat) = ((0 : Nat) : Rat) := z
    have := Rat.natCast_inj.mp this
    omega
  have key : ∀ r, r < m + 2 → ∀ c, c ≤ wid L m → ∃ z : Int, N r c * δ = z * (sc : Int) ∧ z.natAbs ≤ b := fun r hr c hc => by
    obtain ⟨z, e, l⟩ := ha r hr c hc
    refine ⟨z, ?_, l⟩
    rw [hT r hr c hc] at e
    have e2 : (N r c : Rat) * (δ : Rat) = (z : Rat) * (sc : Rat) := by rw [← e]; grind
    have e3 : ((N r c * δ : Int) : Rat) = ((z * (sc : Int) : Int) : Rat) := by
      rw [Rat.intCast_mul, Rat.intCast_mul, e2]; rfl
    exact Rat.intCast_inj.mp e3
  have g0 : 0 < Nat.gcd sc δ.natAbs := Nat.gcd_pos_of_pos_left _ s0
  have g1 := Nat.gcd_dvd_left sc δ.natAbs
  have g2 := Nat.gcd_dvd_right sc δ.natAbs
  have one : sc / Nat.gcd sc δ.natAbs = 1 := hl _ (Nat.div_dvd_of_dvd g1) fun r hr c hc => by
    obtain ⟨z, e, _⟩ := key r hr c hc
    have cop : Nat.Coprime (sc / Nat.gcd sc δ.natAbs) (δ.natAbs / Nat.gcd sc δ.natAbs) := Nat.coprime_div_gcd_div_gcd g0
    have e2 : (N r c).natAbs * δ.natAbs = z.natAbs * sc := by
      have := congrArg Int.natAbs e
      rw [Int.natAbs_mul, Int.natAbs_mul] at this
      exact this
    have e3 : (N r c).natAbs * (δ.natAbs / Nat.gcd sc δ.natAbs) = z.natAbs * (sc / Nat.gcd sc δ.natAbs) := by
      have a1 := Nat.div_mul_cancel g1
      have a2 := Nat.div_mul_cancel g2
      refine Nat.eq_of_mul_eq_mul_right g0 ?_
      rw [Nat.mul_assoc, a2, Nat.mul_assoc, a1]; exact e2
    have e4 : (sc / Nat.gcd sc δ.natAbs) ∣ (N r c).natAbs * (δ.natAbs / Nat.gcd sc δ.natAbs) := ⟨z.natAbs, by rw [e3, Nat.mul_comm]⟩
    exact Int.ofNat_dvd_left.mpr (cop.dvd_of_dvd_mul_right e4)
  have sd : sc ≤ δ.natAbs := by
    have a1 := Nat.div_mul_cancel g1
    rw [one, Nat.one_mul] at a1
    have : sc ∣ δ.natAbs := a1 ▸ g2
    exact Nat.le_of_dvd (by omega) this
  refine ⟨by omega, fun r hr c hc => ?_⟩
  obtain ⟨z, e, l⟩ := key r hr c hc
  have e2 : (N r c).natAbs * δ.natAbs = z.natAbs * sc := by
    have := congrArg Int.natAbs e
    rw [Int.natAbs_mul, Int.natAbs_mul] at this
    exact this
  by_cases q : (N r c).natAbs ≤ b
  · exact q
  · exfalso
    have l1 : z.natAbs * sc ≤ b * sc := Nat.mul_le_mul_right _ l
    have l2 : (b + 1) * sc ≤ (N r c).natAbs * δ.natAbs := Nat.mul_le_mul (by omega) sd
    rw [Nat.succ_mul] at l2
    omega
end
end PW
namespace PW
/-! corners -/
def Line.at_ (l : Line) (x y : Rat) : Rat := l.a * x + l.b * y
theorem holds1 (l : Line) (x y : Rat) : l.holds 1 x y ↔ holdsM l.mark (l.at_ x y) l.c := by
  unfold Line.holds Line.at_
  rw [Rat.mul_one]
/-- along a way a line never stops one, or stops one at a place where it is touched -/
theorem line_ray (l : Line) (x y dx dy : Rat) (h : l.holds 1 x y) :
    (∀ t, 0 ≤ t → l.holds 1 (x + t * dx) (y + t * dy)) ∨ ∃ T, 0 ≤ T ∧ (∀ t, 0 ≤ t → t ≤ T → l.holds 1 (x + t * dx) (y + t * dy)) ∧ l.at_ (x + T * dx) (y + T * dy) = l.c ∧ l.at_ dx dy ≠ 0 := by
  have al : ∀ t, l.at_ (x + t * dx) (y + t * dy) = l.at_ x y + t * l.at_ dx dy := fun t => by unfold Line.at_; grind
  rw [holds1] at h
  simp only [holds1, al]
  cases hm : l.mark with
  | le =>
    rw [hm] at h
    have h : l.at_ x y ≤ l.c := h
    by_cases e : l.at_ dx dy ≤ 0
    · refine .inl fun t ht => ?_
      show l.at_ x y + t * l.at_ dx dy ≤ l.c
      have := mul_nonpos' e ht
      grind
    · have e : 0 < l.at_ dx dy := by grind
      refine .inr ⟨(l.c - l.at_ x y) / l.at_ dx dy, div_nonneg' (by grind) e, fun t ht hT => ?_, by grind, by grind⟩
      show l.at_ x y + t * l.at_ dx dy ≤ l.c
      have := Rat.mul_le_mul_of_nonneg_right hT (Rat.le_of_lt e)
      have e2 : (l.c - l.at_ x y) / l.at_ dx dy * l.at_ dx dy = l.c - l.at_ x y := by grind
      grind
  | ge =>
    rw [hm] at h
    have h : l.c ≤ l.at_ x y := h
    by_cases e : 0 ≤ l.at_ dx dy
    · refine .inl fun t ht => ?_
      show l.c ≤ l.at_ x y + t * l.at_ dx dy
      have := Rat.mul_nonneg ht e
      grind
    · have e : 0 < - l.at_ dx dy := by grind
      refine .inr ⟨(l.at_ x y - l.c) / (- l.at_ dx dy), div_nonneg' (by grind) e, fun t ht hT => ?_, ?_, by grind⟩
      · show l.c ≤ l.at_ x y + t * l.at_ dx dy
        have := Rat.mul_le_mul_of_nonneg_right hT (Rat.le_of_lt e)
        have e2 : (l.at_ x y - l.c) / (- l.at_ dx dy) * (- l.at_ dx dy) = l.at_ x y - l.c := by
          have : (- l.at_ dx dy) ≠ 0 := by grind
          grind
        grind
      · have e2 : (l.at_ x y - l.c) / (- l.at_ dx dy) * (- l.at_ dx dy) = l.at_ x y - l.c := by
          have : (- l.at_ dx dy) ≠ 0 := by grind
          grind
        grind
  | eq =>
    rw [hm] at h
    have h : l.at_ x y = l.c := h
    by_cases e : l.at_ dx dy = 0
    · refine .inl fun t ht => ?_
      show l.at_ x y + t * l.at_ dx dy = l.c
      rw [e]; grind
    · refine .inr ⟨0, by grind, fun t ht hT => ?_, by grind, e⟩
      show l.at_ x y + t * l.at_ dx dy = l.c
      have : t = 0 := by grind
      rw [this]; grind
theorem lines_ray (E : Nat → Line) (x y dx dy : Rat) : ∀ n : Nat, (∀ i, i < n → (E i).holds 1 x y) →
    (∀ t, 0 ≤ t → ∀ i, i < n → (E i).holds 1 (x + t * dx) (y + t * dy)) ∨ ∃ T, 0 ≤ T ∧ (∀ t, 0 ≤ t → t ≤ T → ∀ i, i < n → (E i).holds 1 (x + t * dx) (y + t * dy)) ∧ ∃ i, i < n ∧ (E i).at_ (x + T * dx) (y + T * dy) = (E i).c ∧ (E i).at_ dx dy ≠ 0
  | 0, _ => .inl fun t _ i hi => absurd hi (Nat.not_lt_zero _)
  | n + 1, h => by
    have ih := lines_ray E x y dx dy n fun i hi => h i (by omega)
    have hl := line_ray (E n) x y dx dy (h n (by omega))
    rcases ih with ih | ⟨T, T0, hT, i, hi, h1, h2⟩
    · rcases hl with hl | ⟨S, S0, hS, k1, k2⟩
      · refine .inl fun t ht i hi => ?_
        by_cases e : i = n
        · rw [e]; exact hl t ht
        · exact ih t ht i (by omega)
      · refine .inr ⟨S, S0, fun t ht hts i hi => ?_, n, by omega, k1, k2⟩
        by_cases e : i = n
        · rw [e]; exact hS t ht hts
        · exact ih t ht i (by omega)
    · rcases hl with hl | ⟨S, S0, hS, k1, k2⟩
      · refine .inr ⟨T, T0, fun t ht hts j hj => ?_, i, by omega, h1, h2⟩
        by_cases e : j = n
        · rw [e]; exact hl t ht
        · exact hT t ht hts j (by omega)
      · by_cases q : T ≤ S
        · refine .inr ⟨T, T0, fun t ht hts j hj => ?_, i, by omega, h1, h2⟩
          by_cases e : j = n
          · rw [e]; exact hS t ht (by grind)
          · exact hT t ht hts j (by omega)
        · refine .inr ⟨S, S0, fun t ht hts j hj => ?_, n, by omega, k1, k2⟩
          by_cases e : j = n
          · rw [e]; exact hS t ht hts
          · exact hT t ht (by grind) j (by omega)
/-- a plan of two unknowns with two ends each -/
structure PlanR where
  lo0 : Rat
  hi0 : Rat
  lo1 : Rat
  hi1 : Rat
  rows : List Line
  g0 : Rat
  g1 : Rat
def Line.nul : Line := ⟨0, 0, .eq, 0⟩
namespace PlanR
variable (P : PlanR)
def ends : List Line := [⟨1, 0, .ge, P.lo0⟩, ⟨1, 0, .le, P.hi0⟩, ⟨0, 1, .ge, P.lo1⟩, ⟨0, 1, .le, P.hi1⟩]
def edges : List Line := P.rows ++ P.ends
def edge (i : Nat) : Line := P.edges.getD i .nul
def ne : Nat := P.rows.length + 4
def feas (x y : Rat) : Prop := ∀ i, i < P.ne → (P.edge i).holds 1 x y
def goal (x y : Rat) : Rat := P.g0 * x + P.g1 * y
end PlanR
section
variable {P : PlanR}
theorem edge_row {i : Nat} (h : i < P.rows.length) : P.edge i = P.rows.getD i .nul := by
  unfold PlanR.edge PlanR.edges
  simp [List.getD, List.getElem?_append_left h]
theorem edge_end {k : Nat} : P.edge (P.rows.length + k) = P.ends.getD k .nul := by
  unfold PlanR.edge PlanR.edges
  simp [List.getD, List.getElem?_append_right]
theorem feas_iff {x y : Rat} : P.feas x y ↔ (∀ i, i < P.rows.length → (P.rows.getD i .nul).holds 1 x y) ∧ (P.lo0 ≤ x ∧ x ≤ P.hi0) ∧ (P.lo1 ≤ y ∧ y ≤ P.hi1) := by
  constructor
  · intro h
    refine ⟨fun i hi => by rw [← edge_row hi]; exact h i (by unfold PlanR.ne; omega), ⟨?_, ?_⟩, ?_, ?_⟩
    · have := h (P.rows.length + 0) (by unfold PlanR.ne; omega)
      rw [edge_end] at this
      have : P.lo0 * 1 ≤ 1 * x + 0 * y := this
      grind
    · have := h (P.rows.length + 1) (by unfold PlanR.ne; omega)
      rw [edge_end] at this
      have : 1 * x + 0 * y ≤ P.hi0 * 1 := this
      grind
    · have := h (P.rows.length + 2) (by unfold PlanR.ne; omega)
      rw [edge_end] at this
      have : P.lo1 * 1 ≤ 0 * x + 1 * y := this
      grind
    · have := h (P.rows.length + 3) (by unfold PlanR.ne; omega)
      rw [edge_end] at this
      have : 0 * x + 1 * y ≤ P.hi1 * 1 := this
      grind
  · rintro ⟨h, ⟨h1, h2⟩, h3, h4⟩ i hi
    by_cases q : i < P.rows.length
    · rw [edge_row q]; exact h i q
    · unfold PlanR.ne at hi
      obtain ⟨k, rfl⟩ : ∃ k, i = P.rows.length + k := ⟨i - P.rows.length, by omega⟩
      rw [edge_end]
      match k, hi with
      | 0, _ => show P.lo0 * 1 ≤ 1 * x + 0 * y; grind
      | 1, _ => show 1 * x + 0 * y ≤ P.hi0 * 1; grind
      | 2, _ => show P.lo1 * 1 ≤ 0 * x + 1 * y; grind
      | 3, _ => show 0 * x + 1 * y ≤ P.hi1 * 1; grind
      | k + 4, hi => omega
/-- along any way one is stopped -/
theorem feas_ray {x y dx dy : Rat} (h : P.feas x y) (hd : dx ≠ 0 ∨ dy ≠ 0) : ∃ T, 0 ≤ T ∧ P.feas (x + T * dx) (y + T * dy) ∧ ∃ i, i < P.ne ∧ (P.edge i).at_ (x + T * dx) (y + T * dy) = (P.edge i).c ∧ (P.edge i).at_ dx dy ≠ 0 := by
  rcases lines_ray P.edge x y dx dy P.ne h with q | ⟨T, T0, hT, r⟩
  · exfalso
    have b : ∀ t, 0 ≤ t → P.feas (x + t * dx) (y + t * dy) := q
    have far : ∀ u v lo hi : Rat, u ≠ 0 → (∀ t, 0 ≤ t → lo ≤ v + t * u ∧ v + t * u ≤ hi) → False := fun u v lo hi hu hb => by
      have b0 := hb 0 (by grind)
      by_cases s : 0 < u
      · have := hb ((hi - v) / u + 1) (by have := div_nonneg' (a := hi - v) (b := u) (by grind) s; grind)
        have e : ((hi - v) / u + 1) * u = hi - v + u := by grind
        grind
      · have s : 0 < -u := by grind
        have := hb ((v - lo) / (-u) + 1) (by have := div_nonneg' (a := v - lo) (b := -u) (by grind) s; grind)
        have e : ((v - lo) / (-u) + 1) * (-u) = v - lo + -u := by
          have : -u ≠ 0 := by grind
          grind
        grind
    rcases hd with hd | hd
    · exact far dx x P.lo0 P.hi0 hd fun t ht => (feas_iff.mp (b t ht)).2.1
    · exact far dy y P.lo1 P.hi1 hd fun t ht => (feas_iff.mp (b t ht)).2.2
  · exact ⟨T, T0, hT T T0 (by grind), r⟩
/-- what two lines' crossing turns on; where they cross -/
def det (l k : Line) : Rat := l.a * k.b - k.a * l.b
def crx (l k : Line) : Rat := (l.c * k.b - k.c * l.b) / det l k
def cry (l k : Line) : Rat := (l.a * k.c - k.a * l.c) / det l k
theorem cross_is {l k : Line} {x y : Rat} (h : det l k ≠ 0) (h1 : l.at_ x y = l.c) (h2 : k.at_ x y = k.c) : x = crx l k ∧ y = cry l k := by
  unfold crx cry
  unfold Line.at_ at h1 h2
  constructor
  · have e : l.c * k.b - k.c * l.b = x * det l k := by unfold det; rw [← h1, ← h2]; grind
    rw [e]; grind
  · have e : l.a * k.c - k.a * l.c = y * det l k := by unfold det; rw [← h1, ← h2]; grind
    rw [e]; grind
/-- a corner that meets the plan -/
def Corner (P : PlanR) (i j : Nat) : Prop := det (P.edge i) (P.edge j) ≠ 0 ∧ P.feas (crx (P.edge i) (P.edge j)) (cry (P.edge i) (P.edge j))
theorem det_swap (l k : Line) : det l k = - det k l := by unfold det; grind
theorem crx_swap (l k : Line) : crx l k = crx k l := by
  unfold crx
  rw [det_swap l k]
  by_cases q : det k l = 0
  · rw [q]; simp [Rat.div_def]
  · have : - det k l ≠ 0 := by grind
    grind
theorem cry_swap (l k : Line) : cry l k = cry k l := by
  unfold cry
  rw [det_swap l k]
  by_cases q : det k l = 0
  · rw [q]; simp [Rat.div_def]
  · have : - det k l ≠ 0 := by grind
    grind
def worthC (P : PlanR) (i j : Nat) : Rat := P.goal (crx (P.edge i) (P.edge j)) (cry (P.edge i) (P.edge j))
/-- FROM ANY POINT TO A CORNER THAT IS AS GOOD -/
theorem corner_of {x y : Rat} (h : P.feas x y) : ∃ i j, j < i ∧ i < P.ne ∧ Corner P i j ∧ worthC P i j ≤ P.goal x y := by
  obtain ⟨dx, dy, hd, hg⟩ : ∃ dx dy : Rat, (dx ≠ 0 ∨ dy ≠ 0) ∧ P.g0 * dx + P.g1 * dy = 0 := by
    by_cases q : P.g0 = 0
    · exact ⟨1, 0, .inl (by grind), by rw [q]; grind⟩
    · exact ⟨- P.g1, P.g0, .inr q, by grind⟩
  obtain ⟨T, T0, f1, i, hi, c1, n1⟩ := feas_ray h hd
  have nz : - (P.edge i).b ≠ 0 ∨ (P.edge i).a ≠ 0 := by
    by_cases q : (P.edge i).a = 0
    · refine .inl fun z => n1 ?_
      unfold Line.at_
      have : (P.edge i).b = 0 := by grind
      rw [q, this]; grind
    · exact .inr q
  obtain ⟨ex, ey, he, hp, hs⟩ : ∃ ex ey : Rat, (ex ≠ 0 ∨ ey ≠ 0) ∧ P.g0 * ex + P.g1 * ey ≤ 0 ∧ ((ex = - (P.edge i).b ∧ ey = (P.edge i).a) ∨ (ex = (P.edge i).b ∧ ey = - (P.edge i).a)) := by
    by_cases q : P.g0 * (- (P.edge i).b) + P.g1 * (P.edge i).a ≤ 0
    · exact ⟨_, _, nz, q, .inl ⟨rfl, rfl⟩⟩
    · refine ⟨(P.edge i).b, - (P.edge i).a, ?_, by grind, .inr ⟨rfl, rfl⟩⟩
      rcases nz with z | z
      · exact .inl (by grind)
      · exact .inr (by grind)
  obtain ⟨S, S0, f2, j, hj, c2, n2⟩ := feas_ray f1 he
  have zi : (P.edge i).at_ ex ey = 0 := by
    unfold Line.at_
    rcases hs with ⟨a, b⟩ | ⟨a, b⟩ <;> rw [a, b] <;> grind
  have c3 : (P.edge i).at_ (x + T * dx + S * ex) (y + T * dy + S * ey) = (P.edge i).c := by
    rw [← c1]
    have : (P.edge i).at_ (x + T * dx + S * ex) (y + T * dy + S * ey) = (P.edge i).at_ (x + T * dx) (y + T * dy) + S * (P.edge i).at_ ex ey := by unfold Line.at_; grind
    rw [this, zi]; grind
  have dt : det (P.edge i) (P.edge j) ≠ 0 := fun z => n2 (by
    unfold det at z
    unfold Line.at_
    rcases hs with ⟨a, b⟩ | ⟨a, b⟩ <;> rw [a, b] <;> grind)
  obtain ⟨e1, e2⟩ := cross_is dt c3 c2
  have le : P.goal (x + T * dx + S * ex) (y + T * dy + S * ey) ≤ P.goal x y := by
    have e : P.goal (x + T * dx + S * ex) (y + T * dy + S * ey) = P.goal x y + T * (P.g0 * dx + P.g1 * dy) + S * (P.g0 * ex + P.g1 * ey) := by unfold PlanR.goal; grind
    have := mul_nonpos' hp S0
    rw [e, hg]
    grind
  rw [e1, e2] at f2 le
  have ij : i ≠ j := fun e => dt (by rw [e]; unfold det; grind)
  by_cases q : j < i
  · exact ⟨i, j, q, hi, ⟨dt, f2⟩, le⟩
  · refine ⟨j, i, by omega, hj, ⟨by rw [det_swap]; grind, by rw [crx_swap, cry_swap]; exact f2⟩, ?_⟩
    unfold worthC
    rw [crx_swap, cry_swap]; exact le
/-- what all corners of some pairs tell -/
def BestOf (P : PlanR) (S : Nat → Nat → Prop) (o : Option Rat) : Prop := match o with
  | none => ∀ i j, S i j → ¬ Corner P i j
  | some w => (∃ i j, S i j ∧ Corner P i j ∧ worthC P i j = w) ∧ ∀ i j, S i j → Corner P i j → w ≤ worthC P i j
def AllPairs (P : PlanR) (i j : Nat) : Prop := j < i ∧ i < P.ne
theorem best_none (h : BestOf P (AllPairs P) none) {x y : Rat} (f : P.feas x y) : False := by
  obtain ⟨i, j, h1, h2, c, _⟩ := corner_of f
  exact h i j ⟨h1, h2⟩ c
theorem best_some {w : Rat} (h : BestOf P (AllPairs P) (some w)) : (∃ x y, P.feas x y ∧ P.goal x y = w) ∧ ∀ x y, P.feas x y → w ≤ P.goal x y := by
  obtain ⟨⟨i, j, _, c, e⟩, h2⟩ := h
  refine ⟨⟨_, _, c.2, e⟩, fun x y f => ?_⟩
  obtain ⟨i, j, h1, h3, c, l⟩ := corner_of f
  have := h2 i j ⟨h1, h3⟩ c
  grind
/-! the plan's lines for the tableau -/
def PlanR.lines (P : PlanR) : List Line := P.rows.map (fun l => upr ⟨l.a, l.b, l.mark, l.c - (l.a * P.lo0 + l.b * P.lo1)⟩) ++ [upr ⟨1, 0, .le, P.hi0 - P.lo0⟩, upr ⟨0, 1, .le, P.hi1 - P.lo1⟩]
def PlanR.ln (P : PlanR) (i : Nat) : Line := P.lines.getD i .nul
def PlanR.m (P : PlanR) : Nat := P.rows.length + 2
theorem ln_row {i : Nat} (h : i < P.rows.length) : P.ln i = upr ⟨(P.rows.getD i .nul).a, (P.rows.getD i .nul).b, (P.rows.getD i .nul).mark, (P.rows.getD i .nul).c - ((P.rows.getD i .nul).a * P.lo0 + (P.rows.getD i .nul).b * P.lo1)⟩ := by
  unfold PlanR.ln PlanR.lines
  simp [List.getD, List.getElem?_append_left, h]
theorem ln_0 : P.ln P.rows.length = upr ⟨1, 0, .le, P.hi0 - P.lo0⟩ := by
  unfold PlanR.ln PlanR.lines
  simp [List.getD, List.getElem?_append_right]
theorem ln_1 : P.ln (P.rows.length + 1) = upr ⟨0, 1, .le, P.hi1 - P.lo1⟩ := by
  unfold PlanR.ln PlanR.lines
  simp [List.getD, List.getElem?_append_right]
theorem ln_c {i : Nat} (h : i < P.m) : 0 ≤ (P.ln i).c := by
  unfold PlanR.m at h
  by_cases q : i < P.rows.length
  · rw [ln_row q]; exact upr_c _
  · by_cases z : i = P.rows.length
    · rw [z, ln_0]; exact upr_c _
    · rw [show i = P.rows.length + 1 by omega, ln_1]; exact upr_c _
theorem lines_iff {x y : Rat} (hx : 0 ≤ x) (hy : 0 ≤ y) : (∀ i, i < P.m → (P.ln i).holds 1 x y) ↔ P.feas (x + P.lo0) (y + P.lo1) := by
  have row : ∀ i, i < P.rows.length → ((P.ln i).holds 1 x y ↔ (P.rows.getD i .nul).holds 1 (x + P.lo0) (y + P.lo1)) := fun i hi => by
    rw [ln_row hi, upr_holds]
    cases (P.rows.getD i .nul) with | mk a b k c =>
    cases k <;> simp only [Line.holds, holdsM] <;> constructor <;> intro h <;> grind
  rw [feas_iff]
  constructor
  · intro h
    refine ⟨fun i hi => (row i hi).mp (h i (by unfold PlanR.m; omega)), ⟨by grind, ?_⟩, by grind, ?_⟩
    · have := h P.rows.length (by unfold PlanR.m; omega)
      rw [ln_0, upr_holds] at this
      have : 1 * x + 0 * y ≤ (P.hi0 - P.lo0) * 1 := this
      grind
    · have := h (P.rows.length + 1) (by unfold PlanR.m; omega)
      rw [ln_1, upr_holds] at this
      have : 0 * x + 1 * y ≤ (P.hi1 - P.lo1) * 1 := this
      grind
  · rintro ⟨h, ⟨_, h1⟩, _, h2⟩ i hi
    unfold PlanR.m at hi
    by_cases q : i < P.rows.length
    · exact (row i q).mpr (h i q)
    · by_cases z : i = P.rows.length
      · rw [z, ln_0, upr_holds]
        show 1 * x + 0 * y ≤ (P.hi0 - P.lo0) * 1
        grind
      · rw [show i = P.rows.length + 1 by omega, ln_1, upr_holds]
        show 0 * x + 1 * y ≤ (P.hi1 - P.lo1) * 1
        grind
theorem lines_box (p q : Rat) (hp : 0 ≤ p) (hq : 0 ≤ q) (h : ∀ i, i < P.m → (P.ln i).holds 0 p q) : p = 0 ∧ q = 0 := by
  have h0 := h P.rows.length (by unfold PlanR.m; omega)
  rw [ln_0, upr_holds] at h0
  have h0 : 1 * p + 0 * q ≤ (P.hi0 - P.lo0) * 0 := h0
  have h1 := h (P.rows.length + 1) (by unfold PlanR.m; omega)
  rw [ln_1, upr_holds] at h1
  have h1 : 0 * p + 1 * q ≤ (P.hi1 - P.lo1) * 0 := h1
  constructor <;> grind
end
end PW
namespace PW
/-! fractions as pairs of whole numbers, their sizes -/
theorem rat_nd (r : Rat) : (r.num : Rat) / (r.den : Rat) = r := by
  rw [← Rat.mkRat_eq_div, Rat.mkRat_self]
theorem den_ne (r : Rat) : (r.den : Rat) ≠ 0 := fun z => by
  have : ((r.den : Nat) : Rat) = ((0 : Nat) : Rat) := z
  exact r.den_nz (Rat.natCast_inj.mp this)
theorem nat_ne {d : Nat} (h : 0 < d) : (d : Rat) ≠ 0 := fun z => by
  have : ((d : Nat) : Rat) = ((0 : Nat) : Rat) := z
  have := Rat.natCast_inj.mp this
  omega
theorem nat_pos {d : Nat} (h : 0 < d) : (0 : Rat) < (d : Rat) := by
  have : ((0 : Nat) : Rat) < ((d : Nat) : Rat) := Rat.natCast_lt_natCast.mpr h
  exact this
/-- n / d, d a whole number from 1 on -/
def fr (n d : Int) : Rat := mkRat n d.toNat
theorem fr_div {n d : Int} (h : 0 < d) : fr n d = (n : Rat) / (d : Rat) := by
  unfold fr
  rw [Rat.mkRat_eq_div]
  have e : ((d.toNat : Nat) : Rat) = ((d.toNat : Int) : Rat) := rfl
  rw [e, Int.toNat_of_nonneg (by omega)]
theorem int_ne {d : Int} (h : 0 < d) : (d : Rat) ≠ 0 := fun z => by
  have : (d : Rat) = ((0 : Int) : Rat) := z
  have := Rat.intCast_inj.mp this
  omega
theorem int_pos {d : Int} (h : 0 < d) : (0 : Rat) < (d : Rat) := Rat.intCast_pos.mpr h
theorem fr_self (r : Rat) : fr r.num r.den = r := by
  unfold fr
  rw [Int.toNat_natCast, Rat.mkRat_self]
theorem fr_num {n d : Int} (h : 0 < d) : (fr n d).num = n / (Nat.gcd n.natAbs d.natAbs : Nat) := by
  unfold fr
  have e : d.toNat = d.natAbs := by omega
  rw [Rat.num_mkRat, if_neg (by omega), e, Nat.gcd_comm]
theorem fr_den {n d : Int} (h : 0 < d) : ((fr n d).den : Int) = d / (Nat.gcd n.natAbs d.natAbs : Nat) := by
  unfold fr
  have e : d.toNat = d.natAbs := by omega
  rw [Rat.den_mkRat, if_neg (by omega), e, Nat.gcd_comm]
  have e2 : d = (d.natAbs : Int) := by omega
  rw [e2, Int.natAbs_natCast]
  exact Int.natCast_ediv _ _
theorem fr_add (r s : Rat) : fr (r.num * s.den + s.num * r.den) (r.den * s.den) = r + s := by
  have h1 := r.den_pos
  have h2 := s.den_pos
  have h3 : (0 : Int) < (r.den : Int) * (s.den : Int) := Int.mul_pos (by omega) (by omega)
  rw [fr_div h3, Rat.intCast_add, Rat.intCast_mul, Rat.intCast_mul, Rat.intCast_mul]
  have e1 := rat_nd r
  have e2 := rat_nd s
  have n1 := den_ne r
  have n2 := den_ne s
  have c1 : (((r.den : Nat) : Int) : Rat) = (r.den : Rat) := rfl
  have c2 : (((s.den : Nat) : Int) : Rat) = (s.den : Rat) := rfl
  rw [c1, c2]
  grind
theorem fr_sub (r s : Rat) : fr (r.num * s.den - s.num * r.den) (r.den * s.den) = r - s := by
  have h1 := r.den_pos
  have h2 := s.den_pos
  have h3 : (0 : Int) < (r.den : Int) * (s.den : Int) := Int.mul_pos (by omega) (by omega)
  rw [fr_div h3, Rat.intCast_sub, Rat.intCast_mul, Rat.intCast_mul, Rat.intCast_mul]
  have e1 := rat_nd r
  have e2 := rat_nd s
  have n1 := den_ne r
  have n2 := den_ne s
  have c1 : (((r.den : Nat) : Int) : Rat) = (r.den : Rat) := rfl
  have c2 : (((s.den : Nat) : Int) : Rat) = (s.den : Rat) := rfl
  rw [c1, c2]
  grind
theorem fr_mul (r s : Rat) : fr (r.num * s.num) (r.den * s.den) = r * s := by
  have h1 := r.den_pos
  have h2 := s.den_pos
  have h3 : (0 : Int) < (r.den : Int) * (s.den : Int) := Int.mul_pos (by omega) (by omega)
  rw [fr_div h3, Rat.intCast_mul, Rat.intCast_mul]
  have e1 := rat_nd r
  have e2 := rat_nd s
  have n1 := den_ne r
  have n2 := den_ne s
  have c1 : (((r.den : Nat) : Int) : Rat) = (r.den : Rat) := rfl
  have c2 : (((s.den : Nat) : Int) : Rat) = (s.den : Rat) := rfl
  rw [c1, c2]
  grind
/-- top and bottom below 2 ^ k -/
def Sz (k : Nat) (r : Rat) : Prop := r.num.natAbs < 2 ^ k ∧ r.den < 2 ^ k
theorem Sz.mono {a b : Nat} {r : Rat} (h : Sz a r) (l : a ≤ b) : Sz b r :=
  ⟨Nat.lt_of_lt_of_le h.1 (Nat.pow_le_pow_right (by omega) l), Nat.lt_of_lt_of_le h.2 (Nat.pow_le_pow_right (by omega) l)⟩
theorem sz_fr {n d : Int} {k : Nat} (h0 : 0 < d) (hn : n.natAbs < 2 ^ k) (hd : d.natAbs < 2 ^ k) : Sz k (fr n d) := by
  have g : 0 < Nat.gcd n.natAbs d.natAbs := Nat.gcd_pos_of_pos_right _ (by omega)
  constructor
  · rw [fr_num h0]
    exact Nat.lt_of_le_of_lt (Int.natAbs_ediv_le_natAbs _ _) hn
  · have e := fr_den (n := n) h0
    have l : (d / (Nat.gcd n.natAbs d.natAbs : Nat)).natAbs ≤ d.natAbs := Int.natAbs_ediv_le_natAbs _ _
    rw [← e, Int.natAbs_natCast] at l
    omega
theorem mul_lt {a b : Int} {k l : Nat} (h1 : a.natAbs < 2 ^ k) (h2 : b.natAbs < 2 ^ l) : (a * b).natAbs < 2 ^ (k + l) := by
  rw [Int.natAbs_mul]
  rw [Nat.pow_add]
  exact Nat.mul_lt_mul'' h1 h2
theorem add_lt {a b : Int} {k : Nat} (h1 : a.natAbs < 2 ^ k) (h2 : b.natAbs < 2 ^ k) : (a + b).natAbs < 2 ^ (k + 1) := by
  rw [Nat.pow_succ]; omega
theorem sub_lt {a b : Int} {k : Nat} (h1 : a.natAbs < 2 ^ k) (h2 : b.natAbs < 2 ^ k) : (a - b).natAbs < 2 ^ (k + 1) := by
  rw [Nat.pow_succ]; omega
theorem nat_abs (d : Nat) : ((d : Int)).natAbs = d := rfl
theorem sz_add {a b : Nat} {r s : Rat} (h : Sz a r) (k : Sz b s) : Sz (a + b + 1) (r + s) := by
  rw [← fr_add]
  have p1 := r.den_pos
  have p2 := s.den_pos
  refine sz_fr (Int.mul_pos (by omega) (by omega)) (add_lt (mul_lt h.1 k.2) (by rw [Nat.add_comm a b]; exact mul_lt k.1 h.2)) ?_
  have := mul_lt (a := (r.den : Int)) (b := (s.den : Int)) h.2 k.2
  exact Nat.lt_of_lt_of_le this (Nat.pow_le_pow_right (by omega) (by omega))
theorem sz_sub {a b : Nat} {r s : Rat} (h : Sz a r) (k : Sz b s) : Sz (a + b + 1) (r - s) := by
  rw [← fr_sub]
  have p1 := r.den_pos
  have p2 := s.den_pos
  refine sz_fr (Int.mul_pos (by omega) (by omega)) (sub_lt (mul_lt h.1 k.2) (by rw [Nat.add_comm a b]; exact mul_lt k.1 h.2)) ?_
  have := mul_lt (a := (r.den : Int)) (b := (s.den : Int)) h.2 k.2
  exact Nat.lt_of_lt_of_le this (Nat.pow_le_pow_right (by omega) (by omega))
theorem sz_mul {a b : Nat} {r s : Rat} (h : Sz a r) (k : Sz b s) : Sz (a + b) (r * s) := by
  rw [← fr_mul]
  have p1 := r.den_pos
  have p2 := s.den_pos
  exact sz_fr (Int.mul_pos (by omega) (by omega)) (mul_lt h.1 k.1) (mul_lt (a := (r.den : Int)) (b := (s.den : Int)) h.2 k.2)
theorem sz_0 : Sz 1 0 := ⟨by decide, by decide⟩
theorem sz_1 : Sz 1 1 := ⟨by decide, by decide⟩
theorem sz_neg {a : Nat} {r : Rat} (h : Sz a r) : Sz a (-r) := by
  constructor
  · rw [show (-r).num = -r.num from rfl, Int.natAbs_neg]; exact h.1
  · exact h.2
theorem num_neg_iff {r : Rat} : r.num < 0 ↔ r < 0 := by
  have := @Rat.num_nonneg r
  constructor
  · intro h
    have : ¬ 0 ≤ r := fun z => by have := this.mpr z; omega
    grind
  · intro h
    have : ¬ 0 ≤ r.num := fun z => by have := this.mp z; grind
    omega
theorem num_pos_iff {r : Rat} : 0 < r.num ↔ 0 < r := by
  have h1 := @Rat.num_nonneg r
  have h2 := @Rat.num_eq_zero r
  constructor
  · intro h
    have a : 0 ≤ r := h1.mp (by omega)
    have b : r ≠ 0 := fun z => by have := h2.mpr z; omega
    grind
  · intro h
    have a : 0 ≤ r.num := h1.mpr (by grind)
    have b : r.num ≠ 0 := fun z => by have := h2.mp z; grind
    omega
end PW
/-! rules of our own, by the library's walks (WalksT, Draws, Begins, Meets): enumerate over a tuple, a tuple turned about, a tuple whose object is known, dict of such a one -/
namespace WX
open PySem PySem.Spec PyProof.Rows L2
section
/-! ### enumerate of a tuple -/
/-- what a call of enumerate leaves: what is begun, and the count over it -/
def counted (h : Heap) (o : Obj) : Heap := (h.push o).push ⟨.type "enumerate", none, .fields #[.none, .bool false, .ref h.objs.size, rawInt 0, .none, .none], #[]⟩
theorem counted_old {h : Heap} {o : Obj} {b : Addr} {u : Obj} (e : h.get? b = some u) : (counted h o).get? b = some u :=
  Heap.get?_push_of_some _ (Heap.get?_push_of_some _ e)
theorem counted_first {h : Heap} {o : Obj} (f : o.isFreed = false) : (counted h o).get? h.objs.size = some o :=
  Heap.get?_push_of_some _ (Heap.get?_push_size _ f)
theorem counted_enum (h : Heap) (o : Obj) : IsEnum (counted h o) (h.objs.size + 1) h.objs.size ((0 : Nat) : Int) .none := by
  have z : (h.push o).objs.size = h.objs.size + 1 := Heap.size_push _ _
  exact z ▸ Heap.get?_push_size (h.push o) rfl
/-- enumerate of anything of which it is known what its iterator is -/
theorem counts {v : Value} {o : Obj} {S : Heap → Prop} (B : Begins v o S) : Meets (Builtin.«enumerate.__new__» ⟨[.type "enumerate", v], []⟩) fun _ R s => S s.heap ∧ R (.ok (.ret (.ref (s.heap.objs.size + 1)))) { s with heap := counted s.heap o } := by
  apply Meets.of_wp
  rintro prog w A R ⟨hp, g, d, tk, os⟩ ⟨ok, post⟩
  have z : (hp.push o).objs.size = hp.objs.size + 1 := Heap.size_push _ _
  have begin_ := fun (B2 : Around) (E2 Q2 : Value → Shared → Prop) => B.iter prog w B2 E2 ⟨hp, g, d, tk, os⟩ Q2 ok
  have below := sub_enumerate
  wp_walk using begin_ _ _ _
  apply wpAny_stack_any
  intro st
  apply wpAny_pure
  split
  next c _ _ _ _ _ =>
    cases c == .type "enumerate" <;> (wp_walk using begin_ _ _ _; exact ⟨_, rfl, z ▸ post⟩)
  next => wp_walk using begin_ _ _ _; exact ⟨_, rfl, z ▸ post⟩
/-- the items of the tuple at a, numbered -/
def IteT (K : PySem.W.Frag) (a : Addr) : It where
  go i H := ∃ (xs : List V) (x : V), SqT K H a xs ∧ xs[i]? = some x
  yld i H v H' := ∃ T x, v = .ref T ∧ H T = none ∧ H' = upd H T (.tup [.int (i : Nat), x]) ∧ ∀ xs, SqT K H a xs → xs[i]? = some x
  stop i H := ∃ xs : List V, SqT K H a xs ∧ xs.length = i
/-- the count and the tuple's iterator, i items on -/
def EnAt (e it a : Addr) (i : Nat) (h : Heap) : Prop := (∃ old, IsEnum h e it (i : Int) old) ∧ h.IsTupleIter it a i
/-- what the library tells of the bare heap's walk, as a turn of the layer -/
theorem turn_enumT {P : Program} {w : World} {K : PySem.W.Frag} {es : List Expr} {k : Nat} {tp : Pos} {a e it : Addr} (ei : e ≠ it) (ea : e ≠ a) (ai : a ≠ it) : Turn P w K (.Tuple es k tp) (IteT K a) [e, it] e (EnAt e it a) := by
  have walks := fun (A : Around) (vs : Array Value) (nh : A.in1.handled = none) => WalksT.enumerateD (Draws.tuple (prog := P) (w := w) nh it a ai vs) e ei (by simp [ei, ea]) (by simp)
  constructor
  case mem => exact List.mem_cons_self
  case obj =>
    rintro i h ⟨⟨old, en⟩, o, io, _, fs⟩ b hb
    obtain rfl | hb := List.mem_cons.mp hb
    · exact ⟨_, en, nofun⟩
    · cases List.mem_singleton.mp hb
      exact ⟨o, io, fun v z => by simp [fs] at z⟩
  case keep =>
    rintro i h h' ⟨⟨old, en⟩, ti⟩ same
    exact ⟨⟨old, same e List.mem_cons_self _ en⟩, ti.at fun o => same it (by simp) o⟩
  case self =>
    rintro A i s Q E ⟨⟨old, en⟩, _⟩ q
    exact wpAny_pyIter_enum en q
  case done =>
    rintro X rfl rfl rfl calm i pins s σ H E I fp ⟨en, ti⟩ ⟨xs, sq, rfl⟩
    obtain ⟨vs, rel, tup, _⟩ := I.tuple sq
    have W := walks X.A vs.toArray (I.ok.hd calm)
    have n : vs.toArray.size = xs.length := by rw [List.size_toArray, rel.length]
    exact W.done s _ E (n ▸ ⟨en, n ▸ ti, tup⟩) fun h' tk same => ⟨rfl, I.turnedL (t' := tk) same fp⟩
  case item =>
    rintro X rfl rfl rfl calm i pins s σ H E I fp ⟨en, ti⟩ ⟨xs, x, sq, at_⟩
    obtain ⟨vs, rel, tup, _⟩ := I.tuple sq
    obtain ⟨v, atv, rv⟩ := rel.get at_
    have W := walks X.A vs.toArray (I.ok.hd calm)
    refine W.item i s _ E (by simpa using (List.getElem?_eq_some_iff.mp atv).1) ⟨en, ti, tup⟩ fun T us h1 tk ⟨t, y, aty, eus⟩ new tupT mid same => ?_
    have ey : y = v := Option.some.inj ((show vs[i]? = some y by simpa using aty).symm.trans atv)
    subst ey eus
    refine ⟨.ref T, rfl, W.go es k tp i T _ _ _ mid fun h2 st same2 => ?_⟩
    have apart := W.apart i T h1 mid
    have free : H T = none := I.hok.fresh new
    have pair : ObjOk X.prog X.w (upd H T (.tup [.int (i : Nat), x])) h2 T (.tup [.int (i : Nat), x]) := by
      obtain ⟨o, o1, o2, o3⟩ := tupT
      exact ⟨(by decide : 2 ≤ sizeLine), _, .cons ⟨t, rfl⟩ (.cons rv .nil), o, same2 T o apart o1, o2, o3⟩
    refine ⟨.ref T, _, I.turnedNew (t' := tk) (fun b o nb old => same2 b o nb (same b o nb old)) fp new pair, rfl, ?_, ⟨st.1, st.2.1⟩, ?_⟩
    · exact ⟨T, x, rfl, free, rfl, fun ys sq' => I.tuple_inj sq' sq ▸ at_⟩
    · intro b hb
      have nb : b ≠ T := fun z => apart (z ▸ hb)
      exact (upd_ne nb).trans (fp b hb).1
/-- the turn begins -/
theorem enum_begun {X : Cx} {pins : List (Addr × Obj)} {σ : L2.St} {H : Hp} {s : Shared} {a : Addr} {xs : List V} {R : It → Hp → Prop} {es : List Expr} {k : Nat} {tp : Pos} (I : Inv X pins σ H s) (sq : SqT X.K H a xs) (q : R (IteT X.K a) H) :
    wpAny (model X.prog X.w) X.A (call (.type "enumerate") [.ref a]) (fun v s1 => wpAny (model X.prog X.w) X.A (pyIter v) (PIE X pins σ (.Tuple es k tp) R) X.xe s1) X.xe s := by
  obtain ⟨vs, _, tup, _⟩ := I.tuple sq
  have low : a < s.heap.objs.size := tup.lt
  have n0 : a ≠ s.heap.objs.size := Nat.ne_of_lt low
  have n1 : s.heap.objs.size + 1 ≠ a := fun z => Nat.not_lt_of_le (z ▸ Nat.le_succ _) low
  refine callType_new (args := [.ref a]) F.called_enumerate (by decide) (F.typeCall_enumerate_1 _) (F.newCall_enumerate_1 _) (fun _ => F.args_object_init_2 _ _) F.entry_enumerate_new (counts (begins_tuple a vs.toArray)) ⟨tup, ?_⟩
  have en := counted_enum s.heap ⟨.type "tuple_iterator", none, .fields #[.ref a, .int 0 0], #[]⟩
  have ti := counted_first (h := s.heap) (o := ⟨.type "tuple_iterator", none, .fields #[.ref a, .int 0 0], #[]⟩) rfl
  refine ⟨⟨_, en, rfl⟩, wpAny_pyIter_enum en ?_⟩
  refine ⟨_, _, _, _, H, rfl, I.kept (t' := s.toks) fun _ _ => counted_old, turn_enumT (Nat.succ_ne_self _) n1 n0, ⟨⟨_, en⟩, _, ti, rfl, rfl⟩, fun b hb => ?_, q⟩
  have up : s.heap.objs.size ≤ b := by
    obtain rfl | hb := List.mem_cons.mp hb
    · exact Nat.le_succ _
    · exact Nat.le_of_eq (List.mem_singleton.mp hb).symm
  exact I.fpOk up (I.hok.fresh up)
def iEnumT (K : PySem.W.Frag) (ta : TA) : TI := fun σ H R => ta σ H fun vs H1 => ∃ a xs, vs = [.ref a] ∧ SqT K H1 a xs ∧ R (IteT K a) H1
/-- for i, x in enumerate(t) -/
theorem pi_enumT {X : Cx} {e : Expr} {ta : TA} {p q tp : Pos} {es : List Expr} {k : Nat} (hg : Gl X "enumerate") (hm : X.mg "enumerate" = none) (ha : PA X [e] ta) (hs : starEach [e] X.env = [(false, eval e X.env)] := by rfl) : PI X (.Tuple es k tp) (.Call (.Name "enumerate" p) [e] [] q) (iEnumT X.K ta) := by
  constructor
  intro pins s σ H R I h
  have began : ∀ us s1, AP X pins σ (fun vs H1 => ∃ a xs, vs = [.ref a] ∧ SqT X.K H1 a xs ∧ R (IteT X.K a) H1) us s1 → wpAny (model X.prog X.w) X.A (call (.type "enumerate") us) (fun v s2 => wpAny (model X.prog X.w) X.A (pyIter v) (PIE X pins σ (.Tuple es k tp) R) X.xe s2) X.xe s1 := by
    rintro us s1 ⟨_, H1, I1, rel, a, xs, rfl, sq, r⟩
    obtain ⟨u, rfl, ru⟩ := vals1 rel
    cases ru
    exact enum_begun I1 sq r
  exact Call_ (ld_blt I hg hm boot_enumerate (callWith_type1 (thn (ha.run q pins s σ H _ I h) began) hs rfl))
end
section
/-! ### a tuple turned about -/
theorem back_bounds (n : Int) : Builtin.Slice.sliceAdjust none none (-1) n = (n - 1, -1) := by simp [Builtin.Slice.sliceAdjust]
theorem back_count (n : Nat) : Builtin.Slice.slicePlaces ((n : Int) - 1) (-1) (-1) = n := by
  rcases Nat.eq_zero_or_pos n with rfl | z
  · rfl
  · have lo : (n : Int) - 1 > -1 := by omega
    simp [Builtin.Slice.slicePlaces, lo]
theorem fm_congr {α β : Type} {f g : α → Option β} : ∀ {l : List α}, (∀ x ∈ l, f x = g x) → l.filterMap f = l.filterMap g
  | [], _ => rfl
  | x :: l, h => by
    rw [List.filterMap_cons, List.filterMap_cons, h x List.mem_cons_self, fm_congr fun y hy => h y (List.mem_cons_of_mem _ hy)]
theorem fm_range {β : Type} : ∀ ys : List β, (List.range ys.length).filterMap (fun m => ys[m]?) = ys
  | [] => rfl
  | y :: ys => by
    rw [List.length_cons, List.range_succ_eq_map, List.filterMap_cons]
    show y :: ((List.range ys.length).map Nat.succ).filterMap (fun m => (y :: ys)[m]?) = y :: ys
    rw [List.filterMap_map]
    congr 1
    exact fm_range ys
theorem pick_rev (xs : Array Value) : ((List.range xs.size).filterMap fun (m : Nat) => xs[((xs.size : Int) - 1 + (m : Int) * (-1)).toNat]?) = xs.toList.reverse := by
  have e : ∀ m ∈ List.range xs.size, xs[((xs.size : Int) - 1 + (m : Int) * (-1)).toNat]? = xs.toList.reverse[m]? := fun m hm => by
    have hm : m < xs.size := List.mem_range.mp hm
    have e1 : ((xs.size : Int) - 1 + (m : Int) * (-1)).toNat = xs.size - 1 - m := by omega
    rw [e1, List.getElem?_reverse (by simpa using hm)]
    simp
  rw [fm_congr e]
  have e2 : xs.size = xs.toList.reverse.length := by simp
  rw [e2]
  exact fm_range _
/-- the tuple's own code at a slice without ends, one step back at a time -/
theorem back_meets {t sl : Addr} {items : Array Value} {u : Tok} (fits : items.size ≤ sizeLine) : Meets (Builtin.«tuple.__getitem__» ⟨[.ref t, .ref sl], []⟩) fun _ R s =>
    (IsTup s.heap t items ∧ s.heap.IsSliceOf sl .none .none (.int (-1) u)) ∧ R (.ok (.ret (.ref s.heap.objs.size))) { s with heap := s.heap.push ⟨.type "tuple", none, .seq items.toList.reverse.toArray, #[]⟩ } := by
  apply Meets.of_wp
  rintro prog w A R s ⟨⟨tup, o, so, sc, sf⟩, post⟩
  have kind : s.TypeIs (.ref sl) "slice" := ⟨o, so, sc⟩
  have index := AutoSeq1.idx_int
  cases s
  wp_walk using (tupleItemsOf_ tup), (wpAny_typeOf kind), (wpAny_field so sf rfl)
  have small : ¬ items.toList.reverse.toArray.size > sizeLine := by simp; omega
  simp only [Option.getD_some, back_bounds, back_count, pick_rev, small, if_false]
  wp_walk
  exact ⟨_, rfl, post⟩
end
section
variable {X : Cx}
/-- what the slice ::-1 comes to -/
theorem back_slice {pins : List (Addr × Obj)} {σ : L2.St} {H : Hp} {s : Shared} {k : Nat} {p1 p2 p3 : Pos} {Q : Value → Shared → Prop} (I : Inv X pins σ H s)
    (q : ∀ u s1, Inv X pins σ H s1 → Q (.ref s1.heap.objs.size) { s1 with heap := s1.heap.push ⟨.type "slice", none, .fields #[.none, .none, .int (-1) u], #[]⟩ }) :
    wpAny (model X.prog X.w) X.A (eval (.Slice none none (some (.UnaryOp .USub (.Constant (.int 1) k p1) p2)) p3) X.env) Q X.xe s := by
  have minus : PE X (.UnaryOp .USub (.Constant (.int 1) k p1) p2) (tUn (rU fun i => .int (-i)) (tC (.int 1))) := pe_un un_neg pe_int
  apply wpAny_Slice
  rw [evalPart_none, evalPart_some]
  refine wpAny_pure (wpAny_pure (thn (minus.run pins s σ H (fun v H1 => v = .int (-1) ∧ H1 = H) I ⟨1, rfl, rfl, rfl⟩) ?_))
  rintro _ s1 ⟨_, _, I1, rel, rfl, rfl⟩
  obtain ⟨u, rfl⟩ := rel
  exact q u s1 I1
def tRevT (K : PySem.W.Frag) (te : TE) : TE := fun σ H Q => te σ H fun x H1 => ∃ a xs, x = .ref a ∧ SqT K H1 a xs ∧ ∀ p, H1 p = none → Q (.ref p) (upd H1 p (.tup xs.reverse))
/-- t[::-1] -/
theorem pe_revT {te : TE} {e : Expr} {k : Nat} {p1 p2 p3 pos : Pos} (he : PE X e te) : PE X (.Subscript e (.Slice none none (some (.UnaryOp .USub (.Constant (.int 1) k p1) p2)) p3) pos) (tRevT X.K te) := by
  constructor
  intro pins s σ H Q I h
  refine Subscript_ (thn (he.run pins s σ H _ I h) ?_)
  rintro _ s1 ⟨_, H1, I1, rel, a, xs, rfl, sq, q⟩
  cases rel
  refine back_slice I1 fun u s2 I2 => ?_
  have I3 := I2.kept (t' := s2.toks) (h' := s2.heap.push ⟨.type "slice", none, .fields #[.none, .none, .int (-1) u], #[]⟩) fun _ _ => Heap.get?_push_of_some _
  obtain ⟨vs, r, tup, z⟩ := I3.tuple sq
  have fits : vs.toArray.size ≤ sizeLine := by
    rw [List.size_toArray, ← r.length]
    exact z
  have new := I3.laid (t' := s2.toks) (o := .tup xs.reverse) (h' := Heap.push _ ⟨.type "tuple", none, .seq vs.reverse.toArray, #[]⟩) (fun _ _ => Heap.get?_push_of_some _) (Nat.le_refl _) ⟨Nat.le_trans (Nat.le_of_eq List.length_reverse) z, _, r.reverse, .new _ _⟩
  refine tail_any tup.typeIs slot_tuple_getitem.lookup (getItem_meets tup.typeIs (by decide) slot_tuple_getitem entry_tuple_getitem (args_tuple_getitem _ _) (back_meets fits) ⟨⟨tup, .new _ _ _ _⟩, ?_⟩) (ops := [.ref a, .ref s2.heap.objs.size]) (by with_unfolding_all rfl)
  exact ⟨.ref _, _, new, rfl, q _ (I3.hok.fresh (Nat.le_refl _))⟩
end
section
variable {X : Cx}
/-! ### a tuple made of a list, its object told; dict of such a one -/
/-- a tuple whose object is known: it has no dict -/
def Frz (H : Hp) (p : Addr) (xs : List V) : Prop := ∃ o, H p = some (.frz o (.tup xs)) ∧ o.cls = .type "tuple" ∧ o.dict = none
theorem Frz.sq {K : PySem.W.Frag} {H : Hp} {p : Addr} {xs : List V} (h : Frz H p xs) : SqT K H p xs := let ⟨o, e, _⟩ := h; .inl (.inr ⟨o, e⟩)
theorem call_tupleF : CallR X (.type "tuple") (fun xs H Q => ∃ p ys, xs = [.ref p] ∧ SqL X.K H p ys ∧ ∀ l H', H l = none → (∀ b o, H b = some o → H' b = some o) → (∀ b, b ≠ l → H' b = H b) → Frz H' l ys → Q (.ref l) H') := by
  rintro pins s σ H _ us Q I rel ⟨p, ys, rfl, sq, q⟩
  obtain ⟨_, rfl, rp⟩ := vals1 rel
  cases rp
  obtain ⟨vs, r, ls, room⟩ := I.list sq
  have fits : vs.toArray.size ≤ sizeLine := by
    rw [List.size_toArray, ← r.length]
    exact room
  refine call_tuple_list ls.isList (fun h' same => ?_) fits
  have J := I.kept (t' := s.toks) same
  have free : H h'.objs.size = none := J.hok.fresh (Nat.le_refl _)
  have made := J.laid (t' := s.toks) (o := .frz ⟨.type "tuple", none, .seq vs.toArray, #[]⟩ (.tup ys)) (h' := h'.push ⟨.type "tuple", none, .seq vs.toArray, #[]⟩) (fun _ _ => Heap.get?_push_of_some _) (Nat.le_refl _) ⟨Heap.get?_push_size _ rfl, room, vs, r, .new _ _⟩
  refine ⟨.ref _, _, made, rfl, q _ _ free (fun b o old => ?_) (fun b => upd_ne) ⟨_, upd_same, rfl, rfl⟩⟩
  exact (upd_ne (ne_of_none old free)).trans old
def rDictT (K : PySem.W.Frag) : List V → Hp → VK → Prop := fun xs H Q => ∃ (a : Addr) (ps : List Addr) (kvs : List (Key × V)), xs = [.ref a] ∧ Frz H a (ps.map V.ref) ∧ Paired (fun p kv => SqT K H p [kV kv.1, kv.2]) ps kvs ∧
    ∀ p, H p = none → Q (.ref p) (upd H p (.dK (mergeK [] kvs)))
/-- the first thing of each pair, as a value -/
theorem firsts {s : Shared} {ps : List Addr} {prs : List (Key × Value)} (h : ∀ (j : Nat) (q : Key × Value), prs[j]? = some q → ∃ b u, ps[j]? = some b ∧ IsTup s.heap b #[u, q.2] ∧ keyIs q.1 u = true) :
    ∃ vps : List (Value × Value), vps.length = prs.length ∧ ∀ (j : Nat) (k v : Value), vps[j]? = some (k, v) → ∃ (key : Key) (b : Addr), prs[j]? = some (key, v) ∧ ps[j]? = some b ∧ IsTup s.heap b #[k, v] ∧ keyIs key k = true := by
  have pick : ∀ j : Nat, ∃ u : Value, ∀ q : Key × Value, prs[j]? = some q → ∃ b, ps[j]? = some b ∧ IsTup s.heap b #[u, q.2] ∧ keyIs q.1 u = true := by
    intro j
    rcases e : prs[j]? with _ | q
    · exact ⟨.none, nofun⟩
    · obtain ⟨b, u, h1⟩ := h j q e
      exact ⟨u, fun q' z => by cases z; exact ⟨b, h1⟩⟩
  obtain ⟨first, good⟩ := Classical.axiomOfChoice pick
  refine ⟨prs.mapIdx fun j q => (first j, q.2), List.length_mapIdx, fun j k v e => ?_⟩
  rw [List.getElem?_mapIdx] at e
  rcases eq : prs[j]? with _ | q
  · rw [eq] at e; exact nomatch e
  · rw [eq] at e
    cases e
    obtain ⟨b, h1, h2, h3⟩ := good j q eq
    exact ⟨q.1, b, rfl, h1, h2, h3⟩
theorem call_dictT (calm : X.calm = true) : CallR X (.type "dict") (rDictT X.K) := by
  rintro pins s σ H _ us Q I rel ⟨a, ps, kvs, rfl, ⟨ob, frz, cls, bare⟩, pairs, q⟩
  obtain ⟨_, rfl, ra⟩ := vals1 rel
  cases ra
  obtain ⟨there, room, vs, vals, ob2, there2, _, n, dat⟩ := I.hok a _ frz
  cases Option.some.inj (there.symm.trans there2)
  cases refs_at vals
  have room : ps.length ≤ sizeLine := List.length_map (as := ps) V.ref ▸ room
  obtain ⟨prs, kv, many, each⟩ := pairs_of I pairs
  obtain ⟨vps, long, told⟩ := firsts each
  have walk : PairItems s.heap (ps.map Value.ref).toArray (ps.getD · 0) vps := by
    refine ⟨by simp [long, many], fun j k v e => ?_⟩
    obtain ⟨_, b, _, at_, tup, _⟩ := told j k v e
    have here : ps.getD j 0 = b := by simp [List.getD, at_]
    exact ⟨by simp [at_, List.getD], .inl (show s.heap.IsTuple (ps.getD j 0) _ from here.symm ▸ tup)⟩
  have lawful : PairsHave (mixKind X.prog X.w) vps.length (PairRel vps) prs := by
    refine ⟨long.symm, fun j k v e => ?_⟩
    obtain ⟨key, _, at_, _, _, is⟩ := told j k v e
    exact ⟨key, at_, is⟩
  refine PySem.call_dict_pairs (PairArg.tuple a _ _ vps) (I.ok.hd calm) ⟨⟨ob, n, there, cls, bare, dat⟩, walk⟩ lawful (by omega) fun h' tk dict same => ?_
  have new : ObjOk X.prog X.w (upd H s.heap.objs.size (.dK (mergeK [] kvs))) h' s.heap.objs.size (.dK (mergeK [] kvs)) := by
    refine ⟨Nat.le_trans (length_mergeK kvs []) ?_, beq_false_of_ne (Nat.ne_of_gt I.big), _, .merge kv .nil, dict⟩
    have := kv.length
    simp only [List.length_nil]
    omega
  exact ⟨.ref _, _, I.laid (t' := tk) (fun b o => same b o List.not_mem_nil) (Nat.le_refl _) new, rfl, q _ (I.hok.fresh (Nat.le_refl _))⟩
end
end WX
/-! the text by places; what the walk asks of the module -/
namespace PX
open PySem PySem.Spec PyProof.Rows L2
def top (i : Nat) : Stmt := PySem.Challenge.pw_planwell_k20_whole_corners_tried.main.body.getD i (.Pass ⟨0, 0, 0, 0⟩)
abbrev s_shared : Stmt := top 4
abbrev s_fraction : Stmt := top 5
abbrev s_plus : Stmt := top 6
abbrev s_minus : Stmt := top 7
abbrev s_times : Stmt := top 8
abbrev s_sign : Stmt := top 9
abbrev s_turned : Stmt := top 12
abbrev s_lessened : Stmt := top 14
abbrev s_turned_row : Stmt := top 15
abbrev s_pivoted : Stmt := top 16
abbrev s_value : Stmt := top 17
abbrev s_Frame_init : Stmt := inClass (top 21) 0
abbrev s_Frame_add : Stmt := inClass (top 21) 1
abbrev s_Frame_numbers : Stmt := inClass (top 21) 2
abbrev s_Frame_at_bases : Stmt := inClass (top 21) 3
abbrev s_Frame_joined : Stmt := inClass (top 21) 4
abbrev s_lines_of : Stmt := top 22
abbrev s_upright : Stmt := top 23
abbrev s_over_one : Stmt := top 24
abbrev s_Work_init : Stmt := inClass (top 25) 0
abbrev s_Work_full_rows : Stmt := inClass (top 25) 1
abbrev s_Work_turn : Stmt := inClass (top 25) 2
abbrev s_Work_leaving : Stmt := inClass (top 25) 3
abbrev s_Work_wrong : Stmt := inClass (top 25) 4
abbrev s_Work_lower : Stmt := inClass (top 25) 5
abbrev s_Work_settle : Stmt := inClass (top 25) 6
abbrev s_Work_prices : Stmt := inClass (top 25) 7
abbrev s_Work_standing : Stmt := inClass (top 25) 8
abbrev s_Work_along : Stmt := inClass (top 25) 9
abbrev s_loose : Stmt := top 26
abbrev s__law_at : Stmt := top 28
abbrev s__law_mixed : Stmt := top 29
abbrev s__law_lowest : Stmt := top 30
abbrev s__law_fraction : Stmt := top 31
abbrev s__law_plus : Stmt := top 32
abbrev s__law_times : Stmt := top 33
abbrev s__law_order : Stmt := top 34
abbrev s__law_worth : Stmt := top 35
abbrev s__law_unknown : Stmt := top 36
abbrev s__law_value : Stmt := top 37
abbrev s__law_pairs : Stmt := top 38
abbrev s__law_bound : Stmt := top 39
abbrev s__law_rows : Stmt := top 40
abbrev s__law_goal : Stmt := top 41
abbrev s__law_stands : Stmt := top 42
abbrev s__law_loosely_meets : Stmt := top 43
abbrev s__law_turned : Stmt := top 44
abbrev s__law_minus : Stmt := top 45
abbrev s__law_edges : Stmt := top 46
abbrev s__law_over : Stmt := top 47
abbrev s__law_crossing : Stmt := top 48
abbrev s__law_best : Stmt := top 49
abbrev s__law_alike : Stmt := top 50
abbrev s_law : Stmt := top 51
structure GFn (K : PySem.W.Frag) (mg : Str → Option Value) (x : Str) (st : Stmt) (dvs : List V) where
  f : Addr
  fd : FuncData
  F : FunD K x x (defArgs st) (defBody st) (defScope st) dvs [] f fd
  g : mg x = some (.ref f)
structure MFn (K : PySem.W.Frag) (C : Addr) (x q : Str) (st : Stmt) where
  f : Addr
  fd : FuncData
  F : FunD K x q (defArgs st) (defBody st) (defScope st) [] [] f fd
  m : Meth K C x f
structure IFn (K : PySem.W.Frag) (C : Addr) (x q : Str) (st : Stmt) where
  f : Addr
  fd : FuncData
  F : FunD K x q (defArgs st) (defBody st) (defScope st) [] [] f fd
  m : Mk K C f
structure Txt (w : World) (K : PySem.W.Frag) (mg : Str → Option Value) where
  shared : GFn K mg "shared" s_shared []
  fraction : GFn K mg "fraction" s_fraction [.int 1]
  plus : GFn K mg "plus" s_plus []
  minus : GFn K mg "minus" s_minus []
  times : GFn K mg "times" s_times []
  sign : GFn K mg "sign" s_sign []
  turned : GFn K mg "turned" s_turned []
  lessened : GFn K mg "lessened" s_lessened []
  turned_row : GFn K mg "turned_row" s_turned_row []
  pivoted : GFn K mg "pivoted" s_pivoted []
  value : GFn K mg "value" s_value []
  lines_of : GFn K mg "lines_of" s_lines_of []
  upright : GFn K mg "upright" s_upright []
  over_one : GFn K mg "over_one" s_over_one []
  loose : GFn K mg "loose" s_loose []
  _law_at : GFn K mg "_law_at" s__law_at []
  _law_mixed : GFn K mg "_law_mixed" s__law_mixed []
  _law_lowest : GFn K mg "_law_lowest" s__law_lowest []
  _law_fraction : GFn K mg "_law_fraction" s__law_fraction []
  _law_plus : GFn K mg "_law_plus" s__law_plus []
  _law_times : GFn K mg "_law_times" s__law_times []
  _law_order : GFn K mg "_law_order" s__law_order []
  _law_worth : GFn K mg "_law_worth" s__law_worth []
  _law_unknown : GFn K mg "_law_unknown" s__law_unknown []
  _law_value : GFn K mg "_law_value" s__law_value []
  _law_pairs : GFn K mg "_law_pairs" s__law_pairs []
  _law_bound : GFn K mg "_law_bound" s__law_bound []
  _law_rows : GFn K mg "_law_rows" s__law_rows []
  _law_goal : GFn K mg "_law_goal" s__law_goal []
  _law_stands : GFn K mg "_law_stands" s__law_stands []
  _law_loosely_meets : GFn K mg "_law_loosely_meets" s__law_loosely_meets []
  _law_turned : GFn K mg "_law_turned" s__law_turned []
  _law_minus : GFn K mg "_law_minus" s__law_minus []
  _law_edges : GFn K mg "_law_edges" s__law_edges []
  _law_over : GFn K mg "_law_over" s__law_over []
  _law_crossing : GFn K mg "_law_crossing" s__law_crossing []
  _law_best : GFn K mg "_law_best" s__law_best []
  _law_alike : GFn K mg "_law_alike" s__law_alike []
  cF : Addr
  cW : Addr
  gF : mg "Frame" = some (.ref cF)
  gW : mg "Work" = some (.ref cW)
  clF : Cls K cF
  clW : Cls K cW
  nF_bases : NoAttr K cF "bases"
  nF_parts : NoAttr K cF "parts"
  nF_many : NoAttr K cF "many"
  nW_lines : NoAttr K cW "lines"
  nW_border : NoAttr K cW "border"
  nW_own : NoAttr K cW "own"
  nW_basis : NoAttr K cW "basis"
  nW_end : NoAttr K cW "end"
  nW_tableau : NoAttr K cW "tableau"
  Frame_init : IFn K cF "__init__" "Frame.__init__" s_Frame_init
  Frame_add : MFn K cF "add" "Frame.add" s_Frame_add
  Frame_numbers : MFn K cF "numbers" "Frame.numbers" s_Frame_numbers
  Frame_at_bases : MFn K cF "at_bases" "Frame.at_bases" s_Frame_at_bases
  Frame_joined : MFn K cF "joined" "Frame.joined" s_Frame_joined
  Work_init : IFn K cW "__init__" "Work.__init__" s_Work_init
  Work_full_rows : MFn K cW "full_rows" "Work.full_rows" s_Work_full_rows
  Work_turn : MFn K cW "turn" "Work.turn" s_Work_turn
  Work_leaving : MFn K cW "leaving" "Work.leaving" s_Work_leaving
  Work_wrong : MFn K cW "wrong" "Work.wrong" s_Work_wrong
  Work_lower : MFn K cW "lower" "Work.lower" s_Work_lower
  Work_settle : MFn K cW "settle" "Work.settle" s_Work_settle
  Work_prices : MFn K cW "prices" "Work.prices" s_Work_prices
  Work_standing : MFn K cW "standing" "Work.standing" s_Work_standing
  Work_along : MFn K cW "along" "Work.along" s_Work_along
  m_range : mg "range" = none
  m_len : mg "len" = none
  m_abs : mg "abs" = none
  m_int : mg "int" = none
  m_tuple : mg "tuple" = none
  m_zip : mg "zip" = none
  m_enumerate : mg "enumerate" = none
  m_dict : mg "dict" = none
  m_list : mg "list" = none
  nought : Addr
  one : Addr
  gnought : mg "NOUGHT" = some (.ref nought)
  gone : mg "ONE" = some (.ref one)
  other : Addr
  gother : mg "OTHER_SIGN" = some (.ref other)
  kle : KDct K w other "<=" (.str ">=")
  kge : KDct K w other ">=" (.str "<=")
  keq : KDct K w other "=" (.str "=")
  tnought : ∀ H : Hp, SqT K H nought [.int 0, .int 1]
  tone : ∀ H : Hp, SqT K H one [.int 1, .int 1]
section
variable {w : World} {K : PySem.W.Frag} {mg : Str → Option Value}
theorem b_shared (T : Txt w K mg) : Binds K T.shared.fd ["one", "other"] [] := T.shared.F.bindsN fun _ _ _ _ _ _ us hl => match us, hl with | [_, _], _ => rfl
theorem b_fraction (T : Txt w K mg) : Binds K T.fraction.fd ["top", "bottom"] [] := by
  obtain ⟨ds, h1, h2⟩ := T.fraction.F.binds1 (ps := ["top", "bottom"]) 2 1 (by decide) rfl fun _ _ _ _ _ _ _ us its hl hi => match us, its, hl, hi with
    | [_, _], [_], _, _ => ⟨_, rfl, rfl⟩
  cases h1
  exact h2
theorem b_plus (T : Txt w K mg) : Binds K T.plus.fd ["one", "other"] [] := T.plus.F.bindsN fun _ _ _ _ _ _ us hl => match us, hl with | [_, _], _ => rfl
theorem b_minus (T : Txt w K mg) : Binds K T.minus.fd ["one", "other"] [] := T.minus.F.bindsN fun _ _ _ _ _ _ us hl => match us, hl with | [_, _], _ => rfl
theorem b_times (T : Txt w K mg) : Binds K T.times.fd ["one", "other"] [] := T.times.F.bindsN fun _ _ _ _ _ _ us hl => match us, hl with | [_, _], _ => rfl
theorem b_sign (T : Txt w K mg) : Binds K T.sign.fd ["one"] [] := T.sign.F.bindsN fun _ _ _ _ _ _ us hl => match us, hl with | [_], _ => rfl
theorem b_turned (T : Txt w K mg) : Binds K T.turned.fd ["plan"] [] := T.turned.F.bindsN fun _ _ _ _ _ _ us hl => match us, hl with | [_], _ => rfl
theorem b_lessened (T : Txt w K mg) : Binds K T.lessened.fd ["rows", "scale"] [] := T.lessened.F.bindsN fun _ _ _ _ _ _ us hl => match us, hl with | [_, _], _ => rfl
theorem b_turned_row (T : Txt w K mg) : Binds K T.turned_row.fd ["rows", "scale", "at", "column", "here"] [] := T.turned_row.F.bindsN fun _ _ _ _ _ _ us hl => match us, hl with | [_, _, _, _, _], _ => rfl
theorem b_pivoted (T : Txt w K mg) : Binds K T.pivoted.fd ["tableau", "at", "column"] [] := T.pivoted.F.bindsN fun _ _ _ _ _ _ us hl => match us, hl with | [_, _, _], _ => rfl
theorem b_value (T : Txt w K mg) : Binds K T.value.fd ["tableau", "at", "column"] [] := T.value.F.bindsN fun _ _ _ _ _ _ us hl => match us, hl with | [_, _, _], _ => rfl
theorem b_Frame_init (T : Txt w K mg) : Binds K T.Frame_init.fd ["self", "unknowns"] [] := T.Frame_init.F.bindsN fun _ _ _ _ _ _ us hl => match us, hl with | [_, _], _ => rfl
theorem b_Frame_add (T : Txt w K mg) : Binds K T.Frame_add.fd ["self", "base", "ways"] [] := T.Frame_add.F.bindsN fun _ _ _ _ _ _ us hl => match us, hl with | [_, _, _], _ => rfl
theorem b_Frame_numbers (T : Txt w K mg) : Binds K T.Frame_numbers.fd ["self", "pairs"] [] := T.Frame_numbers.F.bindsN fun _ _ _ _ _ _ us hl => match us, hl with | [_, _], _ => rfl
theorem b_Frame_at_bases (T : Txt w K mg) : Binds K T.Frame_at_bases.fd ["self", "pairs"] [] := T.Frame_at_bases.F.bindsN fun _ _ _ _ _ _ us hl => match us, hl with | [_, _], _ => rfl
theorem b_Frame_joined (T : Txt w K mg) : Binds K T.Frame_joined.fd ["self", "columns", "bases"] [] := T.Frame_joined.F.bindsN fun _ _ _ _ _ _ us hl => match us, hl with | [_, _, _], _ => rfl
theorem b_lines_of (T : Txt w K mg) : Binds K T.lines_of.fd ["plan", "frame"] [] := T.lines_of.F.bindsN fun _ _ _ _ _ _ us hl => match us, hl with | [_, _], _ => rfl
theorem b_upright (T : Txt w K mg) : Binds K T.upright.fd ["line"] [] := T.upright.F.bindsN fun _ _ _ _ _ _ us hl => match us, hl with | [_], _ => rfl
theorem b_over_one (T : Txt w K mg) : Binds K T.over_one.fd ["rows"] [] := T.over_one.F.bindsN fun _ _ _ _ _ _ us hl => match us, hl with | [_], _ => rfl
theorem b_Work_init (T : Txt w K mg) : Binds K T.Work_init.fd ["self", "lines", "goal"] [] := T.Work_init.F.bindsN fun _ _ _ _ _ _ us hl => match us, hl with | [_, _, _], _ => rfl
theorem b_Work_full_rows (T : Txt w K mg) : Binds K T.Work_full_rows.fd ["self", "rows", "goal", "width"] [] := T.Work_full_rows.F.bindsN fun _ _ _ _ _ _ us hl => match us, hl with | [_, _, _, _], _ => rfl
theorem b_Work_turn (T : Txt w K mg) : Binds K T.Work_turn.fd ["self", "at", "column"] [] := T.Work_turn.F.bindsN fun _ _ _ _ _ _ us hl => match us, hl with | [_, _, _], _ => rfl
theorem b_Work_leaving (T : Txt w K mg) : Binds K T.Work_leaving.fd ["self", "column"] [] := T.Work_leaving.F.bindsN fun _ _ _ _ _ _ us hl => match us, hl with | [_, _], _ => rfl
theorem b_Work_wrong (T : Txt w K mg) : Binds K T.Work_wrong.fd ["self", "goal"] [] := T.Work_wrong.F.bindsN fun _ _ _ _ _ _ us hl => match us, hl with | [_, _], _ => rfl
theorem b_Work_lower (T : Txt w K mg) : Binds K T.Work_lower.fd ["self", "goal"] [] := T.Work_lower.F.bindsN fun _ _ _ _ _ _ us hl => match us, hl with | [_, _], _ => rfl
theorem b_Work_settle (T : Txt w K mg) : Binds K T.Work_settle.fd ["self"] [] := T.Work_settle.F.bindsN fun _ _ _ _ _ _ us hl => match us, hl with | [_], _ => rfl
theorem b_Work_prices (T : Txt w K mg) : Binds K T.Work_prices.fd ["self", "goal", "many"] [] := T.Work_prices.F.bindsN fun _ _ _ _ _ _ us hl => match us, hl with | [_, _, _], _ => rfl
theorem b_Work_standing (T : Txt w K mg) : Binds K T.Work_standing.fd ["self"] [] := T.Work_standing.F.bindsN fun _ _ _ _ _ _ us hl => match us, hl with | [_], _ => rfl
theorem b_Work_along (T : Txt w K mg) : Binds K T.Work_along.fd ["self", "column"] [] := T.Work_along.F.bindsN fun _ _ _ _ _ _ us hl => match us, hl with | [_, _], _ => rfl
theorem b_loose (T : Txt w K mg) : Binds K T.loose.fd ["plan"] [] := T.loose.F.bindsN fun _ _ _ _ _ _ us hl => match us, hl with | [_], _ => rfl
theorem b__law_at (T : Txt w K mg) : Binds K T._law_at.fd ["_law_script", "_law_k"] [] := T._law_at.F.bindsN fun _ _ _ _ _ _ us hl => match us, hl with | [_, _], _ => rfl
theorem b__law_mixed (T : Txt w K mg) : Binds K T._law_mixed.fd ["_law_cell", "_law_k"] [] := T._law_mixed.F.bindsN fun _ _ _ _ _ _ us hl => match us, hl with | [_, _], _ => rfl
theorem b__law_lowest (T : Txt w K mg) : Binds K T._law_lowest.fd ["_law_top", "_law_bottom"] [] := T._law_lowest.F.bindsN fun _ _ _ _ _ _ us hl => match us, hl with | [_, _], _ => rfl
theorem b__law_fraction (T : Txt w K mg) : Binds K T._law_fraction.fd ["_law_number"] [] := T._law_fraction.F.bindsN fun _ _ _ _ _ _ us hl => match us, hl with | [_], _ => rfl
theorem b__law_plus (T : Txt w K mg) : Binds K T._law_plus.fd ["_law_one", "_law_other"] [] := T._law_plus.F.bindsN fun _ _ _ _ _ _ us hl => match us, hl with | [_, _], _ => rfl
theorem b__law_times (T : Txt w K mg) : Binds K T._law_times.fd ["_law_one", "_law_other"] [] := T._law_times.F.bindsN fun _ _ _ _ _ _ us hl => match us, hl with | [_, _], _ => rfl
theorem b__law_order (T : Txt w K mg) : Binds K T._law_order.fd ["_law_one", "_law_other"] [] := T._law_order.F.bindsN fun _ _ _ _ _ _ us hl => match us, hl with | [_, _], _ => rfl
theorem b__law_worth (T : Txt w K mg) : Binds K T._law_worth.fd ["_law_constant", "_law_pairs_here", "_law_values"] [] := T._law_worth.F.bindsN fun _ _ _ _ _ _ us hl => match us, hl with | [_, _, _], _ => rfl
theorem b__law_unknown (T : Txt w K mg) : Binds K T._law_unknown.fd ["_law_number", "_law_k"] [] := T._law_unknown.F.bindsN fun _ _ _ _ _ _ us hl => match us, hl with | [_, _], _ => rfl
theorem b__law_value (T : Txt w K mg) : Binds K T._law_value.fd ["_law_unknown_here", "_law_number"] [] := T._law_value.F.bindsN fun _ _ _ _ _ _ us hl => match us, hl with | [_, _], _ => rfl
theorem b__law_pairs (T : Txt w K mg) : Binds K T._law_pairs.fd ["_law_cell", "_law_many"] [] := T._law_pairs.F.bindsN fun _ _ _ _ _ _ us hl => match us, hl with | [_, _], _ => rfl
theorem b__law_bound (T : Txt w K mg) : Binds K T._law_bound.fd ["_law_left", "_law_mark", "_law_number"] [] := T._law_bound.F.bindsN fun _ _ _ _ _ _ us hl => match us, hl with | [_, _, _], _ => rfl
theorem b__law_rows (T : Txt w K mg) : Binds K T._law_rows.fd ["_law_script", "_law_first", "_law_size", "_law_values"] [] := T._law_rows.F.bindsN fun _ _ _ _ _ _ us hl => match us, hl with | [_, _, _, _], _ => rfl
theorem b__law_goal (T : Txt w K mg) : Binds K T._law_goal.fd ["_law_cell", "_law_many"] [] := T._law_goal.F.bindsN fun _ _ _ _ _ _ us hl => match us, hl with | [_, _], _ => rfl
theorem b__law_stands (T : Txt w K mg) : Binds K T._law_stands.fd ["_law_left", "_law_mark", "_law_bound_here"] [] := T._law_stands.F.bindsN fun _ _ _ _ _ _ us hl => match us, hl with | [_, _, _], _ => rfl
theorem b__law_loosely_meets (T : Txt w K mg) : Binds K T._law_loosely_meets.fd ["_law_plan", "_law_values"] [] := T._law_loosely_meets.F.bindsN fun _ _ _ _ _ _ us hl => match us, hl with | [_, _], _ => rfl
theorem b__law_turned (T : Txt w K mg) : Binds K T._law_turned.fd ["_law_plan"] [] := T._law_turned.F.bindsN fun _ _ _ _ _ _ us hl => match us, hl with | [_], _ => rfl
theorem b__law_minus (T : Txt w K mg) : Binds K T._law_minus.fd ["_law_one", "_law_other"] [] := T._law_minus.F.bindsN fun _ _ _ _ _ _ us hl => match us, hl with | [_, _], _ => rfl
theorem b__law_edges (T : Txt w K mg) : Binds K T._law_edges.fd ["_law_plan"] [] := T._law_edges.F.bindsN fun _ _ _ _ _ _ us hl => match us, hl with | [_], _ => rfl
theorem b__law_over (T : Txt w K mg) : Binds K T._law_over.fd ["_law_one", "_law_other"] [] := T._law_over.F.bindsN fun _ _ _ _ _ _ us hl => match us, hl with | [_, _], _ => rfl
theorem b__law_crossing (T : Txt w K mg) : Binds K T._law_crossing.fd ["_law_one", "_law_other"] [] := T._law_crossing.F.bindsN fun _ _ _ _ _ _ us hl => match us, hl with | [_, _], _ => rfl
theorem b__law_best (T : Txt w K mg) : Binds K T._law_best.fd ["_law_plan"] [] := T._law_best.F.bindsN fun _ _ _ _ _ _ us hl => match us, hl with | [_], _ => rfl
theorem b__law_alike (T : Txt w K mg) : Binds K T._law_alike.fd ["_law_plan", "_law_number"] [] := T._law_alike.F.bindsN fun _ _ _ _ _ _ us hl => match us, hl with | [_, _], _ => rfl
end
end PX
/-! fractions -/
namespace PX
open PySem PySem.Spec PyProof.Rows L2 Evl
open PW (Sz fr)
/-! rules whose reading names the written part, for blocks within a def (there X.K must not name the block) -/
section
variable {X : Cx} {K : PySem.W.Frag} {tg l : Expr} {tl : TE}
theorem pi_listK (hK : X.K = K) (hl : PE X l tl) : PI X tg l (iList K tl) := hK ▸ pi_list hl
theorem pi_tupK (hK : X.K = K) (hl : PE X l tl) : PI X tg l (iTup K tl) := hK ▸ pi_tup hl
theorem ix_listK (hK : X.K = K) : IxR X (rIxL K) := hK ▸ ix_list
theorem ix_tupK (hK : X.K = K) : IxR X (rIxT K) := hK ▸ ix_tup
theorem pe_fldK {f : Str} {pos : Pos} (hK : X.K = K) (ha : PE X l tl) (hb : attributeBase l f X.env (eval l X.env) = eval l X.env) : PE X (.Attribute l f pos) (tFld K tl f) := hK ▸ pe_fld ha hb
theorem pg_tupK {es : List Expr} {k : Nat} {t : TGs} {n : Nat} {pos : Pos} (hK : X.K = K) (hc : X.calm = true) (h : PGs X es t)
    (hn : (assignEach es X.env).length = n := by rfl) (hst : (assignEach es X.env).findIdx? (·.1) = none := by rfl) : PG X (.Tuple es k pos) (gTup K n t) := hK ▸ pg_tup hc h hn hst
theorem sl_tupK (hK : X.K = K) : SlR X (rSlT K) := hK ▸ sl_tup
theorem sl_listK (hK : X.K = K) : SlR X (rSlL K) := hK ▸ sl_list
def rLenQ (K : PySem.W.Frag) : List V → Hp → VK → Prop := fun xs H Q => ∃ p ys, xs = [.ref p] ∧ (SqL K H p ys ∨ SqT K H p ys) ∧ Q (.int ys.length) H
theorem call_lenK (hK : X.K = K) : CallR X (.builtin "len") (rLenQ K) := hK ▸ call_len_seq
def rTupQ (K : PySem.W.Frag) : List V → Hp → VK → Prop := fun xs H Q => ∃ p ys, xs = [.ref p] ∧ ((SqL K H p ys ∧ ∀ l, H l = none → Q (.ref l) (upd H l (.tup ys))) ∨ (SqT K H p ys ∧ Q (.ref p) H))
theorem call_tupleK (hK : X.K = K) : CallR X (.type "tuple") (rTupQ K) := hK ▸ call_tuple_of
theorem op_notNK : OpR X (compareOp .IsNot) rNotN := op_notN1
theorem op_isNK : OpR X (compareOp .Is) rIsN := op_isN1
end
/-! ### what evaluates to a fraction -/
/-- a fraction in lowest terms -/
def FrA (K : PySem.W.Frag) (H : Hp) (v : V) (r : Rat) : Prop := ∃ a, v = .ref a ∧ SqT K H a [.int r.num, .int (r.den : Int)]
theorem FrA.ex {K : PySem.W.Frag} {H H' : Hp} {v : V} {r : Rat} (e : Ex H H') (h : FrA K H v r) : FrA K H' v r := let ⟨a, e1, h⟩ := h; ⟨a, e1, ex_t e h⟩
def EvF (K : PySem.W.Frag) (te : TE) (σ : L2.St) (H : Hp) (r : Rat) : Prop := ∀ H1, Ex H H1 → ∀ Q : VK, (∀ v H2, Ex H1 H2 → FrA K H2 v r → Q v H2) → te σ H1 Q
def SpF (K : PySem.W.Frag) (sp : Sp) (vs : List V) (H : Hp) (r : Rat) : Prop := ∀ H1, Ex H H1 → ∀ Q : VK, (∀ v H2, Ex H1 H2 → FrA K H2 v r → Q v H2) → ∀ E : XK, sp vs H1 Q E
section
variable {K : PySem.W.Frag} {σ : L2.St} {H H' : Hp} {ta tb te : TE} {r q : Rat} {D : Ends} {tz : TS} {g : TG}
theorem EvF.mono (e : Ex H H') (h : EvF K te σ H r) : EvF K te σ H' r := fun H1 a Q k => h H1 (e.trans a) Q k
theorem evf_of {v : V} (h : Ev te σ H v) (hf : FrA K H v r) : EvF K te σ H r := fun H1 e Q k => h H1 e Q fun H2 e2 => k v H2 e2 (hf.ex (e.trans e2))
theorem evf_var {i : Nat} {v : V} (h : σ[i]? = some (some v)) (hf : FrA K H v r) : EvF K (tVar i) σ H r := evf_of (ev_var h) hf
theorem evf_eq (h : EvF K te σ H r) (e : r = q) : EvF K te σ H q := e ▸ h
theorem evf_call {sp : Sp} {dvs vs : List V} {E : XK} {t : TA} (h : EvA t σ H vs) (hs : SpF K sp (vs ++ dvs) H r) : EvF K (tCall sp dvs E t) σ H r := fun H1 e Q k =>
  h H1 e _ fun H2 e2 => hs H2 (e.trans e2) Q (fun v H3 e3 f => k v H3 (e2.trans e3) f) E
theorem evf_call2 {sp : Sp} {E : XK} {u : Rat} (ha : EvF K ta σ H r) (hb : EvF K tb σ H q) (hs : ∀ x y H', Ex H H' → FrA K H' x r → FrA K H' y q → SpF K sp [x, y] H' u) : EvF K (tCall sp [] E (tCons ta (tCons tb tNil))) σ H u := fun H1 e Q k =>
  ha H1 e _ fun x H2 e2 fx => hb H2 (e.trans e2) _ fun y H3 e3 fy => hs x y H3 ((e.trans e2).trans e3) (fx.ex e3) fy H3 (Ex.refl H3) Q (fun v H4 e4 f => k v H4 ((e2.trans e3).trans e4) f) E
theorem s_retF (h : EvF K te σ H r) (k : ∀ v H1, Ex H H1 → FrA K H1 v r → D.rt v H1) : tRet te D σ H := h H (Ex.refl H) _ k
theorem s_asgF {i : Nat} (h : EvF K te σ H r) (k : ∀ v H1, Ex H H1 → FrA K H1 v r → D.nx (σ.set i (some v)) H1) : tAsg te (gName i) D σ H := h H (Ex.refl H) _ k
theorem q_asgF {i : Nat} (h : EvF K te σ H r) (k : ∀ v H1, Ex H H1 → FrA K H1 v r → tz D (σ.set i (some v)) H1) : tSeq (tAsg te (gName i)) tz D σ H := h H (Ex.refl H) _ k
end
theorem cmulw {i j : Int} {a b : Nat} (ha : i.natAbs < 2 ^ a) (hb : j.natAbs < 2 ^ b) (h : a + b ≤ 900000 := by decide) : CMulW i j :=
  wide_mul (a := a + 1) (b := b + 1) (Nat.lt_of_lt_of_le ha (Nat.pow_le_pow_right (by omega) (by omega))) (Nat.lt_of_lt_of_le hb (Nat.pow_le_pow_right (by omega) (by omega))) (by omega) (by omega) (by omega)
theorem cdivw {i j : Int} {b : Nat} (h : 0 < j) (hb : j.natAbs < 2 ^ b) (h9 : b ≤ 8999 := by decide) : CDivW i j :=
  wide_div (b := b + 1) h (Nat.lt_of_lt_of_le hb (Nat.pow_le_pow_right (by omega) (by omega))) (by omega) (by omega)
section
variable {P : Program} {w : World} {K : PySem.W.Frag} {mg : Str → Option Value} {base : Heap}
/-! ### shared -/
abbrev N_shared : List Str := ["one", "other", "rest"]
theorem sc_shared : FnScope N_shared ["one", "other"] (defScope s_shared) := ⟨rfl, rfl, rfl, by decide +kernel, rfl, by decide +kernel, by decide +kernel⟩
def spShared : Sp := fun vs H Q _ => ∃ (a b : Nat), vs = [.int a, .int b] ∧ Q (.int (Nat.gcd a b : Nat)) H
theorem ok_shared (T : Txt w K mg) : FnOk P w K mg base CX0 1 T.shared.f T.shared.fd ["one", "other"] spShared := by
  refine T.shared.F.ok sc_shared (fun vs H Q E h => ?_) (fun cdv A outer s H vs Q E hr h => ?_)
  · obtain ⟨a, b, rfl, _⟩ := h
    rfl
  obtain ⟨a, b, rfl, q⟩ := h
  refine ⟨_, PSs.nox (pss_cons (ps_while PassesOwn.never (pt_cmpR op_gt (pv 1) pe_int (nomark _)) (pss_cons (ps_set (i := 2) sc_shared.nd rfl (Or.inl rfl) (pe_op op_modN (pv 0) (pv 1)))
 (pss_cons (ps_set (i := 0) sc_shared.nd rfl (Or.inl rfl) (pv 1))
 (pss_one (ps_set (i := 1) sc_shared.nd rfl (Or.inl rfl) (pv 2))))))
 (pss_one (ps_ret (pv 0)))), ?_⟩
  refine ⟨fun m σ H' => H' = H ∧ ∃ (x y : Nat) (z : Option V), σ = [some (.int x), some (.int y), z] ∧ m = y ∧ Nat.gcd x y = Nat.gcd a b, ⟨b, rfl, a, b, none, rfl, rfl, rfl⟩, ?_⟩
  rintro m σ H' ⟨rfl, x, y, z, rfl, rfl, e⟩
  refine ⟨_, rfl, _, _, rfl, rfl, _, rfl, ?_⟩
  by_cases hm : (0 : Int) < (m : Int)
  · rw [show decide ((0 : Int) < (m : Int)) = true from decide_eq_true hm]
    refine iteT ⟨fun σ' H'' => H'' = H' ∧ σ' = [some (.int m), some (.int (x % m : Nat)), some (.int (x % m : Nat))], fun σ' H'' hN => ?_, ?_⟩
    · obtain ⟨rfl, rfl⟩ := hN
      refine ⟨x % m, Nat.mod_lt _ (by omega), rfl, m, x % m, _, rfl, rfl, ?_⟩
      rw [← e, Nat.gcd_comm m, Nat.gcd_comm x, ← Nat.gcd_rec]
    · refine ⟨_, rfl, _, rfl, _, _, rfl, rfl, (by omega), ?_⟩
      refine ⟨_, rfl, _, rfl, rfl, ?_⟩
      have : ((x : Int).fmod (m : Int)) = ((x % m : Nat) : Int) := by
        rw [Int.fmod_eq_emod_of_nonneg _ (by omega)]; rfl
      show [some (V.int m), some (V.int ((x : Int).fmod (m : Int))), some (V.int ((x : Int).fmod (m : Int)))] = _
      rw [this]
  · rw [show decide ((0 : Int) < (m : Int)) = false from decide_eq_false hm]
    refine iteF ⟨_, rfl, ?_⟩
    have : m = 0 := by omega
    subst this
    rw [Nat.gcd_zero_right] at e
    show Q (.int x) H'
    rw [e]; exact q
/-! ### fraction -/
abbrev N_fraction : List Str := ["top", "bottom", "part"]
theorem sc_fraction : FnScope N_fraction ["top", "bottom"] (defScope s_fraction) := ⟨rfl, rfl, rfl, by decide +kernel, rfl, by decide +kernel, by decide +kernel⟩
def spFraction (K : PySem.W.Frag) : Sp := fun vs H Q _ => ∃ (n d : Int), vs = [.int n, .int d] ∧ 0 < d ∧ d.natAbs < 2 ^ 8990 ∧ ∀ v H', Ex H H' → FrA K H' v (fr n d) → Q v H'
theorem ok_fraction (T : Txt w K mg) : FnOk P w K mg base CX0 2 T.fraction.f T.fraction.fd ["top", "bottom"] (spFraction K) := by
  refine T.fraction.F.ok sc_fraction (fun vs H Q E h => ?_) (fun cdv A outer s H vs Q E hr h => ?_)
  · obtain ⟨n, d, rfl, _⟩ := h
    rfl
  obtain ⟨n, d, rfl, h0, h9, q⟩ := h
  refine ⟨_, PSs.nox (pss_cons (ps_if (pt_cmpR op_eq (pv 1) pe_int (nomark _)) (pss_one ps_never) pss_nil)
 (pss_cons (ps_set (i := 2) sc_fraction.nd rfl (Or.inl rfl) (pe_call (ok_shared T) (hr.mono (by decide)) rfl T.shared.g T.shared.F.kp (b_shared T) .nil pass0 (pa_cons (pe_callB call_abs (by rfl) T.m_abs (by decide +kernel) (pa_cons (pv 0) pa_nil)) (pa_cons (pe_callB call_abs (by rfl) T.m_abs (by decide +kernel) (pa_cons (pv 1) pa_nil)) pa_nil))))
 (pss_cons (ps_if (pt_cmpR op_lt (pv 1) pe_int (nomark _)) (pss_one (ps_set (i := 2) sc_fraction.nd rfl (Or.inl rfl) (pe_un un_neg (pv 2)))) pss_nil)
 (pss_one (ps_ret (pe_tup (pa_cons (pe_op op_fdivW (pv 0) (pv 2)) (pa_cons (pe_op op_fdivW (pv 1) (pv 2)) pa_nil)))))))), ?_⟩
  have e1 : decide (V.int d = V.int 0) = false := decide_eq_false fun z => by
    have := V.int.inj z
    omega
  refine ⟨_, rfl, rfl, _, rfl, ?_⟩
  rw [e1]
  refine iteF ?_
  have g0 : 0 < Nat.gcd n.natAbs d.natAbs := Nat.gcd_pos_of_pos_right _ (by omega)
  have gl : Nat.gcd n.natAbs d.natAbs ≤ d.natAbs := Nat.le_of_dvd (by omega) (Nat.gcd_dvd_right _ _)
  refine ⟨_, rfl, _, rfl, _, rfl, _, rfl, n.natAbs, d.natAbs, ?_, ?_⟩
  · show [V.int (if n < 0 then -n else n), V.int (if d < 0 then -d else d)] = [V.int n.natAbs, V.int d.natAbs]
    have a1 : (if n < 0 then -n else n) = (n.natAbs : Int) := by split <;> omega
    have a2 : (if d < 0 then -d else d) = (d.natAbs : Int) := by split <;> omega
    rw [a1, a2]
  refine ⟨_, rfl, _, _, rfl, rfl, _, rfl, ?_⟩
  rw [show decide (d < 0) = false from decide_eq_false (by omega)]
  refine iteF ?_
  have cw : ∀ i : Int, CDivW i (Nat.gcd n.natAbs d.natAbs : Nat) := fun i => cdivw (b := 8990) (by omega) (by rw [Int.natAbs_natCast]; omega)
  refine ⟨_, rfl, _, rfl, _, _, rfl, rfl, cw n, _, rfl, _, rfl, _, _, rfl, rfl, cw d, (by show 2 ≤ sizeLine; decide), fun p np => ?_⟩
  refine q _ _ (Ex.new np) ⟨p, rfl, ?_⟩
  rw [PW.fr_num h0, PW.fr_den h0]
  exact st_of upd_same
/-! ### plus, minus, times -/
def sp2 (K : PySem.W.Frag) (f : Rat → Rat → Rat) : Sp := fun vs H Q _ => ∃ x y r s, vs = [x, y] ∧ FrA K H x r ∧ FrA K H y s ∧ Sz 4000 r ∧ Sz 4000 s ∧ ∀ v H', Ex H H' → FrA K H' v (f r s) → Q v H'
abbrev spPlus (K : PySem.W.Frag) : Sp := sp2 K fun r s => r + s
abbrev spMinus (K : PySem.W.Frag) : Sp := sp2 K fun r s => r - s
abbrev spTimes (K : PySem.W.Frag) : Sp := sp2 K fun r s => r * s
theorem ev_item {σ : L2.St} {H : Hp} {i : Nat} {a : Addr} {xs : List V} {j : Int} {v : V} (hv : σ[i]? = some (some (.ref a))) (h : SqT K H a xs) (ha : atI xs j = some v) : Ev (tOp (rIxT K) (tVar i) (tC (.int j))) σ H v := ev_op (ev_var hv) ev_c (rv_ixT h ha)
theorem frac_of {σ : L2.St} {H : Hp} {ta tb : TE} {E : XK} {n d : Int} (ha : Ev ta σ H (.int n)) (hb : Ev tb σ H (.int d)) (h0 : 0 < d) (h9 : d.natAbs < 2 ^ 8990) : EvF K (tCall (spFraction K) [] E (tCons ta (tCons tb tNil))) σ H (fr n d) :=
  evf_call (ea_cons ha (ea_cons hb ea_nil)) fun H1 e Q k E => ⟨n, d, rfl, h0, h9, k⟩
abbrev N_plus : List Str := ["one", "other"]
theorem sc_plus : FnScope N_plus ["one", "other"] (defScope s_plus) := ⟨rfl, rfl, rfl, by decide +kernel, rfl, by decide +kernel, by decide +kernel⟩
theorem ok_plus (T : Txt w K mg) : FnOk P w K mg base CX0 3 T.plus.f T.plus.fd ["one", "other"] (spPlus K) := by
  refine T.plus.F.ok sc_plus (fun vs H Q E h => ?_) (fun cdv A outer s H vs Q E hr h => ?_)
  · obtain ⟨x, y, r, s, rfl, _⟩ := h
    rfl
  obtain ⟨x, y, r, s, rfl, ⟨a, rfl, ha⟩, ⟨b, rfl, hb⟩, z1, z2, q⟩ := h
  refine ⟨_, PSs.nox (pss_one (ps_ret (pe_call (ok_fraction T) (hr.mono (by decide)) rfl T.fraction.g T.fraction.F.kp (b_fraction T) .nil pass0 (pa_cons (pe_op op_add (pe_op op_mulW (pe_ix (ix_tupK (K := K) rfl) (pv 0) pe_int (fun _ _ => rfl)) (pe_ix (ix_tupK (K := K) rfl) (pv 1) pe_int (fun _ _ => rfl))) (pe_op op_mulW (pe_ix (ix_tupK (K := K) rfl) (pv 1) pe_int (fun _ _ => rfl)) (pe_ix (ix_tupK (K := K) rfl) (pv 0) pe_int (fun _ _ => rfl)))) (pa_cons (pe_op op_mulW (pe_ix (ix_tupK (K := K) rfl) (pv 0) pe_int (fun _ _ => rfl)) (pe_ix (ix_tupK (K := K) rfl) (pv 1) pe_int (fun _ _ => rfl))) pa_nil))))), ?_⟩
  have p1 := r.den_pos
  have p2 := s.den_pos
  have d1 : ((r.den : Int)).natAbs < 2 ^ 4000 := z1.2
  have d2 : ((s.den : Int)).natAbs < 2 ^ 4000 := z2.2
  have dd := PW.mul_lt d1 d2
  refine s_retF (evf_eq (frac_of (ev_op (ev_op (ev_item rfl ha rfl) (ev_item rfl hb rfl) (rv_I (cmulw z1.1 d2))) (ev_op (ev_item rfl hb rfl) (ev_item rfl ha rfl) (rv_I (cmulw z2.1 d1))) rv_I0)
    (ev_op (ev_item rfl ha rfl) (ev_item rfl hb rfl) (rv_I (cmulw d1 d2))) (Int.mul_pos (by omega) (by omega)) (Nat.lt_of_lt_of_le dd (Nat.pow_le_pow_right (by omega) (by omega)))) (PW.fr_add r s)) q
abbrev N_minus : List Str := ["one", "other"]
theorem sc_minus : FnScope N_minus ["one", "other"] (defScope s_minus) := ⟨rfl, rfl, rfl, by decide +kernel, rfl, by decide +kernel, by decide +kernel⟩
theorem ok_minus (T : Txt w K mg) : FnOk P w K mg base CX0 3 T.minus.f T.minus.fd ["one", "other"] (spMinus K) := by
  refine T.minus.F.ok sc_minus (fun vs H Q E h => ?_) (fun cdv A outer s H vs Q E hr h => ?_)
  · obtain ⟨x, y, r, s, rfl, _⟩ := h
    rfl
  obtain ⟨x, y, r, s, rfl, ⟨a, rfl, ha⟩, ⟨b, rfl, hb⟩, z1, z2, q⟩ := h
  refine ⟨_, PSs.nox (pss_one (ps_ret (pe_call (ok_fraction T) (hr.mono (by decide)) rfl T.fraction.g T.fraction.F.kp (b_fraction T) .nil pass0 (pa_cons (pe_op op_sub (pe_op op_mulW (pe_ix (ix_tupK (K := K) rfl) (pv 0) pe_int (fun _ _ => rfl)) (pe_ix (ix_tupK (K := K) rfl) (pv 1) pe_int (fun _ _ => rfl))) (pe_op op_mulW (pe_ix (ix_tupK (K := K) rfl) (pv 1) pe_int (fun _ _ => rfl)) (pe_ix (ix_tupK (K := K) rfl) (pv 0) pe_int (fun _ _ => rfl)))) (pa_cons (pe_op op_mulW (pe_ix (ix_tupK (K := K) rfl) (pv 0) pe_int (fun _ _ => rfl)) (pe_ix (ix_tupK (K := K) rfl) (pv 1) pe_int (fun _ _ => rfl))) pa_nil))))), ?_⟩
  have p1 := r.den_pos
  have p2 := s.den_pos
  have d1 : ((r.den : Int)).natAbs < 2 ^ 4000 := z1.2
  have d2 : ((s.den : Int)).natAbs < 2 ^ 4000 := z2.2
  have dd := PW.mul_lt d1 d2
  refine s_retF (evf_eq (frac_of (ev_op (ev_op (ev_item rfl ha rfl) (ev_item rfl hb rfl) (rv_I (cmulw z1.1 d2))) (ev_op (ev_item rfl hb rfl) (ev_item rfl ha rfl) (rv_I (cmulw z2.1 d1))) rv_I0)
    (ev_op (ev_item rfl ha rfl) (ev_item rfl hb rfl) (rv_I (cmulw d1 d2))) (Int.mul_pos (by omega) (by omega)) (Nat.lt_of_lt_of_le dd (Nat.pow_le_pow_right (by omega) (by omega)))) (PW.fr_sub r s)) q
abbrev N_times : List Str := ["one", "other"]
theorem sc_times : FnScope N_times ["one", "other"] (defScope s_times) := ⟨rfl, rfl, rfl, by decide +kernel, rfl, by decide +kernel, by decide +kernel⟩
theorem ok_times (T : Txt w K mg) : FnOk P w K mg base CX0 3 T.times.f T.times.fd ["one", "other"] (spTimes K) := by
  refine T.times.F.ok sc_times (fun vs H Q E h => ?_) (fun cdv A outer s H vs Q E hr h => ?_)
  · obtain ⟨x, y, r, s, rfl, _⟩ := h
    rfl
  obtain ⟨x, y, r, s, rfl, ⟨a, rfl, ha⟩, ⟨b, rfl, hb⟩, z1, z2, q⟩ := h
  refine ⟨_, PSs.nox (pss_one (ps_ret (pe_call (ok_fraction T) (hr.mono (by decide)) rfl T.fraction.g T.fraction.F.kp (b_fraction T) .nil pass0 (pa_cons (pe_op op_mulW (pe_ix (ix_tupK (K := K) rfl) (pv 0) pe_int (fun _ _ => rfl)) (pe_ix (ix_tupK (K := K) rfl) (pv 1) pe_int (fun _ _ => rfl))) (pa_cons (pe_op op_mulW (pe_ix (ix_tupK (K := K) rfl) (pv 0) pe_int (fun _ _ => rfl)) (pe_ix (ix_tupK (K := K) rfl) (pv 1) pe_int (fun _ _ => rfl))) pa_nil))))), ?_⟩
  have p1 := r.den_pos
  have p2 := s.den_pos
  have d1 : ((r.den : Int)).natAbs < 2 ^ 4000 := z1.2
  have d2 : ((s.den : Int)).natAbs < 2 ^ 4000 := z2.2
  have dd := PW.mul_lt d1 d2
  refine s_retF (evf_eq (frac_of (ev_op (ev_item rfl ha rfl) (ev_item rfl hb rfl) (rv_I (cmulw z1.1 z2.1)))
    (ev_op (ev_item rfl ha rfl) (ev_item rfl hb rfl) (rv_I (cmulw d1 d2))) (Int.mul_pos (by omega) (by omega)) (Nat.lt_of_lt_of_le dd (Nat.pow_le_pow_right (by omega) (by omega)))) (PW.fr_mul r s)) q
theorem evf_2 {σ : L2.St} {H : Hp} {ta tb : TE} {E : XK} {r s : Rat} {f : Rat → Rat → Rat} (ha : EvF K ta σ H r) (hb : EvF K tb σ H s) (z1 : Sz 4000 r) (z2 : Sz 4000 s) : EvF K (tCall (sp2 K f) [] E (tCons ta (tCons tb tNil))) σ H (f r s) :=
  evf_call2 ha hb fun x y H' _ fx fy H1 e Q k E => ⟨x, y, r, s, rfl, fx.ex e, fy.ex e, z1, z2, k⟩
/-! ### sign -/
abbrev N_sign : List Str := ["one"]
theorem sc_sign : FnScope N_sign ["one"] (defScope s_sign) := ⟨rfl, rfl, rfl, by decide +kernel, rfl, by decide +kernel, by decide +kernel⟩
def sgnI (r : Rat) : Int := (if 0 < r.num then 1 else 0) - (if r.num < 0 then 1 else 0)
def spSign (K : PySem.W.Frag) : Sp := fun vs H Q _ => ∃ x r, vs = [x] ∧ FrA K H x r ∧ ∀ H', Ex H H' → Q (.int (sgnI r)) H'
theorem ok_sign (T : Txt w K mg) : FnOk P w K mg base CX0 1 T.sign.f T.sign.fd ["one"] (spSign K) := by
  refine T.sign.F.ok sc_sign (fun vs H Q E h => ?_) (fun cdv A outer s H vs Q E hr h => ?_)
  · obtain ⟨x, r, rfl, _⟩ := h
    rfl
  obtain ⟨x, r, rfl, ⟨a, rfl, ha⟩, q⟩ := h
  refine ⟨_, PSs.nox (pss_one (ps_ret (pe_op op_sub (pe_callTy call_int1 (by rfl) T.m_int (by decide +kernel) (pa_cons (pe_cmpR op_gt (pe_ix (ix_tupK (K := K) rfl) (pv 0) pe_int (fun _ _ => rfl)) pe_int (nomark _)) pa_nil)) (pe_callTy call_int1 (by rfl) T.m_int (by decide +kernel) (pa_cons (pe_cmpR op_lt (pe_ix (ix_tupK (K := K) rfl) (pv 0) pe_int (fun _ _ => rfl)) pe_int (nomark _)) pa_nil))))), ?_⟩
  have ci : ∀ (b : Bool), RC (fun xs H Q => (∃ i, xs = [.int i] ∧ Q (.int i) H) ∨ ∃ k : Bool, xs = [.bl k] ∧ Q (.int (if k then 1 else 0)) H) [.bl b] H (.int (if b then 1 else 0)) := fun b H1 _ Q k => Or.inr ⟨b, rfl, k H1 (Ex.refl H1)⟩
  refine s_ret (ev_is (ev_op (ev_cb (ea_cons (ev_op (ev_item rfl ha rfl) ev_c rv_I0) ea_nil) (ci _)) (ev_cb (ea_cons (ev_op (ev_item rfl ha rfl) ev_c rv_I0) ea_nil) (ci _)) rv_I0) ?_) q
  unfold sgnI
  simp only [decide_eq_true_eq]
theorem ev_sign {σ : L2.St} {H : Hp} {ta : TE} {E : XK} {r : Rat} (ha : EvF K ta σ H r) : Ev (tCall (spSign K) [] E (tCons ta tNil)) σ H (.int (sgnI r)) := fun H1 e Q k =>
  ha H1 e _ fun x H2 e2 fx => ⟨x, r, rfl, fx, fun H3 e3 => k H3 (e2.trans e3)⟩
end
end PX

/-! loops and comprehensions by relations -/
namespace PX
open PySem PySem.Spec PyProof.Rows L2 Evl
/-- all but one object stays -/
def Fx (D : Addr) (H H' : Hp) : Prop := ∀ a o, a ≠ D → H a = some o → H' a = some o
theorem Fx.refl (D : Addr) (H : Hp) : Fx D H H := fun _ _ _ h => h
theorem Fx.of {D : Addr} {H H' : Hp} (e : Ex H H') : Fx D H H' := fun a o _ h => e a o h
theorem Fx.trans {D : Addr} {H H1 H2 : Hp} (a : Fx D H H1) (b : Fx D H1 H2) : Fx D H H2 := fun x o n h => b x o n (a x o n h)
theorem Fx.upd {D : Addr} {H : Hp} {o : HO} : Fx D H (upd H D o) := fun a u n h => by rw [upd_ne n]; exact h
theorem Fx.ex {D : Addr} {H H' : Hp} (f : Fx D H H') (n : H D = none) : Ex H H' := fun a o h => f a o (ne_of_none h n) h
/-- a list, a tuple that isn't the object that changes -/
theorem fx_l {K : PySem.W.Frag} {D a : Addr} {H H' : Hp} {xs : List V} (f : Fx D H H') (n : a ≠ D) (h : SqL K H a xs) : SqL K H' a xs := by
  rcases h with (t | ⟨o, t⟩) | t
  · exact .inl (.inl (f a _ n t))
  · exact .inl (.inr ⟨o, f a _ n t⟩)
  · exact .inr t
theorem fx_t {K : PySem.W.Frag} {D a : Addr} {H H' : Hp} {xs ys : List V} (f : Fx D H H') (n : H D = some (.lst ys)) (h : SqT K H a xs) : SqT K H' a xs := by
  rcases h with (t | ⟨o, t⟩) | t
  · exact .inl (.inl (f a _ (ne_of t n (by intro z; cases z)) t))
  · exact .inl (.inr ⟨o, f a _ (ne_of t n (by intro z; cases z)) t⟩)
  · exact .inr t
theorem FrA.fx {K : PySem.W.Frag} {D : Addr} {H H' : Hp} {v : V} {r : Rat} {ys : List V} (f : Fx D H H') (n : H D = some (.lst ys)) (h : FrA K H v r) : FrA K H' v r := let ⟨a, e, h⟩ := h; ⟨a, e, fx_t f n h⟩
/-- an object that isn't a tuple -/
def NT (H : Hp) (D : Addr) : Prop := (∀ zs, H D ≠ some (.tup zs)) ∧ ∀ o zs, H D ≠ some (.frz o (.tup zs))
theorem nt_lst {H : Hp} {D : Addr} {ys : List V} (h : H D = some (.lst ys)) : NT H D := ⟨fun zs z => (by rw [h] at z; cases z), fun o zs z => (by rw [h] at z; cases z)⟩
theorem nt_ins {H : Hp} {D C dx : Addr} {fs : List (Str × V)} (h : H D = some (.ins C dx fs)) : NT H D := ⟨fun zs z => (by rw [h] at z; cases z), fun o zs z => (by rw [h] at z; cases z)⟩
theorem nt_dk {H : Hp} {D : Addr} {kvs : List (Key × V)} (h : H D = some (.dK kvs)) : NT H D := ⟨fun zs z => (by rw [h] at z; cases z), fun o zs z => (by rw [h] at z; cases z)⟩
theorem fx_t' {K : PySem.W.Frag} {D a : Addr} {H H' : Hp} {xs : List V} (f : Fx D H H') (n : NT H D) (h : SqT K H a xs) : SqT K H' a xs := by
  rcases h with (t | ⟨o, t⟩) | t
  · exact .inl (.inl (f a _ (fun z => n.1 xs (by rw [← z]; exact t)) t))
  · exact .inl (.inr ⟨o, f a _ (fun z => n.2 o xs (by rw [← z]; exact t)) t⟩)
  · exact .inr t
theorem FrA.fx' {K : PySem.W.Frag} {D : Addr} {H H' : Hp} {v : V} {r : Rat} (f : Fx D H H') (n : NT H D) (h : FrA K H v r) : FrA K H' v r := let ⟨a, e, h⟩ := h; ⟨a, e, fx_t' f n h⟩
/-- a value such that R; a new list such that P -/
def EvR (te : TE) (σ : L2.St) (H : Hp) (R : V → Hp → Prop) : Prop := ∀ H1, Ex H H1 → ∀ Q : VK, (∀ v H2, Ex H1 H2 → R v H2 → Q v H2) → te σ H1 Q
def EvC (te : TE) (σ : L2.St) (H : Hp) (P : Addr → List V → Hp → Prop) : Prop := ∀ H1, Ex H H1 → ∀ Q : VK, (∀ p H2 xs, H1 p = none → Ex H1 H2 → H2 p = some (.lst xs) → P p xs H2 → Q (.ref p) H2) → te σ H1 Q
section
variable {K : PySem.W.Frag} {σ : L2.St} {H H' : Hp} {ta tb te tl : TE} {D : Ends} {tz tu : TS} {g : TG} {tt : TT} {R : V → Hp → Prop} {P : Addr → List V → Hp → Prop}
theorem EvR.mono (e : Ex H H') (h : EvR te σ H R) : EvR te σ H' R := fun H1 a Q k => h H1 (e.trans a) Q k
theorem EvC.mono (e : Ex H H') (h : EvC te σ H P) : EvC te σ H' P := fun H1 a Q k => h H1 (e.trans a) Q k
theorem evr_ev {v : V} (h : Ev te σ H v) (hr : ∀ H1, Ex H H1 → R v H1) : EvR te σ H R := fun H1 e Q k => h H1 e Q fun H2 e2 => k v H2 e2 (hr H2 (e.trans e2))
theorem evr_f {r : Rat} (h : EvF K te σ H r) : EvR te σ H (fun v H => FrA K H v r) := h
theorem evr_c (h : EvC te σ H P) : EvR te σ H (fun v H2 => ∃ p xs, v = .ref p ∧ H p = none ∧ H2 p = some (.lst xs) ∧ P p xs H2) := fun H1 e Q k =>
  h H1 e Q fun p H2 xs hp e2 h2 hP => k (.ref p) H2 e2 ⟨p, xs, rfl, fresh_back e hp, h2, hP⟩
theorem evc_l {xs : List V} (h : EvL te σ H xs) : EvC te σ H (fun _ ys _ => ys = xs) := fun H1 e Q k => h H1 e Q fun p H2 hp e2 h2 => k p H2 xs hp e2 h2 rfl
theorem evl_c {xs : List V} (h : EvC te σ H P) (hP : ∀ p ys H2, P p ys H2 → ys = xs) : EvL te σ H xs := fun H1 e Q k => h H1 e Q fun p H2 ys hp e2 h2 hp2 => k p H2 hp e2 (by rw [← hP _ _ _ hp2]; exact h2)
theorem q_asgR {i : Nat} (h : EvR te σ H R) (k : ∀ v H1, Ex H H1 → R v H1 → tz D (σ.set i (some v)) H1) : tSeq (tAsg te (gName i)) tz D σ H := h H (Ex.refl H) _ k
theorem s_asgR {i : Nat} (h : EvR te σ H R) (k : ∀ v H1, Ex H H1 → R v H1 → D.nx (σ.set i (some v)) H1) : tAsg te (gName i) D σ H := h H (Ex.refl H) _ k
theorem s_retR (h : EvR te σ H R) (k : ∀ v H1, Ex H H1 → R v H1 → D.rt v H1) : tRet te D σ H := h H (Ex.refl H) _ k
theorem q_asgC {i : Nat} (h : EvC te σ H P) (k : ∀ p H1 xs, H p = none → Ex H H1 → H1 p = some (.lst xs) → P p xs H1 → tz D (σ.set i (some (.ref p))) H1) : tSeq (tAsg te (gName i)) tz D σ H := h H (Ex.refl H) _ k
theorem s_asgC {i : Nat} (h : EvC te σ H P) (k : ∀ p H1 xs, H p = none → Ex H H1 → H1 p = some (.lst xs) → P p xs H1 → D.nx (σ.set i (some (.ref p))) H1) : tAsg te (gName i) D σ H := h H (Ex.refl H) _ k
theorem s_retC (h : EvC te σ H P) (k : ∀ p H1 xs, H p = none → Ex H H1 → H1 p = some (.lst xs) → P p xs H1 → D.rt (.ref p) H1) : tRet te D σ H := h H (Ex.refl H) _ k
theorem s_ret_tup {ta : TA} (h : ta σ H fun vs H1 => vs.length ≤ sizeLine ∧ ∀ p, H1 p = none → D.rt (.ref p) (upd H1 p (.tup vs))) : tRet (tTup ta) D σ H := h
theorem e_tup {ta : TA} {Q : VK} (h : ta σ H fun vs H1 => vs.length ≤ sizeLine ∧ ∀ p, H1 p = none → Q (.ref p) (upd H1 p (.tup vs))) : tTup ta σ H Q := h
theorem e_lst {ta : TA} {Q : VK} (h : ta σ H fun vs H1 => vs.length ≤ sizeLine ∧ ∀ p, H1 p = none → Q (.ref p) (upd H1 p (.lst vs))) : tLst ta σ H Q := h
theorem a_cons {tr : TA} {Q : List V → Hp → Prop} (h : te σ H fun v H1 => tr σ H1 fun vs H2 => Q (v :: vs) H2) : tCons te tr σ H Q := h
theorem at_c {Q : VK} (h : EvC te σ H P) (k : ∀ p H2 xs, H p = none → Ex H H2 → H2 p = some (.lst xs) → P p xs H2 → Q (.ref p) H2) : te σ H Q := h H (Ex.refl H) Q k
theorem at_v {v : V} {Q : VK} (h : Ev te σ H v) (k : ∀ H2, Ex H H2 → Q v H2) : te σ H Q := h H (Ex.refl H) Q k
theorem at_f {r : Rat} {Q : VK} (h : EvF K te σ H r) (k : ∀ v H2, Ex H H2 → FrA K H2 v r → Q v H2) : te σ H Q := h H (Ex.refl H) Q k
theorem at_r {Q : VK} (h : EvR te σ H R) (k : ∀ v H2, Ex H H2 → R v H2 → Q v H2) : te σ H Q := h H (Ex.refl H) Q k
theorem at_l {xs : List V} {Q : VK} (h : EvL te σ H xs) (k : ∀ p H2, H p = none → Ex H H2 → H2 p = some (.lst xs) → Q (.ref p) H2) : te σ H Q := h H (Ex.refl H) Q k
/-- a new tuple such that P -/
def EvCU (te : TE) (σ : L2.St) (H : Hp) (P : List V → Hp → Prop) : Prop := ∀ H1, Ex H H1 → ∀ Q : VK, (∀ p H2 xs, H1 p = none → Ex H1 H2 → H2 p = some (.tup xs) → P xs H2 → Q (.ref p) H2) → te σ H1 Q
theorem EvCU.mono {P : List V → Hp → Prop} (e : Ex H H') (h : EvCU te σ H P) : EvCU te σ H' P := fun H1 a Q k => h H1 (e.trans a) Q k
theorem evcu_of {P' : List V → Hp → Prop} (h : EvC te σ H P) (hm : ∀ D xs H1 l, Ex H H1 → H D = none → H1 D = some (.lst xs) → P D xs H1 → H1 l = none → P' xs (upd H1 l (.tup xs))) : EvCU (tCB (rTupQ K) (tCons te tNil)) σ H P' := fun H1 e Q k =>
  h H1 e _ fun D H2 xs hD e2 h2 hP => ⟨D, xs, rfl, .inl ⟨sq_of h2, fun l hl => k l _ xs (fresh_back e2 hl) (e2.trans (Ex.new hl)) upd_same (hm D xs H2 l (e.trans e2) (fresh_back e hD) h2 hP hl)⟩⟩
theorem s_retCU {P : List V → Hp → Prop} (h : EvCU te σ H P) (k : ∀ p H1 xs, H p = none → Ex H H1 → H1 p = some (.tup xs) → P xs H1 → D.rt (.ref p) H1) : tRet te D σ H := h H (Ex.refl H) _ k
theorem q_asgCU {P : List V → Hp → Prop} {i : Nat} (h : EvCU te σ H P) (k : ∀ p H1 xs, H p = none → Ex H H1 → H1 p = some (.tup xs) → P xs H1 → tz D (σ.set i (some (.ref p))) H1) : tSeq (tAsg te (gName i)) tz D σ H := h H (Ex.refl H) _ k
/-- tuple(x) of a tuple is itself; of a list at an address -/
theorem ev_tupleT {a : Addr} {xs : List V} (ha : Ev ta σ H (.ref a)) (h : SqT K H a xs) : Ev (tCB (rTupQ K) (tCons ta tNil)) σ H (.ref a) := ev_cb (ea_cons ha ea_nil) fun H1 e Q k => ⟨a, xs, rfl, .inr ⟨ex_t e h, k H1 (Ex.refl H1)⟩⟩
theorem eu_tupleL {a : Addr} {xs : List V} (ha : Ev ta σ H (.ref a)) (h : SqL K H a xs) : EvU (tCB (rTupQ K) (tCons ta tNil)) σ H xs := fun H1 e Q k =>
  ha H1 e _ fun H2 e2 => ⟨a, xs, rfl, .inl ⟨ex_l (e.trans e2) h, fun l hl => k l _ (fresh_back e2 hl) (e2.trans (Ex.new hl)) upd_same⟩⟩
/-- a pair of a new list and a value, told -/
theorem s_retC2 (h : EvC te σ H P) (k : ∀ p H1 xs, H p = none → Ex H H1 → H1 p = some (.lst xs) → P p xs H1 → ∃ v, Ev tb σ H1 v ∧ ∀ t H2, H1 t = none → Ex H1 H2 → H2 t = some (.tup [.ref p, v]) → D.rt (.ref t) H2) : tRet (tTup (tCons te (tCons tb tNil))) D σ H :=
  h H (Ex.refl H) _ fun p H1 xs hp e1 h1 hP => by
    obtain ⟨v, hv, k2⟩ := k p H1 xs hp e1 h1 hP
    refine hv H1 (Ex.refl H1) _ fun H2 e2 => ⟨(by show 2 ≤ sizeLine; decide), fun t ht => k2 t _ (fresh_back e2 ht) (e2.trans (Ex.new ht)) upd_same⟩
/-! ### comprehensions -/
/-- what the turns give that the test takes -/
def Outs (n : Nat) (f : Nat → Bool) (R : Nat → V → Hp → Prop) (xs : List V) (H : Hp) : Prop := xs.length = ((List.range n).filter f).length ∧ ∀ (k : Nat) v, xs[k]? = some v → ∃ i, ((List.range n).filter f)[k]? = some i ∧ R i v H
theorem range_filter_succ (n : Nat) (f : Nat → Bool) : (List.range (n + 1)).filter f = (List.range n).filter f ++ (if f n then [n] else []) := by
  rw [List.range_succ, List.filter_append]
  congr 1
  cases h : f n <;> simp [h]
theorem lc_rel {J : It} {n : Nat} {G : Hp → Prop} {Y : Nat → Hp → V → Hp → Prop} (w : Walk J n G Y) {vs : List Nat} {H1 : Hp} {Q : VK} (f : Nat → Bool) (S : Nat → L2.St → Hp → Prop) (R : Addr → Nat → V → Hp → Prop) (hn : n ≤ 90000)
    (hG : ∀ D H', H1 D = none → Fx D H1 H' → G H')
    (hg : ∀ D i x H H' (Qg : L2.St → Hp → Prop), i < n → H1 D = none → Fx D H1 H → (∃ ys, H D = some (.lst ys)) → Y i H x H' → (∀ σ2 H2, Ex H H2 → S i σ2 H2 → Qg σ2 H2) → g x (wipe σ vs) H' Qg)
    (hw : ∀ i σ2 H2, S i σ2 H2 → wipe σ2 vs = wipe σ vs)
    (ht : ∀ D i σ2 H2, i < n → H1 D = none → Fx D H1 H2 → (∃ ys, H2 D = some (.lst ys)) → S i σ2 H2 → EvT tt σ2 H2 (f i))
    (he : ∀ D i σ2 H2, i < n → f i = true → H1 D = none → Fx D H1 H2 → (∃ ys, H2 D = some (.lst ys)) → S i σ2 H2 → EvR te σ2 H2 (R D i))
    (hs : ∀ D i v H H', Fx D H H' → (∃ ys, H D = some (.lst ys)) → R D i v H → R D i v H')
    (hq : ∀ D H2 xs, H1 D = none → Ex H1 H2 → H2 D = some (.lst xs) → Outs n f (R D) xs H2 → Q (.ref D) H2) :
    ∀ D, H1 D = none → ∃ W : Nat → Nat → Hp → Prop, (∃ m, W 0 m (upd H1 D (.lst []))) ∧ ∀ i m H, W i m H →
      (J.stop i H ∧ Q (.ref D) H) ∨
      (J.go i H ∧ ∃ Nx : Hp → Prop, (∀ G2, Nx G2 → ∃ m2, m2 < m ∧ W (i + 1) m2 G2) ∧
        ∀ v G2, J.yld i H v G2 → g v (wipe σ vs) G2 fun τ H2 => wipe τ vs = wipe σ vs ∧ tt τ H2 fun c H3 =>
          if c = true then te τ H3 fun u H4 => ∃ got, H4 D = some (.lst got) ∧ got.length < sizeLine ∧ Nx (upd H4 D (.lst (got ++ [u]))) else Nx H3) := fun D hD => by
  refine lc_it w (Qd := fun H => Q (.ref D) H) (fun i H => Fx D H1 H ∧ ∃ xs, H D = some (.lst xs) ∧ Outs i f (R D) xs H) ⟨Fx.upd, [], upd_same, rfl, fun k v e => by simp at e⟩ (fun i H _ p => hG D H hD p.1) (fun i x H H' hi p y => ?_) (fun H p => ?_)
  · obtain ⟨p1, xs, p2, p3, p4⟩ := p
    refine hg D i x H H' _ hi hD p1 ⟨xs, p2⟩ y fun σ2 H2 e2 hS => ⟨hw i σ2 H2 hS, ?_⟩
    have l2 : H2 D = some (.lst xs) := e2 D _ p2
    have f2 : Fx D H1 H2 := p1.trans (Fx.of e2)
    refine ht D i σ2 H2 hi hD f2 ⟨xs, l2⟩ hS H2 (Ex.refl H2) _ fun H3 e3 => ?_
    have l3 : H3 D = some (.lst xs) := e3 D _ l2
    have e23 : Ex H H3 := e2.trans e3
    cases hf : f i with
    | true =>
      show te σ2 H3 _
      refine he D i σ2 H2 hi hf hD f2 ⟨xs, l2⟩ hS H3 e3 _ fun y H4 e4 hR => ⟨xs, e4 D _ l3, ?_, (f2.trans (Fx.of (e3.trans e4))).trans Fx.upd, xs ++ [y], upd_same, ?_, fun k v e => ?_⟩
      · rw [p3]
        have := List.length_filter_le f (List.range i)
        rw [List.length_range] at this
        exact sz_lt (by omega)
      · rw [range_filter_succ, hf, List.length_append, List.length_append, p3]; rfl
      · rw [range_filter_succ, hf]
        have l4 : H4 D = some (.lst xs) := e4 D _ l3
        by_cases hk : k < xs.length
        · rw [List.getElem?_append_left hk] at e
          obtain ⟨j, e1, r1⟩ := p4 k v e
          exact ⟨j, by rw [List.getElem?_append_left (by omega)]; exact e1, hs D j v H4 _ Fx.upd ⟨xs, l4⟩ (hs D j v H H4 (Fx.of (e23.trans e4)) ⟨xs, p2⟩ r1)⟩
        · have hk2 : k = xs.length := by
            have := (List.getElem?_eq_some_iff.mp e).1
            rw [List.length_append] at this
            simp at this
            omega
          subst hk2
          rw [List.getElem?_append_right (Nat.le_refl _), Nat.sub_self] at e
          cases e
          refine ⟨i, ?_, hs D i y H4 _ Fx.upd ⟨xs, l4⟩ hR⟩
          rw [List.getElem?_append_right (by omega), p3, Nat.sub_self]; rfl
    | false =>
      show Fx D H1 H3 ∧ _
      refine ⟨f2.trans (Fx.of e3), xs, l3, ?_, fun k v e => ?_⟩
      · rw [range_filter_succ, hf]
        show xs.length = ((List.range i).filter f ++ []).length
        rw [List.append_nil]; exact p3
      · rw [range_filter_succ, hf]
        obtain ⟨j, e1, r1⟩ := p4 k v e
        refine ⟨j, ?_, hs D j v H H3 (Fx.of e23) ⟨xs, p2⟩ r1⟩
        show ((List.range i).filter f ++ [])[k]? = some j
        rw [List.append_nil]; exact e1
  · obtain ⟨p1, xs, p2, p3⟩ := p
    exact hq D H xs hD (p1.ex hD) p2 p3
theorem outs_all {n : Nat} {R : Nat → V → Hp → Prop} {xs : List V} (h : Outs n (fun _ => true) R xs H) : xs.length = n ∧ ∀ (i : Nat) v, xs[i]? = some v → R i v H := by
  have e : (List.range n).filter (fun _ => true) = List.range n := List.filter_eq_self.mpr fun _ _ => rfl
  unfold Outs at h
  rw [e, List.length_range] at h
  refine ⟨h.1, fun i v hv => ?_⟩
  obtain ⟨j, e1, r⟩ := h.2 i v hv
  have hi : i < n := by
    have := (List.getElem?_eq_some_iff.mp hv).1
    omega
  rw [List.getElem?_range hi] at e1
  cases e1
  exact r
/-- all of them are told: the list is -/
theorem outs_map {n : Nat} {v : Nat → V} {xs : List V} (h : Outs n (fun _ => true) (fun i x _ => x = v i) xs H) : xs = (List.range n).map v := by
  obtain ⟨h1, h2⟩ := outs_all h
  refine List.ext_getElem? fun i => ?_
  by_cases hi : i < n
  · rw [List.getElem?_map, List.getElem?_range hi]
    have := h2 i xs[i] (List.getElem?_eq_getElem (by omega))
    rw [List.getElem?_eq_getElem (by omega), this]; rfl
  · rw [List.getElem?_eq_none (by omega), List.getElem?_eq_none (by simp; omega)]
theorem et_yes : EvT tYes σ H true := fun H1 _ Q k => k H1 (Ex.refl H1)
/-- a, b = a pair -/
theorem g_pair {T : Addr} {x y : V} {i j : Nat} {Qg : L2.St → Hp → Prop} (h : SqT K H T [x, y]) (k : Qg ((σ.set i (some x)).set j (some y)) H) : gTup K 2 (gCons (gName i) (gCons (gName j) gNil)) (.ref T) σ H Qg :=
  ⟨T, [x, y], rfl, h, rfl, x, [y], rfl, y, [], rfl, rfl, k⟩
/-- over a list by a name -/
theorem evc_listF {a : Addr} {xs : List V} {j : Nat} {vs : List Nat} (f : Nat → Bool) (R : Addr → Nat → V → Hp → Prop) (h : Ev tl σ H (.ref a)) (hx : SqL K H a xs) (hz : xs.length ≤ 90000) (hw : ∀ x, wipe ((wipe σ vs).set j (some x)) vs = wipe σ vs)
    (ht : ∀ D i x H1, H D = none → Ex H H1 → (∃ ys, H1 D = some (.lst ys)) → xs[i]? = some x → EvT tt ((wipe σ vs).set j (some x)) H1 (f i))
    (he : ∀ D i x H1, H D = none → Ex H H1 → (∃ ys, H1 D = some (.lst ys)) → xs[i]? = some x → f i = true → EvR te ((wipe σ vs).set j (some x)) H1 (R D i))
    (hs : ∀ D i v H H', Fx D H H' → (∃ ys, H D = some (.lst ys)) → R D i v H → R D i v H') : EvC (tLc (iList K tl) (gName j) tt te vs) σ H (fun D ys H2 => Outs xs.length f (R D) ys H2) := fun H0 e Q q => h H0 e _ fun H1 e1 =>
  ⟨a, rfl, ⟨xs, ex_l (e.trans e1) hx⟩, lc_rel (walk_list (K := K) (a := a) (xs := xs)) f (fun i σ2 _ => ∃ x, xs[i]? = some x ∧ σ2 = (wipe σ vs).set j (some x)) R hz
    (fun D H' hD f => ex_l ((e.trans e1).trans (f.ex hD)) hx)
    (fun D i x H H' Qg hi hD f hl y k => by
      obtain ⟨rfl, hx'⟩ := y
      exact k _ _ (Ex.refl _) ⟨x, hx', rfl⟩)
    (fun i σ2 H2 ⟨x, _, hσ⟩ => by rw [hσ]; exact hw x)
    (fun D i σ2 H2 hi hD f hl ⟨x, hx', hσ⟩ => by
      rw [hσ]
      exact ht D i x H2 (fresh_back (e.trans e1) hD) ((e.trans e1).trans (f.ex hD)) hl hx')
    (fun D i σ2 H2 hi hf hD f hl ⟨x, hx', hσ⟩ => by
      rw [hσ]
      exact he D i x H2 (fresh_back (e.trans e1) hD) ((e.trans e1).trans (f.ex hD)) hl hx' hf) hs
    (fun D H2 ys hD e2 h2 o => q D H2 ys (fresh_back e1 hD) (e1.trans e2) h2 o)⟩
theorem evc_list {a : Addr} {xs : List V} {j : Nat} {vs : List Nat} (R : Addr → Nat → V → Hp → Prop) (h : Ev tl σ H (.ref a)) (hx : SqL K H a xs) (hz : xs.length ≤ 90000) (hw : ∀ x, wipe ((wipe σ vs).set j (some x)) vs = wipe σ vs)
    (he : ∀ D i x H1, H D = none → Ex H H1 → (∃ ys, H1 D = some (.lst ys)) → xs[i]? = some x → EvR te ((wipe σ vs).set j (some x)) H1 (R D i))
    (hs : ∀ D i v H H', Fx D H H' → (∃ ys, H D = some (.lst ys)) → R D i v H → R D i v H') : EvC (tLc (iList K tl) (gName j) tYes te vs) σ H (fun D ys H2 => Outs xs.length (fun _ => true) (R D) ys H2) :=
  evc_listF (fun _ => true) R h hx hz hw (fun _ _ _ _ _ _ _ _ => et_yes) (fun D i x H1 a b c d _ => he D i x H1 a b c d) hs
/-- over a tuple by a name -/
theorem evc_tupF {a : Addr} {xs : List V} {j : Nat} {vs : List Nat} (f : Nat → Bool) (R : Addr → Nat → V → Hp → Prop) (h : Ev tl σ H (.ref a)) (hx : SqT K H a xs) (hz : xs.length ≤ 90000) (hw : ∀ x, wipe ((wipe σ vs).set j (some x)) vs = wipe σ vs)
    (ht : ∀ D i x H1, H D = none → Ex H H1 → (∃ ys, H1 D = some (.lst ys)) → xs[i]? = some x → EvT tt ((wipe σ vs).set j (some x)) H1 (f i))
    (he : ∀ D i x H1, H D = none → Ex H H1 → (∃ ys, H1 D = some (.lst ys)) → xs[i]? = some x → f i = true → EvR te ((wipe σ vs).set j (some x)) H1 (R D i))
    (hs : ∀ D i v H H', Fx D H H' → (∃ ys, H D = some (.lst ys)) → R D i v H → R D i v H') : EvC (tLc (iTup K tl) (gName j) tt te vs) σ H (fun D ys H2 => Outs xs.length f (R D) ys H2) := fun H0 e Q q => h H0 e _ fun H1 e1 =>
  ⟨a, rfl, ⟨xs, ex_t (e.trans e1) hx⟩, lc_rel (walk_tup (K := K) (a := a) (xs := xs)) f (fun i σ2 _ => ∃ x, xs[i]? = some x ∧ σ2 = (wipe σ vs).set j (some x)) R hz
    (fun D H' hD f => ex_t ((e.trans e1).trans (f.ex hD)) hx)
    (fun D i x H H' Qg hi hD f hl y k => by
      obtain ⟨rfl, hx'⟩ := y
      exact k _ _ (Ex.refl _) ⟨x, hx', rfl⟩)
    (fun i σ2 H2 ⟨x, _, hσ⟩ => by rw [hσ]; exact hw x)
    (fun D i σ2 H2 hi hD f hl ⟨x, hx', hσ⟩ => by
      rw [hσ]
      exact ht D i x H2 (fresh_back (e.trans e1) hD) ((e.trans e1).trans (f.ex hD)) hl hx')
    (fun D i σ2 H2 hi hf hD f hl ⟨x, hx', hσ⟩ => by
      rw [hσ]
      exact he D i x H2 (fresh_back (e.trans e1) hD) ((e.trans e1).trans (f.ex hD)) hl hx' hf) hs
    (fun D H2 ys hD e2 h2 o => q D H2 ys (fresh_back e1 hD) (e1.trans e2) h2 o)⟩
/-- over a tuple of pairs by two names -/
theorem evc_tup2 {a : Addr} {xs : List V} {i0 j0 : Nat} {vs : List Nat} (Pr : Nat → V → V → Prop) (R : Addr → Nat → V → Hp → Prop) (h : Ev tl σ H (.ref a)) (hx : SqT K H a xs) (hz : xs.length ≤ 90000) (hw : ∀ x y, wipe (((wipe σ vs).set i0 (some x)).set j0 (some y)) vs = wipe σ vs)
    (hp : ∀ (i : Nat) x, xs[i]? = some x → ∃ T u v, x = .ref T ∧ SqT K H T [u, v] ∧ Pr i u v)
    (he : ∀ D i u v H1, H D = none → Ex H H1 → (∃ ys, H1 D = some (.lst ys)) → i < xs.length → Pr i u v → EvR te (((wipe σ vs).set i0 (some u)).set j0 (some v)) H1 (R D i))
    (hs : ∀ D i v H H', Fx D H H' → (∃ ys, H D = some (.lst ys)) → R D i v H → R D i v H') : EvC (tLc (iTup K tl) (gTup K 2 (gCons (gName i0) (gCons (gName j0) gNil))) tYes te vs) σ H (fun D ys H2 => Outs xs.length (fun _ => true) (R D) ys H2) := fun H0 e Q q => h H0 e _ fun H1 e1 =>
  ⟨a, rfl, ⟨xs, ex_t (e.trans e1) hx⟩, lc_rel (walk_tup (K := K) (a := a) (xs := xs)) (fun _ => true) (fun i σ2 _ => ∃ u v, Pr i u v ∧ σ2 = ((wipe σ vs).set i0 (some u)).set j0 (some v)) R hz
    (fun D H' hD f => ex_t ((e.trans e1).trans (f.ex hD)) hx)
    (fun D i x H2 H' Qg hi hD f hl y k => by
      obtain ⟨rfl, hx'⟩ := y
      obtain ⟨T, u, v, rfl, hT, pr⟩ := hp i x hx'
      exact g_pair (ex_t ((e.trans e1).trans (f.ex hD)) hT) (k _ _ (Ex.refl _) ⟨u, v, pr, rfl⟩))
    (fun i σ2 H2 ⟨u, v, _, hσ⟩ => by rw [hσ]; exact hw u v)
    (fun D i σ2 H2 hi hD f hl _ => et_yes)
    (fun D i σ2 H2 hi hf hD f hl ⟨u, v, pr, hσ⟩ => by
      rw [hσ]
      exact he D i u v H2 (fresh_back (e.trans e1) hD) ((e.trans e1).trans (f.ex hD)) hl hi pr) hs
    (fun D H2 ys hD e2 h2 o => q D H2 ys (fresh_back e1 hD) (e1.trans e2) h2 o)⟩
/-- over range(n), range(lo, n) -/
theorem evc_rngF {lo : Int} {n : Nat} {wi : TI} {j : Nat} {vs : List Nat} (f : Nat → Bool) (R : Addr → Nat → V → Hp → Prop) (h : ∀ H0, Ex H H0 → ∀ Rr : It → Hp → Prop, (∀ H1, Ex H0 H1 → Rr (Itr lo n) H1) → wi σ H0 Rr) (hz : n ≤ 90000) (hw : ∀ x, wipe ((wipe σ vs).set j (some x)) vs = wipe σ vs)
    (ht : ∀ D (i : Nat) H1, i < n → H D = none → Ex H H1 → (∃ ys, H1 D = some (.lst ys)) → EvT tt ((wipe σ vs).set j (some (.int (lo + i)))) H1 (f i))
    (he : ∀ D (i : Nat) H1, i < n → H D = none → Ex H H1 → (∃ ys, H1 D = some (.lst ys)) → f i = true → EvR te ((wipe σ vs).set j (some (.int (lo + i)))) H1 (R D i))
    (hs : ∀ D i v H H', Fx D H H' → (∃ ys, H D = some (.lst ys)) → R D i v H → R D i v H') : EvC (tLc wi (gName j) tt te vs) σ H (fun D ys H2 => Outs n f (R D) ys H2) := fun H0 e Q q => h H0 e _ fun H1 e1 =>
  lc_rel (walk_range (lo := lo) (n := n)) f (fun i σ2 _ => σ2 = (wipe σ vs).set j (some (.int (lo + i)))) R hz
    (fun _ _ _ _ => trivial)
    (fun D i x H H' Qg hi hD f hl y k => by
      obtain ⟨rfl, rfl⟩ := y
      exact k _ _ (Ex.refl _) rfl)
    (fun i σ2 H2 hσ => by rw [hσ]; exact hw _)
    (fun D i σ2 H2 hi hD f hl hσ => by
      rw [hσ]
      exact ht D i H2 hi (fresh_back (e.trans e1) hD) ((e.trans e1).trans (f.ex hD)) hl)
    (fun D i σ2 H2 hi hf hD f hl hσ => by
      rw [hσ]
      exact he D i H2 hi (fresh_back (e.trans e1) hD) ((e.trans e1).trans (f.ex hD)) hl hf) hs
    (fun D H2 ys hD e2 h2 o => q D H2 ys (fresh_back e1 hD) (e1.trans e2) h2 o)
theorem rng1 {ta : TA} {n : Nat} (h : EvA ta σ H [.int n]) (hn : n ≤ 90000) : ∀ H0, Ex H H0 → ∀ Rr : It → Hp → Prop, (∀ H1, Ex H0 H1 → Rr (Itr 0 n) H1) → iRng1 ta σ H0 Rr := fun H0 e Rr k => h H0 e _ fun H1 e1 => ⟨n, rfl, by omega, by omega, by
  rw [Int.toNat_natCast]; exact k H1 e1⟩
theorem rng2 {ta : TA} {m n : Nat} (h : EvA ta σ H [.int m, .int n]) (hm : m ≤ 90000) (hn : n ≤ 90000) : ∀ H0, Ex H H0 → ∀ Rr : It → Hp → Prop, (∀ H1, Ex H0 H1 → Rr (Itr m (n - m)) H1) → iRng2 ta σ H0 Rr := fun H0 e Rr k => h H0 e _ fun H1 e1 => ⟨m, n, rfl, ⟨by omega, by omega, by omega, by omega⟩, by
  have e2 : ((n : Int) - (m : Int)).toNat = n - m := by omega
  rw [e2]; exact k H1 e1⟩
/-- over range(n), no test -/
theorem evc_rng1 {ta : TA} {n : Nat} {j : Nat} {vs : List Nat} (R : Addr → Nat → V → Hp → Prop) (h : EvA ta σ H [.int n]) (hz : n ≤ 90000) (hw : ∀ x, wipe ((wipe σ vs).set j (some x)) vs = wipe σ vs)
    (he : ∀ D (i : Nat) H1, i < n → H D = none → Ex H H1 → (∃ ys, H1 D = some (.lst ys)) → EvR te ((wipe σ vs).set j (some (.int i))) H1 (R D i))
    (hs : ∀ D i v H H', Fx D H H' → (∃ ys, H D = some (.lst ys)) → R D i v H → R D i v H') : EvC (tLc (iRng1 ta) (gName j) tYes te vs) σ H (fun D ys H2 => Outs n (fun _ => true) (R D) ys H2) :=
  evc_rngF (lo := 0) (fun _ => true) R (rng1 h hz) hz hw (fun _ _ _ _ _ _ _ => et_yes) (fun D i H1 a b c d _ => by
    have := he D i H1 a b c d
    rw [Int.zero_add]; exact this) hs
/-- over zip of two lists by two names -/
theorem evc_zip {ta : TA} {a b : Addr} {xs ys : List V} {i0 j0 : Nat} {vs : List Nat} (R : Addr → Nat → V → Hp → Prop) (h : EvA ta σ H [.ref a, .ref b]) (hx : SqL K H a xs) (hy : SqL K H b ys) (hl : xs.length = ys.length) (hz : xs.length ≤ 90000)
    (hw : ∀ x y, wipe (((wipe σ vs).set i0 (some x)).set j0 (some y)) vs = wipe σ vs)
    (he : ∀ D i x y H1, H D = none → Ex H H1 → (∃ ys, H1 D = some (.lst ys)) → xs[i]? = some x → ys[i]? = some y → EvR te (((wipe σ vs).set i0 (some x)).set j0 (some y)) H1 (R D i))
    (hs : ∀ D i v H H', Fx D H H' → (∃ ys, H D = some (.lst ys)) → R D i v H → R D i v H') : EvC (tLc (RZ.iZipA K ta) (gTup K 2 (gCons (gName i0) (gCons (gName j0) gNil))) tYes te vs) σ H (fun D zs H2 => Outs xs.length (fun _ => true) (R D) zs H2) := fun H0 e Q q => h H0 e _ fun H1 e1 =>
  ⟨a, b, xs, ys, rfl, .inl ⟨ex_l (e.trans e1) hx, ex_l (e.trans e1) hy, lc_rel (walk_zip (K := K) (a := a) (b := b) (xs := xs) (ys := ys) (n := xs.length) (by omega)) (fun _ => true) (fun i σ2 _ => ∃ u v, xs[i]? = some u ∧ ys[i]? = some v ∧ σ2 = ((wipe σ vs).set i0 (some u)).set j0 (some v)) R hz
    (fun D H' hD f => ⟨ex_l ((e.trans e1).trans (f.ex hD)) hx, ex_l ((e.trans e1).trans (f.ex hD)) hy⟩)
    (fun D i x H2 H' Qg hi hD f hl y k => by
      obtain ⟨T, u, v, rfl, hT, rfl, h1, h2⟩ := y
      exact g_pair (st_of upd_same) (k _ _ (Ex.new hT) ⟨u, v, h1, h2, rfl⟩))
    (fun i σ2 H2 ⟨u, v, _, _, hσ⟩ => by rw [hσ]; exact hw u v)
    (fun D i σ2 H2 hi hD f hl _ => et_yes)
    (fun D i σ2 H2 hi hf hD f hl ⟨u, v, h1, h2, hσ⟩ => by
      rw [hσ]
      exact he D i u v H2 (fresh_back (e.trans e1) hD) ((e.trans e1).trans (f.ex hD)) hl h1 h2) hs
    (fun D H2 ys hD e2 h2 o => q D H2 ys (fresh_back e1 hD) (e1.trans e2) h2 o)⟩⟩
/-- over enumerate of a list by two names -/
theorem evc_enum {ta : TA} {a : Addr} {xs : List V} {i0 j0 : Nat} {vs : List Nat} (R : Addr → Nat → V → Hp → Prop) (h : EvA ta σ H [.ref a]) (hx : SqL K H a xs) (hz : xs.length ≤ 90000)
    (hw : ∀ x y, wipe (((wipe σ vs).set i0 (some x)).set j0 (some y)) vs = wipe σ vs)
    (he : ∀ D (i : Nat) x H1, H D = none → Ex H H1 → (∃ ys, H1 D = some (.lst ys)) → xs[i]? = some x → EvR te (((wipe σ vs).set i0 (some (.int i))).set j0 (some x)) H1 (R D i))
    (hs : ∀ D i v H H', Fx D H H' → (∃ ys, H D = some (.lst ys)) → R D i v H → R D i v H') : EvC (tLc (iEnum K ta) (gTup K 2 (gCons (gName i0) (gCons (gName j0) gNil))) tYes te vs) σ H (fun D zs H2 => Outs xs.length (fun _ => true) (R D) zs H2) := fun H0 e Q q => h H0 e _ fun H1 e1 =>
  ⟨a, xs, rfl, ex_l (e.trans e1) hx, lc_rel (walk_enum (K := K) (a := a) (xs := xs)) (fun _ => true) (fun i σ2 _ => ∃ v, xs[i]? = some v ∧ σ2 = ((wipe σ vs).set i0 (some (.int i))).set j0 (some v)) R hz
    (fun D H' hD f => ex_l ((e.trans e1).trans (f.ex hD)) hx)
    (fun D i x H2 H' Qg hi hD f hl y k => by
      obtain ⟨T, u, v, rfl, hT, rfl, h1, h2⟩ := y
      cases h1
      exact g_pair (st_of upd_same) (k _ _ (Ex.new hT) ⟨v, h2, rfl⟩))
    (fun i σ2 H2 ⟨v, _, hσ⟩ => by rw [hσ]; exact hw _ v)
    (fun D i σ2 H2 hi hD f hl _ => et_yes)
    (fun D i σ2 H2 hi hf hD f hl ⟨v, h2, hσ⟩ => by
      rw [hσ]
      exact he D i v H2 (fresh_back (e.trans e1) hD) ((e.trans e1).trans (f.ex hD)) hl h2) hs
    (fun D H2 ys hD e2 h2 o => q D H2 ys (fresh_back e1 hD) (e1.trans e2) h2 o)⟩
/-- ints alone -/
theorem evl_map {n : Nat} {v : Nat → V} (h : EvC te σ H (fun D ys H2 => Outs n (fun _ => true) (fun i x _ => x = v i) ys H2)) : EvL te σ H ((List.range n).map v) := evl_c h fun _ _ _ o => outs_map o
end
end PX

/-! tableaus -/
namespace PX
open PySem PySem.Spec PyProof.Rows L2 Evl
open PW (Sz fr)
/-! places in the text -/
def lcSc : Expr → Scope
  | .ListComp _ _ sc _ => sc
  | _ => { kind := .function, names := [], isGenerator := false, isCoroutine := false, more := [] }
def nulE : Expr := .Constant .none 0 ⟨0, 0, 0, 0⟩
def retE : Stmt → Expr
  | .Return (some e) _ => e
  | _ => nulE
def asgE : Stmt → Expr
  | .Assign _ e _ => e
  | _ => nulE
def tupE (i : Nat) : Expr → Expr
  | .Tuple es _ _ => es.getD i nulE
  | _ => nulE
/-- a block's scope within another one's -/
def relS (i o : Scope) : Scope := { i with names := i.names.map fun (n, k) => if (k == .free && o.kind == .function && o.names.lookup n == some .cell) then (n, .cell) else (n, k) }
def stAt (i : Nat) (st : Stmt) : Stmt := (defBody st).getD i (.Pass ⟨0, 0, 0, 0⟩)
def ifSt (i : Nat) : Stmt → Stmt
  | .If _ b _ _ => b.getD i (.Pass ⟨0, 0, 0, 0⟩)
  | _ => .Pass ⟨0, 0, 0, 0⟩
/-! ### tables of whole numbers -/
def rowV (N : Nat → Int) (w : Nat) : List V := (List.range w).map fun c => V.int (N c)
theorem rowV_len (N : Nat → Int) (w : Nat) : (rowV N w).length = w := by simp [rowV]
theorem rowV_at {N : Nat → Int} {w c : Nat} (h : c < w) : (rowV N w)[c]? = some (.int (N c)) := by simp [rowV, h]
theorem rowV_get {N : Nat → Int} {w c : Nat} {x : V} (h : (rowV N w)[c]? = some x) : c < w ∧ x = .int (N c) := by
  have hc : c < w := by
    have := (List.getElem?_eq_some_iff.mp h).1
    rw [rowV_len] at this
    exact this
  rw [rowV_at hc] at h
  exact ⟨hc, (Option.some.inj h).symm⟩
theorem atI_row {N : Nat → Int} {w c : Nat} (h : c < w) : atI (rowV N w) (c : Int) = some (.int (N c)) := atI_nat (rowV_at h)
/-- a list of lists: h rows of w whole numbers; all these lists stand where S -/
def MatA (K : PySem.W.Frag) (S : Addr → Prop) (H : Hp) (R : Addr) (N : Nat → Nat → Int) (h w : Nat) : Prop := S R ∧ ∃ ps : List Addr, SqL K H R (ps.map V.ref) ∧ ps.length = h ∧ ∀ (r : Nat) p, ps[r]? = some p → SqL K H p (rowV (N r) w) ∧ S p
theorem MatA.ex {K : PySem.W.Frag} {S : Addr → Prop} {H H' : Hp} {R : Addr} {N : Nat → Nat → Int} {h w : Nat} (e : Ex H H') (m : MatA K S H R N h w) : MatA K S H' R N h w :=
  let ⟨s, ps, a, b, c⟩ := m; ⟨s, ps, ex_l e a, b, fun r p hp => ⟨ex_l e (c r p hp).1, (c r p hp).2⟩⟩
/-- .. where an object that isn't one of these lists changes -/
theorem MatA.fx {K : PySem.W.Frag} {D : Addr} {H H' : Hp} {R : Addr} {N : Nat → Nat → Int} {h w : Nat} (x : Fx D H H') (m : MatA K (fun a => a ≠ D) H R N h w) : MatA K (fun a => a ≠ D) H' R N h w :=
  let ⟨s, ps, a, b, c⟩ := m; ⟨s, ps, fx_l x s a, b, fun r p hp => ⟨fx_l x (c r p hp).2 (c r p hp).1, (c r p hp).2⟩⟩
theorem MatA.mono {K : PySem.W.Frag} {S S' : Addr → Prop} {H : Hp} {R : Addr} {N : Nat → Nat → Int} {h w : Nat} (m : MatA K S H R N h w) (k : ∀ a, S a → S' a) : MatA K S' H R N h w :=
  let ⟨s, ps, a, b, c⟩ := m; ⟨k _ s, ps, a, b, fun r p hp => ⟨(c r p hp).1, k _ (c r p hp).2⟩⟩
/-- the lists that a comprehension of rows makes -/
def RowR (K : PySem.W.Frag) (S : Addr → Prop) (N : Nat → Nat → Int) (w : Nat) (D : Addr) (r : Nat) (v : V) (H : Hp) : Prop := ∃ p, v = .ref p ∧ p ≠ D ∧ S p ∧ SqL K H p (rowV (N r) w)
theorem mat_of {K : PySem.W.Frag} {S : Addr → Prop} {H : Hp} {D : Addr} {xs : List V} {N : Nat → Nat → Int} {h w : Nat} (hD : H D = some (.lst xs)) (hS : S D)
    (o : Outs h (fun _ => true) (RowR K S N w D) xs H) : MatA K S H D N h w := by
  obtain ⟨h1, h2⟩ := outs_all o
  have ex : ∃ ps : List Addr, xs = ps.map V.ref := by
    clear hD o h1
    have key : ∀ (xs : List V), (∀ v ∈ xs, ∃ p, v = V.ref p) → ∃ ps : List Addr, xs = ps.map V.ref := by
      intro xs
      induction xs with
      | nil => exact fun _ => ⟨[], rfl⟩
      | cons x xs ih =>
        intro h
        obtain ⟨p, e⟩ := h x List.mem_cons_self
        obtain ⟨ps, e2⟩ := ih fun v hv => h v (List.mem_cons_of_mem _ hv)
        exact ⟨p :: ps, by rw [e, e2]; rfl⟩
    refine key xs fun v hv => ?_
    obtain ⟨i, hi⟩ := List.mem_iff_getElem?.mp hv
    obtain ⟨p, e, _⟩ := h2 i v hi
    exact ⟨p, e⟩
  obtain ⟨ps, rfl⟩ := ex
  refine ⟨hS, ps, sq_of hD, by rw [← h1, List.length_map], fun r p hp => ?_⟩
  obtain ⟨q, e, _, s, hq⟩ := h2 r (.ref p) (by rw [List.getElem?_map, hp]; rfl)
  cases e
  exact ⟨hq, s⟩
/-- such a row's being there stays -/
theorem rowR_stab {K : PySem.W.Frag} {S : Addr → Prop} {N : Nat → Nat → Int} {w : Nat} : ∀ (D : Addr) (i : Nat) (v : V) (H H' : Hp), Fx D H H' → (∃ ys, H D = some (.lst ys)) → RowR K S N w D i v H → RowR K S N w D i v H' :=
  fun D i v H H' f _ ⟨p, e, n, s, h⟩ => ⟨p, e, n, s, fx_l f n h⟩
/-- a row just made, as a comprehension's element -/
theorem evr_row {K : PySem.W.Frag} {S : Addr → Prop} {te : TE} {σ : L2.St} {H : Hp} {D : Addr} {N : Nat → Nat → Int} {r w : Nat} (hS : ∀ a, H a = none → S a) (h : EvL te σ H (rowV (N r) w)) (hD : ∃ ys, H D = some (.lst ys)) : EvR te σ H (RowR K S N w D r) := by
  obtain ⟨ys, hD⟩ := hD
  intro H1 e Q k
  refine h H1 e Q fun p H2 hp e2 h2 => k (.ref p) H2 e2 ⟨p, rfl, fun z => ?_, hS p (fresh_back e hp), sq_of h2⟩
  rw [z, e D _ hD] at hp
  cases hp
/-! the greatest number that divides all -/
def gRow (N : Nat → Int) (d : Nat) : Nat → Nat
  | 0 => d
  | k + 1 => Nat.gcd (gRow N d k) (N k).natAbs
def gAll (N : Nat → Nat → Int) (w d : Nat) : Nat → Nat
  | 0 => d
  | r + 1 => gRow (N r) (gAll N w d r) w
theorem gRow_dvd {N : Nat → Int} {d : Nat} : ∀ {k : Nat}, gRow N d k ∣ d ∧ ∀ c, c < k → gRow N d k ∣ (N c).natAbs
  | 0 => ⟨Nat.dvd_refl _, fun c h => absurd h (Nat.not_lt_zero _)⟩
  | k + 1 => by
    obtain ⟨h1, h2⟩ := gRow_dvd (N := N) (d := d) (k := k)
    have a : gRow N d (k + 1) ∣ gRow N d k := Nat.gcd_dvd_left _ _
    have b : gRow N d (k + 1) ∣ (N k).natAbs := Nat.gcd_dvd_right _ _
    refine ⟨Nat.dvd_trans a h1, fun c hc => ?_⟩
    by_cases e : c = k
    · rw [e]; exact b
    · exact Nat.dvd_trans a (h2 c (by omega))
theorem gRow_max {N : Nat → Int} {d e : Nat} (hd : e ∣ d) : ∀ {k : Nat}, (∀ c, c < k → e ∣ (N c).natAbs) → e ∣ gRow N d k
  | 0, _ => hd
  | k + 1, h => Nat.dvd_gcd (gRow_max hd fun c hc => h c (by omega)) (h k (by omega))
theorem gAll_dvd {N : Nat → Nat → Int} {w d : Nat} : ∀ {h : Nat}, gAll N w d h ∣ d ∧ ∀ r, r < h → ∀ c, c < w → gAll N w d h ∣ (N r c).natAbs
  | 0 => ⟨Nat.dvd_refl _, fun c h => absurd h (Nat.not_lt_zero _)⟩
  | h + 1 => by
    obtain ⟨h1, h2⟩ := gAll_dvd (N := N) (w := w) (d := d) (h := h)
    have a := gRow_dvd (N := N h) (d := gAll N w d h) (k := w)
    refine ⟨Nat.dvd_trans a.1 h1, fun r hr c hc => ?_⟩
    by_cases e : r = h
    · rw [e]; exact a.2 c hc
    · exact Nat.dvd_trans a.1 (h2 r (by omega) c hc)
theorem gAll_max {N : Nat → Nat → Int} {w d e : Nat} (hd : e ∣ d) : ∀ {h : Nat}, (∀ r, r < h → ∀ c, c < w → e ∣ (N r c).natAbs) → e ∣ gAll N w d h
  | 0, _ => hd
  | h + 1, k => gRow_max (gAll_max hd fun r hr => k r (by omega)) (k h (by omega))
/-- a table over a scale: a tuple of both -/
def TabA (K : PySem.W.Frag) (S : Addr → Prop) (H : Hp) (v : V) (N : Nat → Nat → Int) (sc : Int) (h w : Nat) : Prop := ∃ t R, v = .ref t ∧ SqT K H t [.ref R, .int sc] ∧ MatA K S H R N h w
theorem TabA.fx {K : PySem.W.Frag} {D : Addr} {H H' : Hp} {v : V} {N : Nat → Nat → Int} {sc : Int} {h w : Nat} (x : Fx D H H') (nt : NT H D) (m : TabA K (fun a => a ≠ D) H v N sc h w) : TabA K (fun a => a ≠ D) H' v N sc h w :=
  let ⟨t, R, a, b, c⟩ := m; ⟨t, R, a, fx_t' x nt b, c.fx x⟩
theorem TabA.mono {K : PySem.W.Frag} {S S' : Addr → Prop} {H : Hp} {v : V} {N : Nat → Nat → Int} {sc : Int} {h w : Nat} (m : TabA K S H v N sc h w) (k : ∀ a, S a → S' a) : TabA K S' H v N sc h w :=
  let ⟨t, R, a, b, c⟩ := m; ⟨t, R, a, b, c.mono k⟩
theorem TabA.ex {K : PySem.W.Frag} {S : Addr → Prop} {H H' : Hp} {v : V} {N : Nat → Nat → Int} {sc : Int} {h w : Nat} (e : Ex H H') (m : TabA K S H v N sc h w) : TabA K S H' v N sc h w :=
  let ⟨t, R, a, b, c⟩ := m; ⟨t, R, a, ex_t e b, c.ex e⟩
/-- over its least scale -/
def Least (N : Nat → Nat → Int) (sc h w : Nat) : Prop := ∀ k : Nat, k ∣ sc → (∀ r, r < h → ∀ c, c < w → (k : Int) ∣ N r c) → k = 1
section
variable {P : Program} {w : World} {K : PySem.W.Frag} {mg : Str → Option Value} {base : Heap}
/-! ### lessened -/
abbrev N_lessened : List Str := ["rows", "scale", "divisor", "row", "number"]
theorem sc_lessened : FnScope N_lessened ["rows", "scale"] (defScope s_lessened) := ⟨rfl, rfl, rfl, by decide +kernel, rfl, by decide +kernel, by decide +kernel⟩
def spLessened (K : PySem.W.Frag) : Sp := fun vs H Q _ => ∃ S R N h wd sc, vs = [.ref R, .int (sc : Nat)] ∧ (∀ a, H a = none → S a) ∧ MatA K S H R N h wd ∧ h ≤ 1000 ∧ wd ≤ 1000 ∧ 0 < sc ∧ sc < 2 ^ 8990 ∧
  ∀ v H' N' sc', Ex H H' → TabA K S H' v N' (sc' : Nat) h wd → 0 < sc' → (∀ r, r < h → ∀ c, c < wd → N r c * (sc' : Int) = N' r c * (sc : Int)) → Least N' sc' h wd → Q v H'
theorem least_div {N : Nat → Nat → Int} {sc h wd : Nat} (s0 : 0 < sc) : 0 < gAll N wd sc h ∧ 0 < sc / gAll N wd sc h ∧ (∀ r, r < h → ∀ c, c < wd → N r c * ((sc / gAll N wd sc h : Nat) : Int) = N r c / (gAll N wd sc h : Nat) * (sc : Int)) ∧ Least (fun r c => N r c / (gAll N wd sc h : Nat)) (sc / gAll N wd sc h) h wd := by
  obtain ⟨h1, h2⟩ := gAll_dvd (N := N) (w := wd) (d := sc) (h := h)
  have g0 : 0 < gAll N wd sc h := Nat.pos_of_dvd_of_pos h1 s0
  obtain ⟨q, hq⟩ := h1
  have q0 : 0 < q := by
    rcases Nat.eq_zero_or_pos q with z | z
    · rw [z] at hq; omega
    · exact z
  have e1 : sc / gAll N wd sc h = q := Nat.div_eq_of_eq_mul_right g0 hq
  refine ⟨g0, by rw [e1]; exact q0, fun r hr c hc => ?_, fun k hk hall => ?_⟩
  · rw [e1]
    obtain ⟨z, hz⟩ := Int.ofNat_dvd_left.mpr (h2 r hr c hc)
    have e2 : N r c / (gAll N wd sc h : Nat) = z := by rw [hz]; exact Int.mul_ediv_cancel_left _ (by omega)
    have e3 : (sc : Int) = (gAll N wd sc h : Nat) * (q : Int) := by
      have := congrArg (fun n : Nat => (n : Int)) hq
      simpa using this
    rw [e2, e3]
    generalize ((gAll N wd sc h : Nat) : Int) = g at hz ⊢
    rw [hz]
    rw [Int.mul_comm g z, Int.mul_assoc]
  · rw [e1] at hk
    have m := gAll_max (N := N) (w := wd) (d := sc) (e := gAll N wd sc h * k) (by have m := Nat.mul_dvd_mul_left (gAll N wd sc h) hk; rwa [← hq] at m) (h := h) fun r hr c hc => by
      obtain ⟨z, hz⟩ := Int.ofNat_dvd_left.mpr (h2 r hr c hc)
      have e2 : N r c / (gAll N wd sc h : Nat) = z := by rw [hz]; exact Int.mul_ediv_cancel_left _ (by omega)
      have d1 : (k : Int) ∣ z := e2 ▸ hall r hr c hc
      have d2 : ((gAll N wd sc h * k : Nat) : Int) ∣ N r c := by
        obtain ⟨y, hy⟩ := d1
        refine ⟨y, ?_⟩
        rw [hz, hy, Int.natCast_mul, Int.mul_assoc]
      exact Int.ofNat_dvd_left.mp d2
    obtain ⟨y, hy⟩ := m
    have : gAll N wd sc h * 1 = gAll N wd sc h * (k * y) := by rw [Nat.mul_one, ← Nat.mul_assoc]; exact hy
    have := Nat.eq_of_mul_eq_mul_left g0 this
    exact Nat.eq_one_of_mul_eq_one_right this.symm
theorem ok_lessened (T : Txt w K mg) : FnOk P w K mg base CX0 2 T.lessened.f T.lessened.fd ["rows", "scale"] (spLessened K) := by
  refine T.lessened.F.ok sc_lessened (fun vs H Q E h => ?_) (fun cdv A outer s H vs Q E hr h => ?_)
  · obtain ⟨S, R, N, h, wd, sc, rfl, _⟩ := h
    rfl
  obtain ⟨S, R, N, h, wd, sc, rfl, hS, hM, hh, hwd, s0, s9, q⟩ := h
  obtain ⟨_, ps, hR, hpl, hrow'⟩ := id hM
  have hrow := fun r p hp => (hrow' r p hp).1
  refine ⟨_, PSs.nox (pss_cons (ps_set (i := 2) sc_lessened.nd rfl (Or.inr rfl) (pv 1))
 (pss_cons (ps_for PassesOwn.never rfl (pi_listK (K := K) rfl (pv 0)) (pg_name (i := 3) sc_lessened.nd rfl (Or.inl rfl))
 (pss_one (ps_for PassesOwn.never rfl (pi_listK (K := K) rfl (pv 3)) (pg_name (i := 4) sc_lessened.nd rfl (Or.inl rfl))
 (pss_one (ps_if (PW.pt (pw_and (pt_cmpR op_gt (pv 2) pe_int (nomark _)) (pw_and1 (pt_cmpR op_ne (pe_op op_modN (pv 4) (pv 2)) pe_int (nomark _))))) (pss_one (ps_set (i := 2) sc_lessened.nd rfl (Or.inr rfl) (pe_call (ok_shared T) (hr.mono (by decide)) rfl T.shared.g T.shared.F.kp (b_shared T) .nil pass0 (pa_cons (pv 2) (pa_cons (pe_callB call_abs (by rfl) T.m_abs (by decide +kernel) (pa_cons (pv 4) pa_nil)) pa_nil))))) pss_nil)))))
 (pss_cons (ps_if (pt_cmpR op_eq (pv 2) pe_int (nomark _)) (pss_one (ps_ret (pe_tup (pa_cons (pv 0) (pa_cons (pv 1) pa_nil))))) pss_nil)
 (pss_one (ps_ret (pe_tup (pa_cons (pe_lc (own := [("row", 3)]) (g := gName 3) (tt := tYes) rfl sc_lessened.nd (pi_listK (K := K) rfl (pv 0)) (blkOk_by (N := N_lessened) (sc := defScope s_lessened) (by decide +kernel))
 (fun _ _ _ _ _ => (pg_name (i := 3) sc_lessened.nd rfl (Or.inl rfl))) (fun _ _ _ _ _ => pts_nil) (fun _ _ _ _ _ => (pe_lc (own := [("number", 4)]) (g := gName 4) (tt := tYes) rfl sc_lessened.nd (pi_listK (K := K) rfl (pv 3)) (blkOk_by (N := N_lessened) (sc := (relS (lcSc (tupE 0 (retE (stAt 3 s_lessened)))) (defScope s_lessened))) (by decide +kernel))
 (fun _ _ _ _ _ => (pg_name (i := 4) sc_lessened.nd rfl (Or.inl rfl))) (fun _ _ _ _ _ => pts_nil) (fun _ _ _ _ _ => (pe_op op_fdivW (pv 4) (pv 2)))))) (pa_cons (pe_op op_fdivW (pv 1) (pv 2)) pa_nil)))))))), ?_⟩
  obtain ⟨g0, q0, qe, ql⟩ := least_div (N := N) (h := h) (wd := wd) s0
  have gle : ∀ r, r ≤ h → ∀ k, k ≤ wd → 0 < gRow (N r) (gAll N wd sc r) k ∧ gRow (N r) (gAll N wd sc r) k ≤ sc := fun r hr k hk => by
    have a := (gRow_dvd (N := N r) (d := gAll N wd sc r) (k := k)).1
    have b := (gAll_dvd (N := N) (w := wd) (d := sc) (h := r)).1
    have c := Nat.dvd_trans a b
    exact ⟨Nat.pos_of_dvd_of_pos c s0, Nat.le_of_dvd s0 c⟩
  refine q_asg (v := .int (sc : Nat)) (ev_var rfl) fun H1 e1 => ?_
  refine q_forLn (a := R) (xs := ps.map V.ref) (ev_var rfl) (ex_l e1 hR) (fun i σ' H' => Ex H H' ∧ ∃ x y, σ' = [some (.ref R), some (.int (sc : Nat)), some (.int (gAll N wd sc i : Nat)), x, y]) (fun H2 e2 => ⟨e1.trans e2, none, none, rfl⟩) (fun i σ' H' _ ⟨e', _⟩ => ex_l e' hR) ?_ ?_
  · rintro i x σ' H' hx ⟨e', x3, x4, rfl⟩
    obtain ⟨p, hp, rfl⟩ : ∃ p, ps[i]? = some p ∧ x = V.ref p := by
      rw [List.getElem?_map] at hx
      cases e : ps[i]? with
      | none => rw [e] at hx; cases hx
      | some p => rw [e] at hx; exact ⟨p, rfl, (Option.some.inj hx).symm⟩
    have hi : i < h := by
      have := (List.getElem?_eq_some_iff.mp hp).1
      omega
    refine s_forLn (a := p) (xs := rowV (N i) wd) (ev_var rfl) (ex_l e' (hrow i p hp)) (fun k σ' H' => Ex H H' ∧ ∃ y, σ' = [some (.ref R), some (.int (sc : Nat)), some (.int (gRow (N i) (gAll N wd sc i) k : Nat)), some (.ref p), y]) (fun H2 e2 => ⟨e'.trans e2, x4, rfl⟩) (fun k σ' H' _ ⟨e', _⟩ => ex_l e' (hrow i p hp)) ?_ ?_
    · rintro k z σ2 H2 hz ⟨e2, y, rfl⟩
      obtain ⟨hk, rfl⟩ := rowV_get hz
      obtain ⟨d0, dl⟩ := gle i (by omega) k (by omega)
      have ne0 : ((gRow (N i) (gAll N wd sc i) k : Nat) : Int) ≠ 0 := by omega
      have step : gRow (N i) (gAll N wd sc i) (k + 1) = Nat.gcd (gRow (N i) (gAll N wd sc i) k) (N i k).natAbs := rfl
      refine s_when (b := decide ((1 : Int) < (gRow (N i) (gAll N wd sc i) k : Nat)) && !decide (V.int ((N i k).fmod (gRow (N i) (gAll N wd sc i) k : Nat)) = V.int 0)) ?_ ?_ ?_
      · exact et_and (et_test (ev_op (ev_var rfl) ev_c rv_I0)) fun _ => et_test (ev_op (ev_op (ev_var rfl) (ev_var rfl) (rv_I ne0)) ev_c (rv_ne rfl))
      · intro hb H3 e3
        refine s_asg (v := .int (Nat.gcd (gRow (N i) (gAll N wd sc i) k) (N i k).natAbs : Nat)) (ev_call (vs := [.int (gRow (N i) (gAll N wd sc i) k : Nat), .int ((N i k).natAbs : Nat)]) (ea_cons (ev_var rfl) (ea_cons (ev_cb (ea_cons (ev_var rfl) ea_nil) (fun H4 e4 Q k4 => ⟨N i k, rfl, ?_⟩)) ea_nil)) (fun H4 e4 Q k4 E => ⟨_, _, rfl, k4 H4 (Ex.refl H4)⟩)) fun H4 e4 => ⟨(e2.trans e3).trans e4, _, rfl⟩
        have a1 : (if N i k < 0 then -N i k else N i k) = ((N i k).natAbs : Int) := by split <;> omega
        rw [a1]
        exact k4 H4 (Ex.refl H4)
      · intro hb H3 e3
        refine ⟨e2.trans e3, some (.int (N i k)), ?_⟩
        have key : gRow (N i) (gAll N wd sc i) (k + 1) = gRow (N i) (gAll N wd sc i) k := by
          rw [step]
          by_cases h1 : (1 : Int) < (gRow (N i) (gAll N wd sc i) k : Nat)
          · rw [decide_eq_true h1, Bool.true_and] at hb
            have h2 : (N i k).fmod (gRow (N i) (gAll N wd sc i) k : Nat) = 0 := by
              have : decide (V.int ((N i k).fmod (gRow (N i) (gAll N wd sc i) k : Nat)) = V.int 0) = true := by
                cases hd : decide (V.int ((N i k).fmod (gRow (N i) (gAll N wd sc i) k : Nat)) = V.int 0) with
                | true => rfl
                | false => rw [hd] at hb; cases hb
              exact V.int.inj (of_decide_eq_true this)
            rw [Int.fmod_eq_emod_of_nonneg _ (by omega)] at h2
            have h3 : ((gRow (N i) (gAll N wd sc i) k : Nat) : Int) ∣ N i k := Int.dvd_of_emod_eq_zero h2
            exact Nat.gcd_eq_left (Int.ofNat_dvd_left.mp h3)
          · have : gRow (N i) (gAll N wd sc i) k = 1 := by omega
            rw [this, Nat.gcd_one_left]
        rw [key]; rfl
    · rintro σ2 H2 ⟨e2, y, rfl⟩
      rw [rowV_len]
      exact ⟨e2, _, _, rfl⟩
  · rintro σ' H' ⟨e', x3, x4, rfl⟩
    rw [List.length_map, hpl]
    have gl2 : gAll N wd sc h ≤ sc := Nat.le_of_dvd s0 (gAll_dvd (N := N) (w := wd) (d := sc) (h := h)).1
    refine q_when (b := decide (V.int (gAll N wd sc h : Nat) = V.int 1)) (et_test (ev_op (ev_var rfl) ev_c (rv_eq rfl))) (fun hb H2 e2 => ?_) (fun hb H2 e2 => ?_)
    · have h1 : gAll N wd sc h = 1 := by
        have := V.int.inj (of_decide_eq_true hb)
        omega
      refine s_retU (xs := [.ref R, .int (sc : Nat)]) (eu_tup (ea_cons (ev_var rfl) (ea_cons (ev_var rfl) ea_nil)) (by show 2 ≤ 100000; decide)) fun p H3 hp e3 h3 => ?_
      refine q _ _ N sc ((e'.trans e2).trans e3) ⟨p, R, rfl, st_of h3, hM.ex ((e'.trans e2).trans e3)⟩ s0 (fun r hr c hc => rfl) ?_
      have e1 : sc / gAll N wd sc h = sc := by rw [h1, Nat.div_one]
      rw [e1, h1] at ql
      intro k hk hall
      exact ql k hk fun r hr c hc => by
        show (k : Int) ∣ N r c / ((1 : Nat) : Int)
        rw [show N r c / ((1 : Nat) : Int) = N r c from Int.ediv_one _]
        exact hall r hr c hc
    · -- the new table
      have cw : ∀ i : Int, CDivW i (gAll N wd sc h : Nat) := fun i => cdivw (b := 8990) (by omega) (by rw [Int.natAbs_natCast]; omega)
      have inner : ∀ D (i : Nat) x H1, H2 D = none → Ex H2 H1 → (∃ ys, H1 D = some (.lst ys)) → (ps.map V.ref)[i]? = some x →
          EvR (tLc (iList K (tVar 3)) (gName 4) tYes (tOp (rI CDivW fun i j => .int (i / j)) (tVar 4) (tVar 2)) [4]) ((wipe [some (.ref R), some (.int (sc : Nat)), some (.int (gAll N wd sc h : Nat)), x3, x4] [3]).set 3 (some x)) H1 (RowR K S (fun i c => N i c / (gAll N wd sc h : Nat)) wd D i) := by
        intro D i x H3 hD e3 hl hx
        obtain ⟨p, hp, rfl⟩ : ∃ p, ps[i]? = some p ∧ x = V.ref p := by
          rw [List.getElem?_map] at hx
          cases e : ps[i]? with
          | none => rw [e] at hx; cases hx
          | some p => rw [e] at hx; exact ⟨p, rfl, (Option.some.inj hx).symm⟩
        refine evr_row (fun a ha => hS a (fresh_back ((e'.trans e2).trans e3) ha)) (evl_map ?_) hl
        have hrw : SqL K H3 p (rowV (N i) wd) := ex_l ((e'.trans e2).trans e3) (hrow i p hp)
        have := evc_list (K := K) (tl := tVar 3) (te := tOp (rI CDivW fun i j => .int (i / j)) (tVar 4) (tVar 2)) (σ := (wipe [some (.ref R), some (.int (sc : Nat)), some (.int (gAll N wd sc h : Nat)), x3, x4] [3]).set 3 (some (.ref p))) (H := H3) (j := 4) (vs := [4])
          (fun _ c v _ => v = .int (N i c / (gAll N wd sc h : Nat))) (ev_var rfl) hrw (by rw [rowV_len]; omega) (fun _ => rfl)
          (fun D' c z H4 _ _ _ hz => by
            obtain ⟨_, rfl⟩ := rowV_get hz
            exact evr_ev (ev_op (ev_var rfl) (ev_var rfl) (rv_I (cw _))) fun _ _ => rfl)
          (fun _ _ _ _ _ _ _ h => h)
        rw [rowV_len] at this
        exact this
      have outer := evc_list (K := K) (H := H2) (RowR K S (fun i c => N i c / (gAll N wd sc h : Nat)) wd) (ev_var (i := 0) rfl) (ex_l (e'.trans e2) hR) (by rw [List.length_map]; omega) (fun _ => rfl) inner
        (rowR_stab (N := fun i c => N i c / (gAll N wd sc h : Nat)))
      refine s_retC2 outer fun Dn H3 xs hDn e3 h3 ho => ⟨_, ev_op (ev_var rfl) (ev_var rfl) (rv_I (cw _)), fun p H4 hp e4 h4 => ?_⟩
      have hm := mat_of (K := K) h3 (hS _ (fresh_back (e'.trans e2) hDn)) (by rw [List.length_map, hpl] at ho; exact ho)
      refine q _ _ (fun r c => N r c / (gAll N wd sc h : Nat)) (sc / gAll N wd sc h) (((e'.trans e2).trans e3).trans e4) ⟨p, Dn, rfl, ?_, hm.ex e4⟩ q0 qe ql
      have e5 : ((sc / gAll N wd sc h : Nat) : Int) = (sc : Int) / (gAll N wd sc h : Nat) := Int.natCast_ediv _ _
      rw [e5]
      exact st_of h4
end
end PX

/-! a table turned -/
namespace PX
open PySem PySem.Spec PyProof.Rows L2 Evl
open PW (Sz fr)
def trow (N : Nat → Nat → Int) (sc : Int) (a s r c : Nat) : Int := if r = a then N a c * sc else N r c * N a s - N r s * N a c
section
variable {P : Program} {w : World} {K : PySem.W.Frag} {mg : Str → Option Value} {base : Heap}
/-- an item of a table -/
theorem ev_at {σ : L2.St} {H : Hp} {te : TE} {R p : Addr} {N : Nat → Nat → Int} {w : Nat} {ps : List Addr} {ta tb : TE} {r c : Nat} (hR : SqL K H R (ps.map V.ref)) (hp : ps[r]? = some p) (hrow : SqL K H p (rowV (N r) w)) (hc : c < w)
    (h0 : Ev te σ H (.ref R)) (h1 : Ev ta σ H (.int (r : Nat))) (h2 : Ev tb σ H (.int (c : Nat))) : Ev (tOp (rIxL K) (tOp (rIxL K) te ta) tb) σ H (.int (N r c)) :=
  ev_op (ev_op h0 h1 (rv_ixL hR (atI_nat (by rw [List.getElem?_map, hp]; rfl)))) h2 (rv_ixL hrow (atI_row hc))
theorem ev_rowAt {σ : L2.St} {H : Hp} {te : TE} {R p : Addr} {ps : List Addr} {ta : TE} {r : Nat} (hR : SqL K H R (ps.map V.ref)) (hp : ps[r]? = some p) (h0 : Ev te σ H (.ref R)) (h1 : Ev ta σ H (.int (r : Nat))) : Ev (tOp (rIxL K) te ta) σ H (.ref p) :=
  ev_op h0 h1 (rv_ixL hR (atI_nat (by rw [List.getElem?_map, hp]; rfl)))
abbrev N_turned_row : List Str := ["rows", "scale", "at", "column", "here", "number", "here_number", "other"]
theorem sc_turned_row : FnScope N_turned_row ["rows", "scale", "at", "column", "here"] (defScope s_turned_row) := ⟨rfl, rfl, rfl, by decide +kernel, rfl, by decide +kernel, by decide +kernel⟩
def spTurnedRow (K : PySem.W.Frag) : Sp := fun vs H Q _ => ∃ (S : Addr → Prop) (R : Addr) (N : Nat → Nat → Int) (h wd : Nat) (sc : Int) (a s r : Nat), vs = [.ref R, .int sc, .int (a : Nat), .int (s : Nat), .int (r : Nat)] ∧ MatA K S H R N h wd ∧ wd ≤ 1000 ∧ a < h ∧ s < wd ∧ r < h ∧
  sc.natAbs < 2 ^ 4400 ∧ (∀ r, r < h → ∀ c, c < wd → (N r c).natAbs < 2 ^ 4400) ∧ RetL (rowV (trow N sc a s r) wd) H Q
theorem ok_turned_row (T : Txt w K mg) : FnOk P w K mg base CX0 1 T.turned_row.f T.turned_row.fd ["rows", "scale", "at", "column", "here"] (spTurnedRow K) := by
  refine T.turned_row.F.ok sc_turned_row (fun vs H Q E h => ?_) (fun cdv A outer s H vs Q E hr h => ?_)
  · obtain ⟨S, R, N, h, wd, sc, a, s, r, rfl, _⟩ := h
    rfl
  obtain ⟨S, R, N, h, wd, sc, a, s, r, rfl, ⟨_, ps, hR, hpl, hrow⟩, hwd, ha, hs, hr', z1, z2, q⟩ := h
  obtain ⟨pa, hpa⟩ : ∃ p, ps[a]? = some p := ⟨ps[a], List.getElem?_eq_getElem (by omega)⟩
  obtain ⟨pr, hpr⟩ : ∃ p, ps[r]? = some p := ⟨ps[r], List.getElem?_eq_getElem (by omega)⟩
  have ra := (hrow a pa hpa).1
  have rr := (hrow r pr hpr).1
  refine ⟨_, PSs.nox (pss_cons (ps_if (pt_cmpR op_eq (pv 4) (pv 2) (nomark _)) (pss_one (ps_ret (pe_lc (own := [("number", 5)]) (g := gName 5) (tt := tYes) rfl sc_turned_row.nd (pi_listK (K := K) rfl (pe_ix (ix_listK (K := K) rfl) (pv 0) (pv 2) (fun _ _ => rfl))) (blkOk_by (N := N_turned_row) (sc := defScope s_turned_row) (by decide +kernel))
 (fun _ _ _ _ _ => (pg_name (i := 5) sc_turned_row.nd rfl (Or.inl rfl))) (fun _ _ _ _ _ => pts_nil) (fun _ _ _ _ _ => (pe_op op_mulW (pv 5) (pv 1)))))) pss_nil)
 (pss_cons (ps_set (i := 6) sc_turned_row.nd rfl (Or.inr rfl) (pe_ix (ix_listK (K := K) rfl) (pe_ix (ix_listK (K := K) rfl) (pv 0) (pv 4) (fun _ _ => rfl)) (pv 3) (fun _ _ => rfl)))
 (pss_cons (ps_if (pt_cmpR op_eq (pv 6) pe_int (nomark _)) (pss_one (ps_ret (pe_lc (own := [("number", 5)]) (g := gName 5) (tt := tYes) rfl sc_turned_row.nd (pi_listK (K := K) rfl (pe_ix (ix_listK (K := K) rfl) (pv 0) (pv 4) (fun _ _ => rfl))) (blkOk_by (N := N_turned_row) (sc := defScope s_turned_row) (by decide +kernel))
 (fun _ _ _ _ _ => (pg_name (i := 5) sc_turned_row.nd rfl (Or.inl rfl))) (fun _ _ _ _ _ => pts_nil) (fun _ _ _ _ _ => (pe_op op_mulW (pv 5) (pe_ix (ix_listK (K := K) rfl) (pe_ix (ix_listK (K := K) rfl) (pv 0) (pv 2) (fun _ _ => rfl)) (pv 3) (fun _ _ => rfl))))))) pss_nil)
 (pss_one (ps_ret (pe_lc (own := [("number", 5), ("other", 7)]) (g := gTup K 2 (gCons (gName 5) (gCons (gName 7) gNil))) (tt := tYes) rfl sc_turned_row.nd (RZ.pi_zipA (by rfl) T.m_zip (pa_cons (pe_ix (ix_listK (K := K) rfl) (pv 0) (pv 4) (fun _ _ => rfl)) (pa_cons (pe_ix (ix_listK (K := K) rfl) (pv 0) (pv 2) (fun _ _ => rfl)) pa_nil))) (blkOk_by (N := N_turned_row) (sc := defScope s_turned_row) (by decide +kernel))
 (fun _ _ _ _ _ => (pg_tupK (n := 2) (K := K) rfl rfl (pgs_cons (pg_name (i := 5) sc_turned_row.nd rfl (Or.inl rfl)) (pgs_cons (pg_name (i := 7) sc_turned_row.nd rfl (Or.inl rfl)) pgs_nil)))) (fun _ _ _ _ _ => pts_nil) (fun _ _ _ _ _ => (pe_op op_sub (pe_op op_mulW (pv 5) (pe_ix (ix_listK (K := K) rfl) (pe_ix (ix_listK (K := K) rfl) (pv 0) (pv 2) (fun _ _ => rfl)) (pv 3) (fun _ _ => rfl))) (pe_op op_mulW (pv 6) (pv 7)))))))))), ?_⟩
  refine q_when (b := decide (V.int (r : Nat) = V.int (a : Nat))) (et_test (ev_op (ev_var rfl) (ev_var rfl) (rv_eq rfl))) (fun hb H1 e1 => ?_) (fun hb H1 e1 => ?_)
  · have era : r = a := by
      have := V.int.inj (of_decide_eq_true hb)
      omega
    subst era
    refine s_retL (xs := rowV (trow N sc r s r) wd) (evl_map ?_) fun p H2 hp e2 h2 => q p H2 (fresh_back e1 hp) (e1.trans e2) h2
    have := evc_list (K := K) (te := tOp (rI CMulW fun i j => .int (i * j)) (tVar 5) (tVar 1)) (H := H1) (j := 5) (vs := [5])
      (σ := [some (.ref R), some (.int sc), some (.int (r : Nat)), some (.int (s : Nat)), some (.int (r : Nat)), none, none, none])
      (fun _ c v _ => v = .int (trow N sc r s r c)) (ev_rowAt (ex_l e1 hR) hpa (ev_var (i := 0) rfl) (ev_var (i := 2) rfl)) (ex_l e1 ra) (by rw [rowV_len]; omega) (fun _ => rfl)
      (fun D' c z H4 _ _ _ hz => by
        obtain ⟨hc, rfl⟩ := rowV_get hz
        refine evr_ev (ev_op (ev_var rfl) (ev_var rfl) (rv_I (cmulw (z2 r hr' c hc) z1))) fun _ _ => ?_
        show _ = V.int (if r = r then N r c * sc else _)
        rw [if_pos rfl])
      (fun _ _ _ _ _ _ _ h => h)
    rw [rowV_len] at this
    exact this
  · have nra : r ≠ a := fun z => by
      subst z
      rw [decide_eq_true rfl] at hb
      cases hb
    refine q_asg (v := .int (N r s)) (ev_at (N := N) (ex_l e1 hR) hpr (ex_l e1 rr) hs (ev_var rfl) (ev_var rfl) (ev_var rfl)) fun H2 e2 => ?_
    have e12 := e1.trans e2
    refine q_when (b := decide (V.int (N r s) = V.int 0)) (et_test (ev_op (ev_var rfl) ev_c (rv_eq rfl))) (fun hb H3 e3 => ?_) (fun hb H3 e3 => ?_)
    · have h0 : N r s = 0 := V.int.inj (of_decide_eq_true hb)
      have e13 := e12.trans e3
      refine s_retL (xs := rowV (trow N sc a s r) wd) (evl_map ?_) fun p H2 hp e2 h2 => q p H2 (fresh_back e13 hp) (e13.trans e2) h2
      have := evc_list (K := K) (te := tOp (rI CMulW fun i j => .int (i * j)) (tVar 5) (tOp (rIxL K) (tOp (rIxL K) (tVar 0) (tVar 2)) (tVar 3))) (H := H3) (j := 5) (vs := [5])
        (σ := [some (.ref R), some (.int sc), some (.int (a : Nat)), some (.int (s : Nat)), some (.int (r : Nat)), none, some (.int (N r s)), none])
        (fun _ c v _ => v = .int (trow N sc a s r c)) (ev_rowAt (ex_l e13 hR) hpr (ev_var (i := 0) rfl) (ev_var (i := 4) rfl)) (ex_l e13 rr) (by rw [rowV_len]; omega) (fun _ => rfl)
        (fun D' c z H4 _ e4 _ hz => by
          obtain ⟨hc, rfl⟩ := rowV_get hz
          refine evr_ev (ev_op (ev_var rfl) (ev_at (N := N) (ex_l (e13.trans e4) hR) hpa (ex_l (e13.trans e4) ra) hs (ev_var rfl) (ev_var rfl) (ev_var rfl)) (rv_I (cmulw (z2 r hr' c hc) (z2 a ha s hs)))) fun _ _ => ?_
          show _ = V.int (if r = a then _ else N r c * N a s - N r s * N a c)
          rw [if_neg nra, h0, Int.zero_mul, Int.sub_zero])
        (fun _ _ _ _ _ _ _ h => h)
      rw [rowV_len] at this
      exact this
    · have e13 := e12.trans e3
      refine s_retL (xs := rowV (trow N sc a s r) wd) (evl_map ?_) fun p H2 hp e2 h2 => q p H2 (fresh_back e13 hp) (e13.trans e2) h2
      have := evc_zip (K := K) (te := tOp (rI0 fun i j => .int (i - j)) (tOp (rI CMulW fun i j => .int (i * j)) (tVar 5) (tOp (rIxL K) (tOp (rIxL K) (tVar 0) (tVar 2)) (tVar 3))) (tOp (rI CMulW fun i j => .int (i * j)) (tVar 6) (tVar 7))) (H := H3) (i0 := 5) (j0 := 7) (vs := [5, 7])
        (σ := [some (.ref R), some (.int sc), some (.int (a : Nat)), some (.int (s : Nat)), some (.int (r : Nat)), none, some (.int (N r s)), none])
        (fun _ c v _ => v = .int (trow N sc a s r c)) (ea_cons (ev_rowAt (ex_l e13 hR) hpr (ev_var (i := 0) rfl) (ev_var (i := 4) rfl)) (ea_cons (ev_rowAt (ex_l e13 hR) hpa (ev_var (i := 0) rfl) (ev_var (i := 2) rfl)) ea_nil)) (ex_l e13 rr) (ex_l e13 ra) (by rw [rowV_len, rowV_len]) (by rw [rowV_len]; omega) (fun _ _ => rfl)
        (fun D' c x y H4 _ e4 _ hx hy => by
          obtain ⟨hc, rfl⟩ := rowV_get hx
          obtain ⟨_, rfl⟩ := rowV_get hy
          refine evr_ev (ev_op (ev_op (ev_var rfl) (ev_at (N := N) (ex_l (e13.trans e4) hR) hpa (ex_l (e13.trans e4) ra) hs (ev_var rfl) (ev_var rfl) (ev_var rfl)) (rv_I (cmulw (z2 r hr' c hc) (z2 a ha s hs)))) (ev_op (ev_var rfl) (ev_var rfl) (rv_I (cmulw (z2 r hr' s hs) (z2 a ha c hc)))) rv_I0) fun _ _ => ?_
          show _ = V.int (if r = a then _ else N r c * N a s - N r s * N a c)
          rw [if_neg nra])
        (fun _ _ _ _ _ _ _ h => h)
      rw [rowV_len] at this
      exact this
/-! ### value -/
abbrev N_value : List Str := ["tableau", "at", "column"]
theorem sc_value : FnScope N_value ["tableau", "at", "column"] (defScope s_value) := ⟨rfl, rfl, rfl, by decide +kernel, rfl, by decide +kernel, by decide +kernel⟩
def spValue (K : PySem.W.Frag) : Sp := fun vs H Q _ => ∃ S v N sc h wd a c, vs = [v, .int (a : Nat), .int (c : Nat)] ∧ TabA K S H v N (sc : Nat) h wd ∧ a < h ∧ c < wd ∧ 0 < sc ∧ sc < 2 ^ 4400 ∧ ∀ v H', Ex H H' → FrA K H' v (fr (N a c) (sc : Nat)) → Q v H'
theorem ok_value (T : Txt w K mg) : FnOk P w K mg base CX0 3 T.value.f T.value.fd ["tableau", "at", "column"] (spValue K) := by
  refine T.value.F.ok sc_value (fun vs H Q E h => ?_) (fun cdv A outer s H vs Q E hr h => ?_)
  · obtain ⟨S, v, N, sc, h, wd, a, c, rfl, _⟩ := h
    rfl
  obtain ⟨S, v, N, sc, h, wd, a, c, rfl, ⟨t, R, rfl, ht, _, ps, hR, hpl, hrow⟩, ha, hc, s0, s9, q⟩ := h
  obtain ⟨pa, hpa⟩ : ∃ p, ps[a]? = some p := ⟨ps[a], List.getElem?_eq_getElem (by omega)⟩
  refine ⟨_, PSs.nox (pss_one (ps_ret (pe_call (ok_fraction T) (hr.mono (by decide)) rfl T.fraction.g T.fraction.F.kp (b_fraction T) .nil pass0 (pa_cons (pe_ix (ix_listK (K := K) rfl) (pe_ix (ix_listK (K := K) rfl) (pe_ix (ix_tupK (K := K) rfl) (pv 0) pe_int (fun _ _ => rfl)) (pv 1) (fun _ _ => rfl)) (pv 2) (fun _ _ => rfl)) (pa_cons (pe_ix (ix_tupK (K := K) rfl) (pv 0) pe_int (fun _ _ => rfl)) pa_nil))))), ?_⟩
  exact s_retF (frac_of (ev_at (N := N) hR hpa (hrow a pa hpa).1 hc (ev_item rfl ht rfl) (ev_var rfl) (ev_var rfl)) (ev_item rfl ht rfl) (by omega) (by rw [Int.natAbs_natCast]; exact Nat.lt_of_lt_of_le s9 (Nat.pow_le_pow_right (by omega) (by omega)))) q
/-! ### pivoted -/
abbrev N_pivoted : List Str := ["tableau", "at", "column", "rows", "scale", "found", "here", "whole", "number", "row"]
theorem sc_pivoted : FnScope N_pivoted ["tableau", "at", "column"] (defScope s_pivoted) := ⟨rfl, rfl, rfl, by decide +kernel, rfl, by decide +kernel, by decide +kernel⟩
def spPivoted (K : PySem.W.Frag) : Sp := fun vs H Q _ => ∃ S v N sc h wd a s, vs = [v, .int (a : Nat), .int (s : Nat)] ∧ (∀ a, H a = none → S a) ∧ TabA K S H v N (sc : Nat) h wd ∧ h ≤ 1000 ∧ wd ≤ 1000 ∧ a < h ∧ s < wd ∧ 0 < sc ∧ sc < 2 ^ 4400 ∧ (∀ r, r < h → ∀ c, c < wd → (N r c).natAbs < 2 ^ 4400) ∧ N a s ≠ 0 ∧
  ∀ v' H' N' sc', Ex H H' → TabA K S H' v' N' (sc' : Nat) h wd → 0 < sc' → (∀ r, r < h → ∀ c, c < wd → (N' r c : Rat) / (sc' : Rat) = (trow N sc a s r c : Rat) / (((sc : Int) * N a s : Int) : Rat)) → Least N' sc' h wd → Q v' H'
theorem ok_pivoted (T : Txt w K mg) : FnOk P w K mg base CX0 3 T.pivoted.f T.pivoted.fd ["tableau", "at", "column"] (spPivoted K) := by
  refine T.pivoted.F.ok sc_pivoted (fun vs H Q E h => ?_) (fun cdv A outer s H vs Q E hr h => ?_)
  · obtain ⟨S, v, N, sc, h, wd, a, s, rfl, _⟩ := h
    rfl
  obtain ⟨S, v, N, sc, h, wd, a, s, rfl, hS, ⟨t, R, rfl, ht, hM⟩, hh, hwd, ha, hs, s0, s9, z, nz, q⟩ := h
  obtain ⟨_, ps, hR, hpl, hrow⟩ := id hM
  obtain ⟨pa, hpa⟩ : ∃ p, ps[a]? = some p := ⟨ps[a], List.getElem?_eq_getElem (by omega)⟩
  have ra := (hrow a pa hpa).1
  have zsc : ((sc : Nat) : Int).natAbs < 2 ^ 4400 := by rw [Int.natAbs_natCast]; exact s9
  refine ⟨_, PSs.nox (pss_cons (ps_asg (pv 0) (pg_tupK (n := 2) (K := K) rfl rfl (pgs_cons (pg_name (i := 3) sc_pivoted.nd rfl (Or.inr rfl)) (pgs_cons (pg_name (i := 4) sc_pivoted.nd rfl (Or.inr rfl)) pgs_nil))))
 (pss_cons (ps_setLc (i := 5) (own := [("here", 6)]) (g := gName 6) (tt := tYes) rfl sc_pivoted.nd rfl rfl (sw_true rfl rfl rfl (by decide +kernel)) (pi_range1 (by rfl) T.m_range (pa_cons (pe_callB (call_lenK (K := K) rfl) (by rfl) T.m_len PySem.boot_len (pa_cons (pv 3) pa_nil)) pa_nil)) (blkOk_by (N := N_pivoted) (sc := defScope s_pivoted) (by decide +kernel))
 (fun _ _ _ _ _ => (pg_name (i := 6) sc_pivoted.nd rfl (Or.inl rfl))) (fun _ _ _ _ _ => pts_nil) (fun _ _ _ _ _ => (pe_call (ok_turned_row T) (hr.mono (by decide)) rfl T.turned_row.g T.turned_row.F.kp (b_turned_row T) .nil pass0 (pa_cons (pv 3) (pa_cons (pv 4) (pa_cons (pv 1) (pa_cons (pv 2) (pa_cons (pv 6) pa_nil))))))))
 (pss_cons (ps_set (i := 7) sc_pivoted.nd rfl (Or.inl rfl) (pe_op op_mulW (pv 4) (pe_ix (ix_listK (K := K) rfl) (pe_ix (ix_listK (K := K) rfl) (pv 3) (pv 1) (fun _ _ => rfl)) (pv 2) (fun _ _ => rfl))))
 (pss_cons (ps_if (pt_cmpR op_lt (pv 7) pe_int (nomark _)) (pss_one (ps_setLc (i := 5) (own := [("row", 9)]) (g := gName 9) (tt := tYes) rfl sc_pivoted.nd rfl rfl (sw_true rfl rfl rfl (by decide +kernel)) (pi_listK (K := K) rfl (pv 5)) (blkOk_by (N := N_pivoted) (sc := defScope s_pivoted) (by decide +kernel))
 (fun _ _ _ _ _ => (pg_name (i := 9) sc_pivoted.nd rfl (Or.inl rfl))) (fun _ _ _ _ _ => pts_nil) (fun _ _ _ _ _ => (pe_lc (own := [("number", 8)]) (g := gName 8) (tt := tYes) rfl sc_pivoted.nd (pi_listK (K := K) rfl (pv 9)) (blkOk_by (N := N_pivoted) (sc := (relS (lcSc (asgE (ifSt 0 (stAt 3 s_pivoted)))) (defScope s_pivoted))) (by decide +kernel))
 (fun _ _ _ _ _ => (pg_name (i := 8) sc_pivoted.nd rfl (Or.inl rfl))) (fun _ _ _ _ _ => pts_nil) (fun _ _ _ _ _ => (pe_op op_sub pe_int (pv 8))))))) pss_nil)
 (pss_one (ps_ret (pe_call (ok_lessened T) (hr.mono (by decide)) rfl T.lessened.g T.lessened.F.kp (b_lessened T) .nil pass0 (pa_cons (pv 5) (pa_cons (pe_callB call_abs (by rfl) T.m_abs (by decide +kernel) (pa_cons (pv 7) pa_nil)) pa_nil))))))))), ?_⟩
  -- rows, scale = tableau
  refine ⟨_, rfl, g_pair ht ?_⟩
  -- found = [..]
  refine q_asgC (evc_rng1 (RowR K S (trow N sc a s) wd) (n := h) (ea_cons (ev_cb (z := .int (h : Nat)) (ea_cons (ev_var rfl) ea_nil) (fun H1 e Q k => ⟨R, ps.map V.ref, rfl, .inl (ex_l e hR), by
      rw [List.length_map, hpl]; exact k H1 (Ex.refl H1)⟩)) ea_nil) (by omega) (fun _ => rfl)
    (fun D r H1 hr1 hD e1 hl => evr_row (fun a ha => hS a (fresh_back e1 ha)) (el_call (ea_cons (ev_var rfl) (ea_cons (ev_var rfl) (ea_cons (ev_var rfl) (ea_cons (ev_var rfl) (ea_cons (ev_var rfl) ea_nil))))) fun H2 e2 Q k E => ⟨S, R, N, h, wd, sc, a, s, r, rfl, hM.ex (e1.trans e2), hwd, ha, hs, hr1, zsc, z, fun p H3 hp e3 h3 => k p H3 hp e3 h3⟩) hl)
    (rowR_stab (N := trow N sc a s))) fun F H1 xs hF e1 h1 o1 => ?_
  have m1 := mat_of (K := K) h1 (hS _ hF) o1
  -- whole
  refine q_asg (v := .int ((sc : Int) * N a s)) (ev_op (ev_var rfl) (ev_at (N := N) (ex_l e1 hR) hpa (ex_l e1 ra) hs (ev_var rfl) (ev_var rfl) (ev_var rfl)) (rv_I (cmulw zsc (z a ha s hs)))) fun H2 e2 => ?_
  have e12 := e1.trans e2
  have wz : (sc : Int) * N a s ≠ 0 := Int.mul_ne_zero (by omega) nz
  have wl : ((sc : Int) * N a s).natAbs < 2 ^ 8990 := Nat.lt_of_lt_of_le (PW.mul_lt zsc (z a ha s hs)) (Nat.pow_le_pow_right (by omega) (by omega))
  -- the end, once the sign is right
  have fin : ∀ (F : Addr) (N1 : Nat → Nat → Int) (σ : L2.St) (H3 : Hp), Ex H H3 → σ[5]? = some (some (.ref F)) → σ[7]? = some (some (.int ((sc : Int) * N a s))) → MatA K S H3 F N1 h wd →
      (∀ r, r < h → ∀ c, c < wd → (N1 r c : Rat) / (((((sc : Int) * N a s).natAbs : Nat) : Int) : Rat) = (trow N sc a s r c : Rat) / (((sc : Int) * N a s : Int) : Rat)) →
      tRet (tCall (spLessened K) [] (fun _ _ _ => False) (tCons (tVar 5) (tCons (tCB (fun xs H Q => ∃ i, xs = [V.int i] ∧ Q (.int (if i < 0 then -i else i)) H) (tCons (tVar 7) tNil)) tNil))) { nx := fun _ H' => Q .non H', rt := Q } σ H3 := by
    intro F N1 σ H3 e3 h5 h7 m3 hN
    refine ⟨_, h5, _, h7, _, rfl, S, F, N1, h, wd, ((sc : Int) * N a s).natAbs, ?_, fun b hb => hS b (fresh_back e3 hb), m3, hh, hwd, by omega, wl, fun v' H' N' sc' e' t' s' eq' l' => ?_⟩
    · have a1 : (if (sc : Int) * N a s < 0 then -((sc : Int) * N a s) else (sc : Int) * N a s) = ((((sc : Int) * N a s).natAbs : Nat) : Int) := by split <;> omega
      show [V.ref F, V.int (if (sc : Int) * N a s < 0 then -((sc : Int) * N a s) else (sc : Int) * N a s)] = _
      rw [a1]
    · refine q v' H' N' sc' (e3.trans e') t' s' (fun r hr c hc => ?_) l'
      rw [← hN r hr c hc]
      have e4 := eq' r hr c hc
      have n1 : ((sc' : Nat) : Rat) ≠ 0 := PW.nat_ne s'
      have n2 : (((((sc : Int) * N a s).natAbs : Nat) : Int) : Rat) ≠ 0 := PW.int_ne (by omega)
      have e5 : (N1 r c : Rat) * (((sc' : Nat) : Int) : Rat) = (N' r c : Rat) * (((((sc : Int) * N a s).natAbs : Nat) : Int) : Rat) := by
        rw [← Rat.intCast_mul, ← Rat.intCast_mul, e4]
      have c1 : (((sc' : Nat) : Int) : Rat) = ((sc' : Nat) : Rat) := rfl
      rw [c1] at e5
      grind
  refine q_when (b := decide ((sc : Int) * N a s < 0)) (et_test (ev_op (ev_var rfl) ev_c rv_I0)) (fun hb H3 e3 => ?_) (fun hb H3 e3 => ?_)
  · have neg := of_decide_eq_true hb
    have e13 := e12.trans e3
    obtain ⟨_, ps1, hF1, hpl1, hrow1⟩ := m1.ex (e2.trans e3)
    refine s_asgC (evc_list (K := K) (RowR K S (fun r c => 0 - trow N sc a s r c) wd) (ev_var rfl) hF1 (by rw [List.length_map]; omega) (fun _ => rfl)
      (fun D r x H4 hD e4 hl hx => by
        obtain ⟨p, hp, rfl⟩ : ∃ p, ps1[r]? = some p ∧ x = V.ref p := by
          rw [List.getElem?_map] at hx
          cases e : ps1[r]? with
          | none => rw [e] at hx; cases hx
          | some p => rw [e] at hx; exact ⟨p, rfl, (Option.some.inj hx).symm⟩
        refine evr_row (fun a ha => hS a (fresh_back (e13.trans e4) ha)) (evl_map ?_) hl
        have := evc_list (K := K) (tl := tVar 9) (te := tOp (rI0 fun i j => .int (i - j)) (tC (.int 0)) (tVar 8)) (σ := (wipe [some (.ref t), some (.int (a : Nat)), some (.int (s : Nat)), some (.ref R), some (.int (sc : Nat)), some (.ref F), none, some (.int ((sc : Int) * N a s)), none, none] [9]).set 9 (some (.ref p))) (H := H4) (j := 8) (vs := [8])
          (fun _ c v _ => v = .int (0 - trow N sc a s r c)) (ev_var rfl) (ex_l e4 (hrow1 r p hp).1) (by rw [rowV_len]; omega) (fun _ => rfl)
          (fun D' c z H5 _ _ _ hz => by
            obtain ⟨_, rfl⟩ := rowV_get hz
            exact evr_ev (ev_op ev_c (ev_var rfl) rv_I0) fun _ _ => rfl)
          (fun _ _ _ _ _ _ _ h => h)
        rw [rowV_len] at this
        exact this)
      (rowR_stab (N := fun r c => 0 - trow N sc a s r c))) fun G H4 xs4 hG e4 h4 o4 => ?_
    rw [List.length_map, hpl1] at o4
    refine fin G (fun r c => 0 - trow N sc a s r c) _ H4 (e13.trans e4) rfl rfl (mat_of (K := K) h4 (hS _ (fresh_back e13 hG)) o4) fun r hr c hc => ?_
    have e6 : (((((sc : Int) * N a s).natAbs : Nat) : Int)) = -((sc : Int) * N a s) := by omega
    rw [e6, Rat.intCast_sub, Rat.intCast_neg]
    have n2 : (((sc : Int) * N a s : Int) : Rat) ≠ 0 := fun zz => wz (by
      have : (((sc : Int) * N a s : Int) : Rat) = ((0 : Int) : Rat) := zz
      exact Rat.intCast_inj.mp this)
    have n3 : -(((sc : Int) * N a s : Int) : Rat) ≠ 0 := by grind
    have c0 : ((0 : Int) : Rat) = 0 := rfl
    rw [c0]
    grind
  · have pos : ¬ (sc : Int) * N a s < 0 := fun z => by
      rw [decide_eq_true z] at hb
      cases hb
    refine fin F (trow N sc a s) _ H3 (e12.trans e3) rfl rfl (m1.ex (e2.trans e3)) fun r hr c hc => ?_
    have e6 : (((((sc : Int) * N a s).natAbs : Nat) : Int)) = (sc : Int) * N a s := by omega
    rw [e6]
end
end PX

/-! plans, frames -/
namespace PX
open PySem PySem.Spec PyProof.Rows L2 Evl
open PW (Sz fr)
/-! ### lists of things -/
theorem map_ref_at {ps : List Addr} {i : Nat} {x : V} (h : (ps.map V.ref)[i]? = some x) : ∃ p, ps[i]? = some p ∧ x = V.ref p := by
  rw [List.getElem?_map] at h
  obtain ⟨p, e, z⟩ := Option.map_eq_some_iff.mp h
  exact ⟨p, e, z.symm⟩
theorem at_map_ref {ps : List Addr} {i : Nat} {p : Addr} (h : ps[i]? = some p) : (ps.map V.ref)[i]? = some (V.ref p) := by rw [List.getElem?_map, h]; rfl
theorem get_lt {α : Type} {xs : List α} {i : Nat} {x : α} (h : xs[i]? = some x) : i < xs.length := (List.getElem?_eq_some_iff.mp h).1
theorem get_of_lt {α : Type} {xs : List α} {i : Nat} (h : i < xs.length) : ∃ x, xs[i]? = some x := ⟨xs[i], List.getElem?_eq_getElem h⟩
theorem refs_of {xs : List V} (h : ∀ (i : Nat) v, xs[i]? = some v → ∃ p, v = V.ref p) : ∃ ps : List Addr, xs = ps.map V.ref := by
  have key : ∀ (xs : List V), (∀ v ∈ xs, ∃ p, v = V.ref p) → ∃ ps : List Addr, xs = ps.map V.ref := by
    intro xs
    induction xs with
    | nil => exact fun _ => ⟨[], rfl⟩
    | cons x xs ih =>
      intro h
      obtain ⟨p, e⟩ := h x List.mem_cons_self
      obtain ⟨ps, e2⟩ := ih fun v hv => h v (List.mem_cons_of_mem _ hv)
      exact ⟨p :: ps, by rw [e, e2]; rfl⟩
  refine key xs fun v hv => ?_
  obtain ⟨i, hi⟩ := List.mem_iff_getElem?.mp hv
  exact h i v hi
/-- pairs of a number and a fraction -/
def PairsQ (Sq : PySem.W.Frag → Hp → Addr → List V → Prop) (K : PySem.W.Frag) (H : Hp) (p : Addr) (ps : List (Nat × Rat)) : Prop :=
  ∃ qs : List Addr, Sq K H p (qs.map V.ref) ∧ qs.length = ps.length ∧ ∀ (i : Nat) q (kr : Nat × Rat), qs[i]? = some q → ps[i]? = some kr → ∃ f, SqT K H q [.int (kr.1 : Nat), f] ∧ FrA K H f kr.2
abbrev PairsT := PairsQ SqT
abbrev PairsL := PairsQ SqL
theorem PairsT.ex {K : PySem.W.Frag} {H H' : Hp} {p : Addr} {ps : List (Nat × Rat)} (e : Ex H H') (h : PairsT K H p ps) : PairsT K H' p ps :=
  let ⟨qs, a, b, c⟩ := h; ⟨qs, ex_t e a, b, fun i q kr h1 h2 => let ⟨f, u, v⟩ := c i q kr h1 h2; ⟨f, ex_t e u, v.ex e⟩⟩
theorem PairsL.ex {K : PySem.W.Frag} {H H' : Hp} {p : Addr} {ps : List (Nat × Rat)} (e : Ex H H') (h : PairsL K H p ps) : PairsL K H' p ps :=
  let ⟨qs, a, b, c⟩ := h; ⟨qs, ex_l e a, b, fun i q kr h1 h2 => let ⟨f, u, v⟩ := c i q kr h1 h2; ⟨f, ex_t e u, v.ex e⟩⟩
/-- a list of fractions, by their places -/
def NumsA (K : PySem.W.Frag) (H : Hp) (p : Addr) (f : Nat → Rat) (n : Nat) : Prop := ∃ xs, H p = some (.lst xs) ∧ xs.length = n ∧ ∀ (c : Nat) v, xs[c]? = some v → FrA K H v (f c)
theorem NumsA.ex {K : PySem.W.Frag} {H H' : Hp} {p : Addr} {f : Nat → Rat} {n : Nat} (e : Ex H H') (h : NumsA K H p f n) : NumsA K H' p f n :=
  let ⟨xs, a, b, c⟩ := h; ⟨xs, e _ _ a, b, fun i v h1 => (c i v h1).ex e⟩
/-! ### what evaluates -/
section
variable {K : PySem.W.Frag} {σ : L2.St} {H H' : Hp} {ta tb te : TE} {r : Rat} {D : Ends} {tz tu : TS}
theorem evf_tup (ha : Ev ta σ H (.int r.num)) (hb : Ev tb σ H (.int (r.den : Int))) : EvF K (tTup (tCons ta (tCons tb tNil))) σ H r := fun H1 e Q k =>
  eu_tup (ea_cons ha (ea_cons hb ea_nil)) (by show 2 ≤ 100000; decide) H1 e Q fun p H2 hp e2 h2 => k (.ref p) H2 e2 ⟨p, rfl, st_of h2⟩
theorem evf_1 {n : Int} (ha : Ev ta σ H (.int 1)) (hb : Ev tb σ H (.int 1)) : EvF K (tTup (tCons ta (tCons tb tNil))) σ H 1 := evf_tup (r := 1) ha hb
theorem ev_fld {a C dx : Addr} {fs : List (Str × V)} {f : Str} {v : V} (ha : Ev ta σ H (.ref a)) (h : H a = some (.ins C dx fs)) (hc : Cls K C) (hn : NoAttr K C f) (hl : fs.lookup f = some v) : Ev (tFld K ta f) σ H v := fun H1 e Q k =>
  ha H1 e _ fun H2 e2 => ⟨a, C, dx, fs, v, rfl, e2 a _ (e a _ h), hc, hn, hl, k H2 e2⟩
theorem s_setF {l : Addr} {xs : List V} {j : Nat} (hl : H l = some (.lst xs)) (h : EvF K te σ H r) (ho : Ev ta σ H (.ref l)) (hi : Ev tb σ H (.int (j : Int))) (hj : j < xs.length) (k : ∀ v H1, Ex H H1 → FrA K H1 v r → D.nx σ (upd H1 l (.lst (xs.set j v)))) :
    tAsg te (gSub ta tb rSetL) D σ H := by
  refine h H (Ex.refl H) _ fun v G1 x1 fv => ?_
  refine ho G1 x1 _ fun G2 x2 => ?_
  refine hi G2 (x1.trans x2) _ fun G3 x3 => ?_
  have all := x1.trans (x2.trans x3)
  exact ⟨l, xs, _, j, rfl, rfl, all l _ hl, ixN_nat hj, k v G3 all (fv.ex (x2.trans x3))⟩
theorem ev_lenL {a : Addr} {xs : List V} (ha : Ev ta σ H (.ref a)) (h : SqL K H a xs) : Ev (tCB (rLenQ K) (tCons ta tNil)) σ H (.int (xs.length : Nat)) := ev_cb (ea_cons ha ea_nil) fun H1 e Q k => ⟨a, xs, rfl, .inl (ex_l e h), k H1 (Ex.refl H1)⟩
theorem ev_lenT {a : Addr} {xs : List V} (ha : Ev ta σ H (.ref a)) (h : SqT K H a xs) : Ev (tCB (rLenQ K) (tCons ta tNil)) σ H (.int (xs.length : Nat)) := ev_cb (ea_cons ha ea_nil) fun H1 e Q k => ⟨a, xs, rfl, .inr (ex_t e h), k H1 (Ex.refl H1)⟩
theorem rv_notN {x : V} : RV rNotN x .non H (.bl (!decide (x = .non))) := fun H1 _ _ q => ⟨rfl, q H1 (Ex.refl H1)⟩
theorem rv_isN {x : V} : RV rIsN x .non H (.bl (decide (x = .non))) := fun H1 _ _ q => ⟨rfl, q H1 (Ex.refl H1)⟩
theorem et_ref_notN {a : Addr} (ha : Ev ta σ H (.ref a)) : EvT (tTest (tOp rNotN ta (tC .non))) σ H true := et_is (et_test (ev_op ha ev_c rv_notN)) (by rw [decide_eq_false (by intro z; cases z)]; rfl)
/-- a, b = one after another over a tuple of pairs -/
theorem s_forT2 {a : Addr} {qs : List Addr} {tl : TE} {i0 j0 : Nat} (h : Ev tl σ H (.ref a)) (hx : SqT K H a (qs.map V.ref)) (Pv : Nat → L2.St → Hp → Prop) (h0 : ∀ H1, Ex H H1 → Pv 0 σ H1) (hl : ∀ i σ' H', i ≤ qs.length → Pv i σ' H' → SqT K H' a (qs.map V.ref))
    (hs : ∀ i q σ' H', qs[i]? = some q → Pv i σ' H' → ∃ u v, SqT K H' q [u, v] ∧ tu { D with nx := Pv (i + 1), ct := Pv (i + 1), bk := D.nx } ((σ'.set i0 (some u)).set j0 (some v)) H') (hd : ∀ σ' H', Pv qs.length σ' H' → D.nx σ' H') : tFor (iTup K tl) (gTup K 2 (gCons (gName i0) (gCons (gName j0) gNil))) tu D σ H :=
  s_forT h hx Pv h0 (fun i σ' H' hi p => hl i σ' H' (by rw [List.length_map] at hi; exact hi) p) (fun i x σ' H' hx p => by
    obtain ⟨q, hq, rfl⟩ := map_ref_at hx
    obtain ⟨u, v, hT, k⟩ := hs i q σ' H' hq p
    exact g_pair hT k) (fun σ' H' p => hd σ' H' (by rw [List.length_map] at p; exact p))
theorem s_forL2 {a : Addr} {qs : List Addr} {tl : TE} {i0 j0 : Nat} (h : Ev tl σ H (.ref a)) (hx : SqL K H a (qs.map V.ref)) (Pv : Nat → L2.St → Hp → Prop) (h0 : ∀ H1, Ex H H1 → Pv 0 σ H1) (hl : ∀ i σ' H', i ≤ qs.length → Pv i σ' H' → SqL K H' a (qs.map V.ref))
    (hs : ∀ i q σ' H', qs[i]? = some q → Pv i σ' H' → ∃ u v, SqT K H' q [u, v] ∧ tu { D with nx := Pv (i + 1), ct := Pv (i + 1), bk := D.nx } ((σ'.set i0 (some u)).set j0 (some v)) H') (hd : ∀ σ' H', Pv qs.length σ' H' → D.nx σ' H') : tFor (iList K tl) (gTup K 2 (gCons (gName i0) (gCons (gName j0) gNil))) tu D σ H :=
  s_forL h hx Pv h0 (fun i σ' H' hi p => hl i σ' H' (by rw [List.length_map] at hi; exact hi) p) (fun i x σ' H' hx p => by
    obtain ⟨q, hq, rfl⟩ := map_ref_at hx
    obtain ⟨u, v, hT, k⟩ := hs i q σ' H' hq p
    exact g_pair hT k) (fun σ' H' p => hd σ' H' (by rw [List.length_map] at p; exact p))
/-- a, b = one after another over zip of two lists -/
theorem s_forZ {ta : TA} {a b : Addr} {xs ys : List V} {i0 j0 : Nat} (h : EvA ta σ H [.ref a, .ref b]) (hx : SqL K H a xs) (hy : SqL K H b ys) (hl : xs.length = ys.length) (Pv : Nat → L2.St → Hp → Prop) (h0 : ∀ H1, Ex H H1 → Pv 0 σ H1) (hq : ∀ i σ' H', Pv i σ' H' → SqL K H' a xs ∧ SqL K H' b ys)
    (hs : ∀ i x y σ' H' T, xs[i]? = some x → ys[i]? = some y → Pv i σ' H' → H' T = none → tu { D with nx := Pv (i + 1), ct := Pv (i + 1), bk := D.nx } ((σ'.set i0 (some x)).set j0 (some y)) (upd H' T (.tup [x, y]))) (hd : ∀ σ' H', Pv xs.length σ' H' → D.nx σ' H') : tFor (RZ.iZipA K ta) (gTup K 2 (gCons (gName i0) (gCons (gName j0) gNil))) tu D σ H :=
  h H (Ex.refl H) _ fun H1 e => ⟨a, b, xs, ys, rfl, .inl ⟨ex_l e hx, ex_l e hy, RZ.for_zipL hl Pv (h0 H1 e) hq (fun i x y T σ' H' hx hy p hT => g_pair (st_of upd_same) (hs i x y σ' H' T hx hy p hT)) hd⟩⟩
/-- a, b, c, d = a tuple of four -/
theorem g_four {T : Addr} {x1 x2 x3 x4 : V} {i1 i2 i3 i4 : Nat} {Qg : L2.St → Hp → Prop} (h : SqT K H T [x1, x2, x3, x4]) (k : Qg ((((σ.set i1 (some x1)).set i2 (some x2)).set i3 (some x3)).set i4 (some x4)) H) :
    gTup K 4 (gCons (gName i1) (gCons (gName i2) (gCons (gName i3) (gCons (gName i4) gNil)))) (.ref T) σ H Qg :=
  ⟨T, _, rfl, h, rfl, x1, _, rfl, x2, _, rfl, x3, _, rfl, x4, [], rfl, rfl, k⟩
theorem g_three {T : Addr} {x1 x2 x3 : V} {i1 i2 i3 : Nat} {Qg : L2.St → Hp → Prop} (h : SqT K H T [x1, x2, x3]) (k : Qg (((σ.set i1 (some x1)).set i2 (some x2)).set i3 (some x3)) H) :
    gTup K 3 (gCons (gName i1) (gCons (gName i2) (gCons (gName i3) gNil))) (.ref T) σ H Qg :=
  ⟨T, _, rfl, h, rfl, x1, _, rfl, x2, _, rfl, x3, [], rfl, rfl, k⟩
end
/-! ### turned -/
def turnP (b : Bool) (ps : List (Nat × Rat)) : List (Nat × Rat) := if b then ps else ps.map fun kr => (kr.1, 0 - kr.2)
def GoalA (K : PySem.W.Frag) (H : Hp) (g : Addr) (least : Bool) (ps : List (Nat × Rat)) : Prop := ∃ p c, SqT K H g [.str (if least then "least" else "most"), .ref p, c] ∧ PairsT K H p ps
section
variable {P : Program} {w : World} {K : PySem.W.Frag} {mg : Str → Option Value} {base : Heap}
theorem evf_nought (T : Txt w K mg) {σ : L2.St} {H : Hp} : EvF K (tC (.ref T.nought)) σ H 0 := evf_of ev_c ⟨T.nought, rfl, T.tnought H⟩
theorem evf_one (T : Txt w K mg) {σ : L2.St} {H : Hp} : EvF K (tC (.ref T.one)) σ H 1 := evf_of ev_c ⟨T.one, rfl, T.tone H⟩
abbrev N_turned : List Str := ["plan", "number", "part"]
theorem sc_turned : FnScope N_turned ["plan"] (defScope s_turned) := ⟨rfl, rfl, rfl, by decide +kernel, rfl, by decide +kernel, by decide +kernel⟩
def spTurned (K : PySem.W.Frag) : Sp := fun vs H Q _ => ∃ pl U R G least ps, vs = [.ref pl] ∧ SqT K H pl [.ref U, .ref R, .ref G] ∧ GoalA K H G least ps ∧ ps.length ≤ 1000 ∧ (∀ kr ∈ ps, Sz 3000 kr.2) ∧ ∀ p' H', Ex H H' → PairsT K H' p' (turnP least ps) → Q (.ref p') H'
theorem ok_turned (T : Txt w K mg) : FnOk P w K mg base CX0 4 T.turned.f T.turned.fd ["plan"] (spTurned K) := by
  refine T.turned.F.ok sc_turned (fun vs H Q E h => ?_) (fun cdv A outer s H vs Q E hr h => ?_)
  · obtain ⟨pl, U, R, G, least, ps, rfl, _⟩ := h
    rfl
  obtain ⟨pl, U, R, G, least, ps, rfl, hpl, ⟨p, c, hG, hp⟩, hlen, hz, q⟩ := h
  refine ⟨_, PSs.nox (pss_cons (ps_if (pt_cmpR op_eq (pe_ix (ix_tupK (K := K) rfl) (pe_ix (ix_tupK (K := K) rfl) (pv 0) pe_int (fun _ _ => rfl)) pe_int (fun _ _ => rfl)) pe_str (nomark _)) (pss_one (ps_ret (pe_callTy (call_tupleK (K := K) rfl) (by rfl) T.m_tuple (by decide +kernel) (pa_cons (pe_ix (ix_tupK (K := K) rfl) (pe_ix (ix_tupK (K := K) rfl) (pv 0) pe_int (fun _ _ => rfl)) pe_int (fun _ _ => rfl)) pa_nil)))) pss_nil)
 (pss_one (ps_ret (pe_callTy (call_tupleK (K := K) rfl) (by rfl) T.m_tuple (by decide +kernel) (pa_cons (pe_lc (own := [("number", 1), ("part", 2)]) (g := gTup K 2 (gCons (gName 1) (gCons (gName 2) gNil))) (tt := tYes) rfl sc_turned.nd (pi_tupK (K := K) rfl (pe_ix (ix_tupK (K := K) rfl) (pe_ix (ix_tupK (K := K) rfl) (pv 0) pe_int (fun _ _ => rfl)) pe_int (fun _ _ => rfl))) (blkOk_by (N := N_turned) (sc := defScope s_turned) (by decide +kernel))
 (fun _ _ _ _ _ => (pg_tupK (n := 2) (K := K) rfl rfl (pgs_cons (pg_name (i := 1) sc_turned.nd rfl (Or.inl rfl)) (pgs_cons (pg_name (i := 2) sc_turned.nd rfl (Or.inl rfl)) pgs_nil)))) (fun _ _ _ _ _ => pts_nil) (fun _ _ _ _ _ => (pe_tup (pa_cons (pv 1) (pa_cons (pe_call (ok_minus T) (hr.mono (by decide)) rfl T.minus.g T.minus.F.kp (b_minus T) .nil pass0 (pa_cons (pe_glob (v := .ref T.nought) rfl T.gnought rfl) (pa_cons (pv 2) pa_nil))) pa_nil))))) pa_nil))))), ?_⟩
  have evG : Ev (tOp (rIxT K) (tVar 0) (tC (.int 2))) [some (.ref pl), none, none] H (.ref G) := ev_item rfl hpl rfl
  have evP : Ev (tOp (rIxT K) (tOp (rIxT K) (tVar 0) (tC (.int 2))) (tC (.int 1))) [some (.ref pl), none, none] H (.ref p) := ev_op evG ev_c (rv_ixT hG rfl)
  refine q_when (b := least) (et_is (et_test (ev_op (ev_op evG ev_c (rv_ixT hG rfl)) ev_c (rv_eq rfl))) (by cases least <;> decide +kernel)) (fun hb H1 e1 => ?_) (fun hb H1 e1 => ?_)
  · subst hb
    obtain ⟨qs, hqs, _⟩ := id hp
    refine s_ret (v := .ref p) (ev_tupleT (evP.mono e1) (ex_t e1 hqs)) fun H2 e2 => ?_
    exact q p H2 (e1.trans e2) (hp.ex (e1.trans e2))
  · subst hb
    obtain ⟨qs, hqs, hql, hq⟩ := hp.ex e1
    have cmp := evc_tup2 (K := K) (σ := [some (.ref pl), none, none]) (H := H1) (i0 := 1) (j0 := 2) (vs := [1, 2]) (te := tTup (tCons (tVar 1) (tCons (tCall (spMinus K) [] (fun _ _ _ => False) (tCons (tC (.ref T.nought)) (tCons (tVar 2) tNil))) tNil)))
      (fun i u v => ∃ kr : Nat × Rat, ps[i]? = some kr ∧ u = .int (kr.1 : Nat) ∧ FrA K H1 v kr.2)
      (fun _ i v H => ∃ t f, v = .ref t ∧ ∃ kr : Nat × Rat, ps[i]? = some kr ∧ SqT K H t [.int (kr.1 : Nat), f] ∧ FrA K H f (0 - kr.2)) (evP.mono e1) hqs (by rw [List.length_map]; omega) (fun _ _ => rfl)
      (fun i x hx => by
        obtain ⟨t, ht, rfl⟩ := map_ref_at hx
        obtain ⟨kr, hk⟩ := get_of_lt (xs := ps) (i := i) (by have := get_lt ht; omega)
        obtain ⟨f, h1, h2⟩ := hq i t kr ht hk
        exact ⟨t, _, _, rfl, h1, kr, hk, rfl, h2⟩)
      (fun D i u v H2 hD e2 hl hi ⟨kr, hk, hu, hv⟩ => by
        subst hu
        have zk : Sz 4000 kr.2 := (hz kr (List.mem_of_getElem? hk)).mono (by omega)
        intro H3 e3 Q k
        refine ⟨_, rfl, evf_2 (evf_nought T) (evf_var rfl (hv.ex (e2.trans e3))) (PW.sz_0.mono (by omega)) zk H3 (Ex.refl H3) _ fun x H4 e4 fx => ⟨(by show 2 ≤ sizeLine; decide), fun t ht => k (.ref t) _ (e4.trans (Ex.new ht)) ⟨t, x, rfl, kr, hk, st_of upd_same, fx.ex (Ex.new ht)⟩⟩⟩)
      (fun D i v H H' f hl h => by
        obtain ⟨ys, hl⟩ := hl
        obtain ⟨t, g, rfl, kr, hk, h1, h2⟩ := h
        exact ⟨t, g, rfl, kr, hk, fx_t f hl h1, h2.fx f hl⟩)
    refine s_retCU (P := fun xs H => xs.length = ps.length ∧ ∀ (i : Nat) v, xs[i]? = some v → ∃ t f, v = .ref t ∧ ∃ kr : Nat × Rat, ps[i]? = some kr ∧ SqT K H t [.int (kr.1 : Nat), f] ∧ FrA K H f (0 - kr.2)) (evcu_of cmp fun D xs H2 l e2 hD h2 o hl => ?_) fun l H2 xs hl e2 h2 o => ?_
    · obtain ⟨o1, o2⟩ := outs_all o
      rw [List.length_map, hql] at o1
      refine ⟨o1, fun i v hv => ?_⟩
      obtain ⟨t, f, e, kr, h5, h6, h7⟩ := o2 i v hv
      exact ⟨t, f, e, kr, h5, ex_t (Ex.new hl) h6, h7.ex (Ex.new hl)⟩
    obtain ⟨o1, o2⟩ := o
    obtain ⟨ts, rfl⟩ := refs_of fun i v hv => by
      obtain ⟨t, f, e, _⟩ := o2 i v hv
      exact ⟨t, e⟩
    rw [List.length_map] at o1
    refine q l _ (e1.trans e2) ⟨ts, st_of h2, by rw [o1]; simp [turnP], fun i t kr ht hk => ?_⟩
    obtain ⟨t', f, et, kr', hk', h3, h4⟩ := o2 i (.ref t) (at_map_ref ht)
    cases et
    have ek : kr = (kr'.1, 0 - kr'.2) := by
      have : (turnP false ps)[i]? = some (kr'.1, 0 - kr'.2) := by
        show (ps.map fun kr => (kr.1, 0 - kr.2))[i]? = _
        rw [List.getElem?_map, hk']; rfl
      rw [this] at hk
      exact (Option.some.inj hk).symm
    subst ek
    exact ⟨f, h3, h4⟩
end
end PX

/-! Frame -/
namespace PX
open PySem PySem.Spec PyProof.Rows L2 Evl
open PW (Sz fr)
theorem lk_ne {a b : Str} {v : V} {l : List (Str × V)} (h : ¬ a = b) : ((b, v) :: l).lookup a = l.lookup a := by
  have hb : (a == b) = false := beq_eq_false_iff_ne.mpr h
  simp only [List.lookup, hb]
theorem lk_eq {a : Str} {v : V} {l : List (Str × V)} : ((a, v) :: l).lookup a = some v := by
  have hb : (a == a) = true := beq_iff_eq.mpr rfl
  simp only [List.lookup, hb]
theorem pf_eq {a : Str} {v x : V} {l : List (Str × V)} : putF a v ((a, x) :: l) = (a, v) :: l := if_pos rfl
theorem pf_ne {a b : Str} {v x : V} {l : List (Str × V)} (h : ¬ b = a) : putF a v ((b, x) :: l) = (b, x) :: putF a v l := if_neg h
def ff (bl pl : Addr) (n : Int) : List (Str × V) := [("bases", .ref bl), ("parts", .ref pl), ("many", .int n)]
theorem ff_b (bl pl : Addr) (n : Int) : (ff bl pl n).lookup ("bases" : Str) = some (.ref bl) := lk_eq
theorem ff_p (bl pl : Addr) (n : Int) : (ff bl pl n).lookup ("parts" : Str) = some (.ref pl) := (lk_ne (by decide +kernel)).trans lk_eq
theorem ff_m (bl pl : Addr) (n : Int) : (ff bl pl n).lookup ("many" : Str) = some (.int n) := (lk_ne (by decide +kernel)).trans ((lk_ne (by decide +kernel)).trans lk_eq)
theorem ff_put (bl pl : Addr) (n k : Int) : putF ("many" : Str) (.int k) (ff bl pl n) = ff bl pl k := by
  unfold ff
  rw [pf_ne (by decide +kernel), pf_ne (by decide +kernel), pf_eq]
theorem ff_no (bl pl : Addr) (n : Int) {m : Str} (h1 : ¬ m = "bases") (h2 : ¬ m = "parts") (h3 : ¬ m = "many") : (ff bl pl n).lookup m = none := by
  unfold ff
  rw [lk_ne h1, lk_ne h2, lk_ne h3]
  rfl
section
variable {K : PySem.W.Frag} {σ : L2.St} {H : Hp} {ta te : TE} {D : Ends} {tz : TS} {a C dx : Addr} {fs : List (Str × V)} {f : Str} {v : V} {P : Addr → List V → Hp → Prop} {R : V → Hp → Prop}
theorem s_fld (hv : Ev te σ H v) (ho : Ev ta σ H (.ref a)) (h : H a = some (.ins C dx fs)) (hc : Cls K C) (hn : NoAttr K C f) (hl : fs.length < 1000) (k : ∀ H1, Ex H H1 → D.nx σ (upd H1 a (.ins C dx (putF f v fs)))) : sFld K ta te f D σ H :=
  hv H (Ex.refl H) _ fun H1 e1 => ho H1 e1 _ fun H2 e2 => ⟨a, C, dx, fs, rfl, e2 a _ (e1 a _ h), hc, hn, hl, k H2 (e1.trans e2)⟩
theorem s_fldR (hv : EvR te σ H R) (ho : Ev ta σ H (.ref a)) (h : H a = some (.ins C dx fs)) (hc : Cls K C) (hn : NoAttr K C f) (hl : fs.length < 1000) (k : ∀ v H1 H2, Ex H H1 → R v H1 → Ex H1 H2 → D.nx σ (upd H2 a (.ins C dx (putF f v fs)))) : sFld K ta te f D σ H :=
  hv H (Ex.refl H) _ fun v H1 e1 r => ho H1 e1 _ fun H2 e2 => ⟨a, C, dx, fs, rfl, e2 a _ (e1 a _ h), hc, hn, hl, k v H1 H2 e1 r e2⟩
theorem s_fldC (hv : EvC te σ H P) (ho : Ev ta σ H (.ref a)) (h : H a = some (.ins C dx fs)) (hc : Cls K C) (hn : NoAttr K C f) (hl : fs.length < 1000) (k : ∀ p H1 xs H2, H p = none → Ex H H1 → H1 p = some (.lst xs) → P p xs H1 → Ex H1 H2 → D.nx σ (upd H2 a (.ins C dx (putF f (.ref p) fs)))) : sFld K ta te f D σ H :=
  hv H (Ex.refl H) _ fun p H1 xs hp e1 h1 hP => ho H1 e1 _ fun H2 e2 => ⟨a, C, dx, fs, rfl, e2 a _ (e1 a _ h), hc, hn, hl, k p H1 xs H2 hp e1 h1 hP e2⟩
theorem q_fld (hv : Ev te σ H v) (ho : Ev ta σ H (.ref a)) (h : H a = some (.ins C dx fs)) (hc : Cls K C) (hn : NoAttr K C f) (hl : fs.length < 1000) (k : ∀ H1, Ex H H1 → tz D σ (upd H1 a (.ins C dx (putF f v fs)))) : tSeq (sFld K ta te f) tz D σ H := s_fld (D := { D with nx := tz D }) hv ho h hc hn hl k
theorem q_fldR (hv : EvR te σ H R) (ho : Ev ta σ H (.ref a)) (h : H a = some (.ins C dx fs)) (hc : Cls K C) (hn : NoAttr K C f) (hl : fs.length < 1000) (k : ∀ v H1 H2, Ex H H1 → R v H1 → Ex H1 H2 → tz D σ (upd H2 a (.ins C dx (putF f v fs)))) : tSeq (sFld K ta te f) tz D σ H := s_fldR (D := { D with nx := tz D }) hv ho h hc hn hl k
theorem q_fldC (hv : EvC te σ H P) (ho : Ev ta σ H (.ref a)) (h : H a = some (.ins C dx fs)) (hc : Cls K C) (hn : NoAttr K C f) (hl : fs.length < 1000) (k : ∀ p H1 xs H2, H p = none → Ex H H1 → H1 p = some (.lst xs) → P p xs H1 → Ex H1 H2 → tz D σ (upd H2 a (.ins C dx (putF f (.ref p) fs)))) : tSeq (sFld K ta te f) tz D σ H := s_fldC (D := { D with nx := tz D }) hv ho h hc hn hl k
/-- xs.append(e), the list told by its object -/
theorem s_appR {l : Addr} {xs : List V} (hl : H l = some (.lst xs)) (ha : Ev ta σ H (.ref l)) (h : EvR te σ H R) (hz : xs.length < 100000) (k : ∀ v H1, Ex H H1 → R v H1 → D.nx σ (upd H1 l (.lst (xs ++ [v])))) :
    tDrop (tBM K "list" rAppend ta (tCons te tNil)) D σ H := by
  refine ha H (Ex.refl H) _ fun G1 x1 => ?_
  have there := x1 l _ hl
  refine ⟨.inl ⟨rfl, xs, sq_of there⟩, h G1 x1 _ fun v G2 x2 good => ?_⟩
  exact ⟨l, xs, v, rfl, rfl, x2 l _ there, sz_lt hz, k v G2 (x1.trans x2) good⟩
theorem q_appR {l : Addr} {xs : List V} (hl : H l = some (.lst xs)) (ha : Ev ta σ H (.ref l)) (h : EvR te σ H R) (hz : xs.length < 100000) (k : ∀ v H1, Ex H H1 → R v H1 → tz D σ (upd H1 l (.lst (xs ++ [v])))) :
    tSeq (tDrop (tBM K "list" rAppend ta (tCons te tNil))) tz D σ H := s_appR (D := { D with nx := tz D }) hl ha h hz k
end
/-- the unknowns of a plan: two ends each -/
def UnkA (K : PySem.W.Frag) (H : Hp) (U : Addr) (ls : List (Rat × Rat)) : Prop := ∃ ts : List Addr, SqT K H U (ts.map V.ref) ∧ ts.length = ls.length ∧ ∀ (i : Nat) t lh, ts[i]? = some t → ls[i]? = some lh → ∃ a b f g, SqT K H t [a, b, .ref f, .ref g] ∧ FrA K H (.ref f) lh.1 ∧ FrA K H (.ref g) lh.2
theorem UnkA.ex {K : PySem.W.Frag} {H H' : Hp} {U : Addr} {ls : List (Rat × Rat)} (e : Ex H H') (h : UnkA K H U ls) : UnkA K H' U ls :=
  let ⟨ts, a, b, c⟩ := h; ⟨ts, ex_t e a, b, fun i t lh h1 h2 => let ⟨x, y, f, g, u, v, w⟩ := c i t lh h1 h2; ⟨x, y, f, g, ex_t e u, v.ex e, w.ex e⟩⟩
/-- a frame's lists: its bases, its parts, one column each -/
structure FrmL (K : PySem.W.Frag) (H : Hp) (p bl pl : Addr) (C : Addr) (los : List Rat) : Prop where
  ob : ∃ dx, H p = some (.ins C dx (ff bl pl los.length))
  bs : ∃ bs, H bl = some (.lst bs) ∧ bs.length = los.length ∧ ∀ (i : Nat) v lo, bs[i]? = some v → los[i]? = some lo → FrA K H v lo
  ps : ∃ qs : List Addr, H pl = some (.lst (qs.map V.ref)) ∧ qs.length = los.length ∧ ∀ (i : Nat) q, qs[i]? = some q → ∃ t, q ≠ p ∧ q ≠ bl ∧ q ≠ pl ∧ H q = some (.lst [.ref t]) ∧ SqT K H t [.int (i : Nat), .int 1]
  ne : p ≠ bl ∧ p ≠ pl ∧ bl ≠ pl
def FrmA (K : PySem.W.Frag) (H : Hp) (p : Addr) (C : Addr) (los : List Rat) : Prop := ∃ bl pl, FrmL K H p bl pl C los
theorem FrmA.ex {K : PySem.W.Frag} {H H' : Hp} {p C : Addr} {los : List Rat} (e : Ex H H') (h : FrmA K H p C los) : FrmA K H' p C los := by
  obtain ⟨bl, pl, ⟨dx, h1⟩, ⟨bs, h2, h3, h4⟩, ⟨qs, h5, h6, h7⟩, h8⟩ := h
  exact ⟨bl, pl, ⟨dx, e _ _ h1⟩, ⟨bs, e _ _ h2, h3, fun i v lo a b => (h4 i v lo a b).ex e⟩, ⟨qs, e _ _ h5, h6, fun i q a => let ⟨t, n1, n2, n3, b, c⟩ := h7 i q a; ⟨t, n1, n2, n3, e _ _ b, ex_t e c⟩⟩, h8⟩
section
variable {P : Program} {w : World} {K : PySem.W.Frag} {mg : Str → Option Value} {base : Heap}
/-! ### Frame.add -/
abbrev N_Frame_add : List Str := ["self", "base", "ways", "k", "way"]
theorem sc_Frame_add : FnScope N_Frame_add ["self", "base", "ways"] (defScope s_Frame_add) := ⟨rfl, rfl, rfl, by decide +kernel, rfl, by decide +kernel, by decide +kernel⟩
def spFAdd (K : PySem.W.Frag) (C : Addr) : Sp := fun vs H Q _ => ∃ p bl pl los f lo wl, vs = [.ref p, .ref f, .ref wl] ∧ FrmL K H p bl pl C los ∧ los.length ≤ 1000 ∧ FrA K H (.ref f) lo ∧ SqL K H wl [.int 1] ∧ wl ≠ bl ∧ wl ≠ pl ∧
  ∀ H', (∀ b o, b ≠ p → b ≠ bl → b ≠ pl → H b = some o → H' b = some o) → FrmL K H' p bl pl C (los ++ [lo]) → Q .non H'
theorem ok_Frame_add (T : Txt w K mg) : FnOk P w K mg base CX0 1 T.Frame_add.f T.Frame_add.fd ["self", "base", "ways"] (spFAdd K T.cF) := by
  refine T.Frame_add.F.ok sc_Frame_add (fun vs H Q E h => ?_) (fun cdv A outer s H vs Q E hr h => ?_)
  · obtain ⟨p, bl, pl, los, f, lo, wl, rfl, _⟩ := h
    rfl
  obtain ⟨p, bl, pl, los, f, lo, wl, rfl, ⟨⟨dx, h1⟩, ⟨bs, h2, h3, h4⟩, ⟨qs, h5, h6, h7⟩, n1, n2, n3⟩, hlen, hf, hwl, w1, w2, q⟩ := h
  refine ⟨_, PSs.nox (pss_cons (ps_expr (pe_bm PySem.F.plainAttrs_list PySem.F.slot_list_append PySem.F.type_list_append mt_append (pe_fldK (K := K) rfl (pv 0) rfl) (pa_cons (pv 1) pa_nil)))
 (pss_cons (ps_expr (pe_bm PySem.F.plainAttrs_list PySem.F.slot_list_append PySem.F.type_list_append mt_append (pe_fldK (K := K) rfl (pv 0) rfl) (pa_cons (pe_lc (own := [("k", 3), ("way", 4)]) (g := gTup K 2 (gCons (gName 3) (gCons (gName 4) gNil))) (tt := tYes) rfl sc_Frame_add.nd (pi_enum (by rfl) T.m_enumerate (pa_cons (pv 2) pa_nil)) (blkOk_by (N := N_Frame_add) (sc := defScope s_Frame_add) (by decide +kernel))
 (fun _ _ _ _ _ => (pg_tupK (n := 2) (K := K) rfl rfl (pgs_cons (pg_name (i := 3) sc_Frame_add.nd rfl (Or.inl rfl)) (pgs_cons (pg_name (i := 4) sc_Frame_add.nd rfl (Or.inl rfl)) pgs_nil)))) (fun _ _ _ _ _ => pts_nil) (fun _ _ _ _ _ => (pe_tup (pa_cons (pe_op op_add (pe_fldK (K := K) rfl (pv 0) rfl) (pv 3)) (pa_cons (pv 4) pa_nil))))) pa_nil)))
 (pss_one (ps_fld (pv 0) (pe_op op_add (pe_fldK (K := K) rfl (pv 0) rfl) (pe_callB (call_lenK (K := K) rfl) (by rfl) T.m_len PySem.boot_len (pa_cons (pv 2) pa_nil))) rfl)))), ?_⟩
  have evS : ∀ {i : Nat} {H : Hp}, Ev (tVar 0) [some (.ref p), some (.ref f), some (.ref wl), none, none] H (.ref p) := ev_var rfl
  -- self.bases.append(base)
  refine q_app (l := bl) (xs := bs) (v := .ref f) h2 (ev_fld (ev_var rfl) h1 T.clF T.nF_bases (ff_b _ _ _)) (ev_var rfl) (by omega) fun H1 e1 => ?_
  have a1 : (upd H1 bl (.lst (bs ++ [.ref f]))) p = some (.ins T.cF dx (ff bl pl los.length)) := by rw [upd_ne n1]; exact e1 _ _ h1
  have a5 : (upd H1 bl (.lst (bs ++ [.ref f]))) pl = some (.lst (qs.map V.ref)) := by rw [upd_ne n3.symm]; exact e1 _ _ h5
  have f1 : Fx bl H (upd H1 bl (.lst (bs ++ [.ref f]))) := (Fx.of e1).trans Fx.upd
  have aw : SqL K (upd H1 bl (.lst (bs ++ [.ref f]))) wl [.int 1] := fx_l f1 w1 hwl
  -- self.parts.append([..])
  refine q_appR (l := pl) (xs := qs.map V.ref) a5 (ev_fld (ev_var rfl) a1 T.clF T.nF_parts (ff_p _ _ _)) (evr_c (evc_enum (K := K) (fun _ i v H => ∃ t, v = .ref t ∧ SqT K H t [.int (los.length + i : Nat), .int 1]) (ea_cons (ev_var rfl) ea_nil) aw (by decide) (fun _ _ => rfl)
      (fun D i x H2 hD e2 hl hx => by
        have hi : i = 0 ∧ x = .int 1 := by
          match i, hx with
          | 0, hx => exact ⟨rfl, (Option.some.inj hx).symm⟩
          | i + 1, hx => simp at hx
        obtain ⟨rfl, rfl⟩ := hi
        intro H3 e3 Q k
        refine eu_tup (ea_cons (ev_op (ev_fld (ev_var rfl) (e2 _ _ a1) T.clF T.nF_many (ff_m _ _ _)) (ev_var rfl) rv_I0) (ea_cons (ev_var rfl) ea_nil)) (by show 2 ≤ 100000; decide) H3 e3 Q fun t H4 ht e4 h4 => k (.ref t) H4 e4 ⟨t, rfl, ?_⟩
        exact st_of h4)
      (fun D i v H H' f hl h => by
        obtain ⟨ys, hl⟩ := hl
        obtain ⟨t, rfl, h1⟩ := h
        exact ⟨t, rfl, fx_t f hl h1⟩))) (by rw [List.length_map]; omega) fun v H2 e2 hv => ?_
  obtain ⟨g, xs, rfl, hg, hg2, o⟩ := hv
  obtain ⟨o1, o2⟩ := outs_all o
  obtain ⟨t, rfl⟩ : ∃ t, xs = [.ref t] := by
    match xs, o1 with
    | [x], _ =>
      obtain ⟨t, e, _⟩ := o2 0 x rfl
      exact ⟨t, by rw [e]⟩
  obtain ⟨t', et, ht⟩ := o2 0 (.ref t) rfl
  cases et
  have gp : g ≠ p := fun z => by rw [z, a1] at hg; cases hg
  have gb : g ≠ bl := fun z => by rw [z, upd_same] at hg; cases hg
  have gl : g ≠ pl := fun z => by rw [z, a5] at hg; cases hg
  have b1 : (upd H2 pl (.lst (qs.map V.ref ++ [.ref g]))) p = some (.ins T.cF dx (ff bl pl los.length)) := by rw [upd_ne n2]; exact e2 _ _ a1
  -- self.many = self.many + len(ways)
  have bw : SqL K (upd H2 pl (.lst (qs.map V.ref ++ [.ref g]))) wl [.int 1] := fx_l ((Fx.of e2).trans Fx.upd) w2 aw
  refine s_fld (ev_op (ev_fld (ev_var rfl) b1 T.clF T.nF_many (ff_m _ _ _)) (ev_lenL (ev_var rfl) bw) rv_I0) (ev_var rfl) b1 T.clF T.nF_many (by show 3 < 1000; decide) fun H3 e3 => ?_
  have e13 : ∀ b o, b ≠ p → b ≠ bl → b ≠ pl → H b = some o → (upd H3 p (.ins T.cF dx (putF "many" (.int ((los.length : Int) + (([V.int 1].length : Nat) : Int))) (ff bl pl los.length)))) b = some o := fun b o x1 x2 x3 h => by
    rw [upd_ne x1]
    refine e3 _ _ ?_
    rw [upd_ne x3]
    refine e2 _ _ ?_
    rw [upd_ne x2]
    exact e1 _ _ h
  -- a tuple, a fraction stays
  have kt : ∀ a xs, SqT K H a xs → SqT K (upd H3 p (.ins T.cF dx (putF "many" (.int ((los.length : Int) + (([V.int 1].length : Nat) : Int))) (ff bl pl los.length)))) a xs := fun a xs h => by
    have s1 := fx_t' f1 (nt_lst h2) h
    have s2 := fx_t' (((Fx.of e2).trans Fx.upd : Fx pl _ (upd H2 pl (.lst (qs.map V.ref ++ [.ref g]))))) (nt_lst a5) s1
    exact fx_t' (((Fx.of e3).trans Fx.upd)) (nt_ins b1) s2
  have kt2 : ∀ a xs, SqT K H2 a xs → SqT K (upd H3 p (.ins T.cF dx (putF "many" (.int ((los.length : Int) + (([V.int 1].length : Nat) : Int))) (ff bl pl los.length)))) a xs := fun a xs h => by
    have s2 := fx_t' (((Fx.refl pl H2).trans Fx.upd : Fx pl _ (upd H2 pl (.lst (qs.map V.ref ++ [.ref g]))))) (nt_lst (e2 _ _ a5)) h
    exact fx_t' (((Fx.of e3).trans Fx.upd)) (nt_ins b1) s2
  refine q _ e13 ⟨⟨dx, ?_⟩, ⟨bs ++ [.ref f], ?_, by simp [h3], fun i v l hv hl => ?_⟩, ⟨qs ++ [g], ?_, by simp [h6], fun i q' hq => ?_⟩, n1, n2, n3⟩
  · rw [upd_same, ff_put]
    simp
  · rw [upd_ne n1.symm]
    refine e3 _ _ ?_
    rw [upd_ne n3]
    exact e2 _ _ upd_same
  · by_cases hi : i < bs.length
    · rw [List.getElem?_append_left hi] at hv
      rw [List.getElem?_append_left (by omega)] at hl
      obtain ⟨a, ea, ha⟩ := h4 i v l hv hl
      exact ⟨a, ea, kt _ _ ha⟩
    · have : i = bs.length := by
        have := get_lt hv
        simp at this
        omega
      subst this
      rw [List.getElem?_append_right (Nat.le_refl _), Nat.sub_self] at hv
      rw [List.getElem?_append_right (by omega), h3, Nat.sub_self] at hl
      cases hv
      cases hl
      obtain ⟨a, ea, ha⟩ := hf
      exact ⟨a, ea, kt _ _ ha⟩
  · rw [upd_ne n2.symm]
    refine e3 _ _ ?_
    rw [upd_same]
    simp
  · by_cases hi : i < qs.length
    · rw [List.getElem?_append_left hi] at hq
      obtain ⟨t', x1, x2, x3, x4, x5⟩ := h7 i q' hq
      exact ⟨t', x1, x2, x3, e13 _ _ x1 x2 x3 x4, kt _ _ x5⟩
    · have : i = qs.length := by
        have := get_lt hq
        simp at this
        omega
      subst this
      rw [List.getElem?_append_right (Nat.le_refl _), Nat.sub_self] at hq
      cases hq
      refine ⟨t, gp, gb, gl, ?_, ?_⟩
      · rw [upd_ne gp]
        refine e3 _ _ ?_
        rw [upd_ne gl]
        exact hg2
      · have := kt2 _ _ ht
        rw [h6]
        exact this
end
end PX

/-! Frame, the rest -/
namespace PX
open PySem PySem.Spec PyProof.Rows L2 Evl
open PW (Sz fr)
section
variable {P : Program} {w : World} {K : PySem.W.Frag} {mg : Str → Option Value} {base : Heap}
abbrev N_Frame_init : List Str := ["self", "unknowns", "label", "whole", "low", "high"]
theorem sc_Frame_init : FnScope N_Frame_init ["self", "unknowns"] (defScope s_Frame_init) := ⟨rfl, rfl, rfl, by decide +kernel, rfl, by decide +kernel, by decide +kernel⟩
def spFInit (K : PySem.W.Frag) (C : Addr) : Sp := fun vs H Q _ => ∃ p dx U ls, vs = [.ref p, .ref U] ∧ H p = some (.ins C dx []) ∧ UnkA K H U ls ∧ ls.length ≤ 1000 ∧ ∀ H', Fx p H H' → FrmA K H' p C (ls.map (·.1)) → Q .non H'
theorem ok_Frame_init (T : Txt w K mg) : FnOk P w K mg base CX0 2 T.Frame_init.f T.Frame_init.fd ["self", "unknowns"] (spFInit K T.cF) := by
  refine T.Frame_init.F.ok sc_Frame_init (fun vs H Q E h => ?_) (fun cdv A outer s H vs Q E hr h => ?_)
  · obtain ⟨p, dx, U, ls, rfl, _⟩ := h
    rfl
  obtain ⟨p, dx, U, ls, rfl, hp, ⟨ts, hU, htl, ht⟩, hlen, q⟩ := h
  refine ⟨_, PSs.nox (pss_cons (ps_fld (pv 0) (pe_lst pa_nil) rfl)
 (pss_cons (ps_fld (pv 0) (pe_lst pa_nil) rfl)
 (pss_cons (ps_fld (pv 0) pe_int rfl)
 (pss_one (ps_for PassesOwn.never rfl (pi_tupK (K := K) rfl (pv 1)) (pg_tupK (n := 4) (K := K) rfl rfl (pgs_cons (pg_name (i := 2) sc_Frame_init.nd rfl (Or.inl rfl)) (pgs_cons (pg_name (i := 3) sc_Frame_init.nd rfl (Or.inl rfl)) (pgs_cons (pg_name (i := 4) sc_Frame_init.nd rfl (Or.inl rfl)) (pgs_cons (pg_name (i := 5) sc_Frame_init.nd rfl (Or.inl rfl)) pgs_nil)))))
 (pss_one (ps_if (pt_cmpR op_notNK (pv 4) pe_non (nomark _)) (pss_one (ps_expr (pe_meth (pv 0) T.clF T.Frame_add.m (ok_Frame_add T) (hr.mono (by decide)) (b_Frame_add T) .nil pass0 (pa_cons (pv 4) (pa_cons (pe_lst (pa_cons pe_int pa_nil)) pa_nil))))) (pss_one (ps_if (pt_cmpR op_notNK (pv 5) pe_non (nomark _)) (pss_one (ps_expr (pe_meth (pv 0) T.clF T.Frame_add.m (ok_Frame_add T) (hr.mono (by decide)) (b_Frame_add T) .nil pass0 (pa_cons (pv 5) (pa_cons (pe_lst (pa_cons (pe_un un_neg pe_int) pa_nil)) pa_nil))))) (pss_one (ps_expr (pe_meth (pv 0) T.clF T.Frame_add.m (ok_Frame_add T) (hr.mono (by decide)) (b_Frame_add T) .nil pass0 (pa_cons (pe_glob (v := .ref T.nought) rfl T.gnought rfl) (pa_cons (pe_lst (pa_cons pe_int (pa_cons (pe_un un_neg pe_int) pa_nil))) pa_nil)))))))))))))), ?_⟩
  -- self.bases = []; self.parts = []; self.many = 0
  refine q_fldC (evc_l (el_lst ea_nil (Nat.zero_le _))) (ev_var rfl) hp T.clF T.nF_bases (by show 0 < 1000; decide) fun bl H1 xs1 H2 hb e1 h1 ex1 e2 => ?_
  subst ex1
  have pb : p ≠ bl := ne_of_none hp hb
  have f2 : Fx p H (upd H2 p (.ins T.cF dx (putF "bases" (.ref bl) []))) := (Fx.of (e1.trans e2)).trans Fx.upd
  refine q_fldC (evc_l (el_lst ea_nil (Nat.zero_le _))) (ev_var rfl) upd_same T.clF T.nF_parts (by show 1 < 1000; decide) fun pl H3 xs3 H4 hb3 e3 h3 ex3 e4 => ?_
  subst ex3
  have pp : p ≠ pl := ne_of_none upd_same hb3
  have bp : bl ≠ pl := ne_of_none (show _ = some (.lst []) from by rw [upd_ne pb.symm]; exact e2 _ _ h1) hb3
  have hpl : H pl = none := fresh_back (e1.trans e2) (by rw [upd_ne pp.symm] at hb3; exact hb3)
  refine q_fld (v := .int 0) ev_c (ev_var rfl) upd_same T.clF T.nF_many (by show 2 < 1000; decide) fun H5 e5 => ?_
  have ffe : putF "many" (V.int 0) (putF "parts" (V.ref pl) (putF "bases" (V.ref bl) [])) = ff bl pl 0 := by
    show putF "many" (V.int 0) (putF "parts" (V.ref pl) [("bases", V.ref bl)]) = _
    rw [pf_ne (by decide +kernel)]
    show putF "many" (V.int 0) [("bases", V.ref bl), ("parts", V.ref pl)] = _
    rw [pf_ne (by decide +kernel), pf_ne (by decide +kernel)]
    rfl
  rw [ffe]
  have f5 : Fx p H (upd H5 p (.ins T.cF dx (ff bl pl 0))) := f2.trans (((Fx.of (e3.trans e4)).trans Fx.upd).trans ((Fx.of e5).trans Fx.upd))
  have hbl5 : (upd H5 p (.ins T.cF dx (ff bl pl 0))) bl = some (.lst []) := by
    rw [upd_ne pb.symm]
    refine e5 _ _ ?_
    rw [upd_ne pb.symm]
    refine e4 _ _ (e3 _ _ ?_)
    rw [upd_ne pb.symm]
    exact e2 _ _ h1
  have hpl5 : (upd H5 p (.ins T.cF dx (ff bl pl 0))) pl = some (.lst []) := by
    rw [upd_ne pp.symm]
    refine e5 _ _ ?_
    rw [upd_ne pp.symm]
    exact e4 _ _ h3
  have kU : ∀ H', Fx p H H' → SqT K H' U (ts.map V.ref) := fun H' f => fx_t' f (nt_ins hp) hU
  refine s_forT (a := U) (xs := ts.map V.ref) (ev_var rfl) (kU _ f5) (fun i σ' H' => Fx p H H' ∧ FrmL K H' p bl pl T.cF ((ls.map (·.1)).take i) ∧ ∃ a b c d, σ' = [some (.ref p), some (.ref U), a, b, c, d])
    (fun H6 e6 => ⟨f5.trans (Fx.of e6), ⟨⟨dx, e6 _ _ upd_same⟩, ⟨[], e6 _ _ hbl5, rfl, fun i v lo h => by simp at h⟩, ⟨[], e6 _ _ hpl5, rfl, fun i q h => by simp at h⟩, pb, pp, bp⟩, none, none, none, none, rfl⟩) (fun i σ' H' _ h => kU _ h.1) ?_ ?_
  · rintro i x σ' H' hx ⟨f6, F6, a, b, c, d, rfl⟩
    obtain ⟨t, hti, rfl⟩ := map_ref_at hx
    obtain ⟨lh, hlh⟩ := get_of_lt (xs := ls) (i := i) (by have := get_lt hti; omega)
    obtain ⟨a', b', f, g, u1, u2, u3⟩ := ht i t lh hti hlh
    refine g_four (fx_t' f6 (nt_ins hp) u1) ?_
    refine s_if (b := true) (et_ref_notN (ev_var rfl)) (fun _ H7 e7 => ?_) (fun h => by cases h)
    obtain ⟨⟨dx6, o6⟩, B6⟩ := id F6
    refine ⟨_, rfl, p, dx6, _, rfl, e7 _ _ o6, ff_no _ _ _ (by decide +kernel) (by decide +kernel) (by decide +kernel), ?_⟩
    refine ⟨_, rfl, ?_⟩
    refine el_lst (ea_cons ev_c ea_nil) (by show 1 ≤ 100000; decide) H7 (Ex.refl H7) _ fun wl H8 hw e8 h8 => ?_
    have F8 : FrmL K H8 p bl pl T.cF ((ls.map (·.1)).take i) := by
      obtain ⟨⟨dx, x1⟩, ⟨bs, x2, x3, x4⟩, ⟨qs, x5, x6, x7⟩, x8⟩ := F6
      have e := e7.trans e8
      exact ⟨⟨dx, e _ _ x1⟩, ⟨bs, e _ _ x2, x3, fun i v lo a b => (x4 i v lo a b).ex e⟩, ⟨qs, e _ _ x5, x6, fun i q a => let ⟨t, n1, n2, n3, b, c⟩ := x7 i q a; ⟨t, n1, n2, n3, e _ _ b, ex_t e c⟩⟩, x8⟩
    obtain ⟨bs8, hb8, _⟩ := F8.bs
    obtain ⟨qs8, hp8, _⟩ := F8.ps
    obtain ⟨bs7, hb7, _⟩ := F6.bs
    obtain ⟨qs7, hp7, _⟩ := F6.ps
    have f8 : Fx p H H8 := f6.trans (Fx.of (e7.trans e8))
    refine ⟨p, bl, pl, (ls.map (·.1)).take i, f, lh.1, wl, rfl, F8, by simp; omega, ?_, sq_of h8, ?_, ?_, fun H9 k9 F9 => ?_⟩
    · exact u2.fx' f8 (nt_ins hp)
    · exact fun z => by rw [z, e7 _ _ hb7] at hw; cases hw
    · exact fun z => by rw [z, e7 _ _ hp7] at hw; cases hw
    · refine ⟨fun b o n h => ?_, ?_, _, _, _, _, rfl⟩
      · exact k9 b o n (ne_of_none h hb) (ne_of_none h hpl) (f8 b o n h)
      · have e : (ls.map (·.1)).take (i + 1) = (ls.map (·.1)).take i ++ [lh.1] := by
          rw [List.take_add_one, List.getElem?_map, hlh]; rfl
        rw [e]; exact F9
  · rintro σ' H' ⟨f6, F6, _⟩
    refine q H' f6 ⟨bl, pl, ?_⟩
    rw [List.take_of_length_le (by simp; omega)] at F6
    exact F6
/-! ### numbers -/
def numF (ps : List (Nat × Rat)) : Nat → Rat := ps.foldl (fun f kr c => if c = kr.1 then kr.2 else f c) fun _ => 0
theorem numF_take {ps : List (Nat × Rat)} {i : Nat} {kr : Nat × Rat} (h : ps[i]? = some kr) (c : Nat) : numF (ps.take (i + 1)) c = if c = kr.1 then kr.2 else numF (ps.take i) c := by
  unfold numF
  rw [List.take_add_one, h]
  simp
abbrev N_Frame_numbers : List Str := ["self", "pairs", "found", "column", "number", "part", "way"]
theorem sc_Frame_numbers : FnScope N_Frame_numbers ["self", "pairs"] (defScope s_Frame_numbers) := ⟨rfl, rfl, rfl, by decide +kernel, rfl, by decide +kernel, by decide +kernel⟩
def spNumbers (K : PySem.W.Frag) (C : Addr) : Sp := fun vs H Q _ => ∃ p pr los ps, vs = [.ref p, .ref pr] ∧ FrmA K H p C los ∧ (PairsT K H pr ps ∨ PairsL K H pr ps) ∧ los.length ≤ 1000 ∧ ps.length ≤ 1000 ∧ (∀ kr ∈ ps, kr.1 < los.length ∧ Sz 3000 kr.2) ∧
  ∀ g H', H g = none → Ex H H' → NumsA K H' g (numF ps) los.length → Q (.ref g) H'
/-- what the loop's body does, told once for both kinds of pairs -/
theorem numbers_turn (T : Txt w K mg) {H H' : Hp} {p pr bl pl F : Addr} {los : List Rat} {ps : List (Nat × Rat)} {i : Nat} {kr : Nat × Rat} {f : V} {c3 c4 c5 c6 : Option V} {D : Ends} {Nx : L2.St → Hp → Prop} (hF : H F = none) (e : Ex H H') (FL : FrmL K H p bl pl T.cF los)
    (hk : ps[i]? = some kr) (hkl : kr.1 < los.length) (hz : Sz 3000 kr.2) (hf : FrA K H f kr.2) {xs : List V} (h1 : H' F = some (.lst xs)) (h2 : xs.length = los.length) (h3 : ∀ (c : Nat) v, xs[c]? = some v → FrA K H' v (numF (ps.take i) c))
    (k : ∀ H'' c3 c6, Ex H H'' → (∃ xs, H'' F = some (.lst xs) ∧ xs.length = los.length ∧ ∀ (c : Nat) v, xs[c]? = some v → FrA K H'' v (numF (ps.take (i + 1)) c)) → Nx [some (.ref p), some (.ref pr), some (.ref F), c3, some (.int (kr.1 : Nat)), some f, c6] H'') :
    tFor (iList K (tOp (rIxL K) (tFld K (tVar 0) "parts") (tVar 4))) (gTup K 2 (gCons (gName 3) (gCons (gName 6) gNil)))
      (tAsg (tCall (spTimes K) [] (fun _ _ _ => False) (tCons (tVar 5) (tCons (tTup (tCons (tVar 6) (tCons (tC (.int 1)) tNil))) tNil))) (gSub (tVar 2) (tVar 3) rSetL))
      { nx := Nx, rt := D.rt, bk := D.bk, ct := Nx } [some (.ref p), some (.ref pr), some (.ref F), c3, some (.int (kr.1 : Nat)), some f, c6] H' := by
  obtain ⟨⟨dx, o1⟩, _, ⟨qs, h5, h6, h7⟩, _⟩ := FL
  obtain ⟨g, hg⟩ := get_of_lt (xs := qs) (i := kr.1) (by omega)
  obtain ⟨t, _, _, _, hgl, htt⟩ := h7 _ _ hg
  have hgl' : SqL K H' g ([t].map V.ref) := sq_of (e _ _ hgl)
  refine s_forL2 (a := g) (qs := [t]) (ev_op (ev_fld (ev_var rfl) (e _ _ o1) T.clF T.nF_parts (ff_p _ _ _)) (ev_var rfl) (rv_ixL (sq_of (e _ _ h5)) (atI_nat (at_map_ref hg)))) hgl'
    (fun j σ' H'' => Ex H H'' ∧ ∃ c3 c6, σ' = [some (.ref p), some (.ref pr), some (.ref F), c3, some (.int (kr.1 : Nat)), some f, c6] ∧ ∃ xs, H'' F = some (.lst xs) ∧ xs.length = los.length ∧ ∀ (c : Nat) v, xs[c]? = some v → FrA K H'' v (if j = 0 then numF (ps.take i) c else numF (ps.take (i + 1)) c))
    (fun H1 e1 => ⟨e.trans e1, c3, c6, rfl, xs, e1 _ _ h1, h2, fun c v hc => by
      show FrA K H1 v (numF (ps.take i) c)
      exact (h3 c v hc).ex e1⟩) (fun j σ' H'' _ h => sq_of (h.1 _ _ hgl)) ?_ ?_
  · rintro j q σ' H'' hq ⟨e2, d3, d6, rfl, ys, y1, y2, y3⟩
    have hj : j = 0 ∧ q = t := by
      match j, hq with
      | 0, hq => exact ⟨rfl, (Option.some.inj hq).symm⟩
      | j + 1, hq => simp at hq
    obtain ⟨rfl, rfl⟩ := hj
    refine ⟨_, _, ex_t e2 htt, ?_⟩
    refine s_setF (l := F) (xs := ys) (j := kr.1) y1 (evf_eq (evf_2 (evf_var rfl (hf.ex e2)) (evf_1 (n := 1) (ev_var rfl) ev_c) (hz.mono (by omega)) (PW.sz_1.mono (by omega))) (Rat.mul_one _)) (ev_var rfl) (ev_var rfl) (by omega) fun v H3 e3 fv => ?_
    have y1' := e3 _ _ y1
    refine ⟨(e2.trans e3).mut hF, some (.int (kr.1 : Nat)), some (.int 1), rfl, ys.set kr.1 v, upd_same, by simp [y2], fun c z hc => ?_⟩
    rw [if_neg (by omega), numF_take hk]
    by_cases ec : c = kr.1
    · subst ec
      rw [List.getElem?_set_self (by omega)] at hc
      cases hc
      rw [if_pos rfl]
      exact fv.fx Fx.upd y1'
    · rw [List.getElem?_set_ne (fun z => ec z.symm)] at hc
      rw [if_neg ec]
      have := y3 c z hc
      rw [if_pos rfl] at this
      exact (this.ex e3).fx Fx.upd y1'
  · rintro σ' H'' ⟨e2, d3, d6, rfl, ys, y1, y2, y3⟩
    refine k H'' d3 d6 e2 ⟨ys, y1, y2, fun c v hc => ?_⟩
    have := y3 c v hc
    rw [if_neg (show ¬ [t].length = 0 by simp)] at this
    exact this
theorem ok_Frame_numbers (T : Txt w K mg) : FnOk P w K mg base CX0 4 T.Frame_numbers.f T.Frame_numbers.fd ["self", "pairs"] (spNumbers K T.cF) := by
  refine T.Frame_numbers.F.ok sc_Frame_numbers (fun vs H Q E h => ?_) (fun cdv A outer s H vs Q E hr h => ?_)
  · obtain ⟨p, pr, los, ps, rfl, _⟩ := h
    rfl
  obtain ⟨p, pr, los, ps, rfl, ⟨bl, pl, FL⟩, hpr, hlen, hlp, hz, q⟩ := h
  obtain ⟨dx, o1⟩ := FL.ob
  have first : EvC (tLc (iRng1 (tCons (tFld K (tVar 0) "many") tNil)) (gName 3) tYes (tC (.ref T.nought)) [3]) (L2.start N_Frame_numbers [.ref p, .ref pr]) H (fun D ys H2 => Outs los.length (fun _ => true) (fun _ v H => FrA K H v 0) ys H2) :=
    evc_rng1 (fun _ _ v H => FrA K H v 0) (ea_cons (ev_fld (ev_var rfl) o1 T.clF T.nF_many (ff_m _ _ _)) ea_nil) (by omega) (fun _ => rfl) (fun D i H1 _ _ _ _ => evr_f (evf_nought T))
      (fun D i v H H' f hl h => by
        obtain ⟨ys, hl⟩ := hl
        exact h.fx f hl)
  have start0 : ∀ (F : Addr) (H1 : Hp) (ys : List V), H1 F = some (.lst ys) → Outs los.length (fun _ => true) (fun _ v H => FrA K H v 0) ys H1 → ∃ xs, H1 F = some (.lst xs) ∧ xs.length = los.length ∧ ∀ (c : Nat) v, xs[c]? = some v → FrA K H1 v (numF (ps.take 0) c) := fun F H1 ys h1 o => by
    obtain ⟨o1, o2⟩ := outs_all o
    exact ⟨ys, h1, o1, fun c v hc => o2 c v hc⟩
  rcases hpr with hpr | hpr
  · obtain ⟨qs, hqs, hql, hq⟩ := hpr
    refine ⟨_, PSs.nox (pss_cons (ps_setLc (i := 2) (own := [("column", 3)]) (g := gName 3) (tt := tYes) rfl sc_Frame_numbers.nd rfl rfl (sw_true rfl rfl rfl (by decide +kernel)) (pi_range1 (by rfl) T.m_range (pa_cons (pe_fldK (K := K) rfl (pv 0) rfl) pa_nil)) (blkOk_by (N := N_Frame_numbers) (sc := defScope s_Frame_numbers) (by decide +kernel))
 (fun _ _ _ _ _ => (pg_name (i := 3) sc_Frame_numbers.nd rfl (Or.inl rfl))) (fun _ _ _ _ _ => pts_nil) (fun _ _ _ _ _ => (pe_glob (v := .ref T.nought) rfl T.gnought rfl)))
 (pss_cons (ps_for PassesOwn.never rfl (pi_tupK (K := K) rfl (pv 1)) (pg_tupK (n := 2) (K := K) rfl rfl (pgs_cons (pg_name (i := 4) sc_Frame_numbers.nd rfl (Or.inl rfl)) (pgs_cons (pg_name (i := 5) sc_Frame_numbers.nd rfl (Or.inl rfl)) pgs_nil)))
 (pss_one (ps_for PassesOwn.never rfl (pi_listK (K := K) rfl (pe_ix (ix_listK (K := K) rfl) (pe_fldK (K := K) rfl (pv 0) rfl) (pv 4) (fun _ _ => rfl))) (pg_tupK (n := 2) (K := K) rfl rfl (pgs_cons (pg_name (i := 3) sc_Frame_numbers.nd rfl (Or.inl rfl)) (pgs_cons (pg_name (i := 6) sc_Frame_numbers.nd rfl (Or.inl rfl)) pgs_nil)))
 (pss_one (ps_asg (pe_call (ok_times T) (hr.mono (by decide)) rfl T.times.g T.times.F.kp (b_times T) .nil pass0 (pa_cons (pv 5) (pa_cons (pe_tup (pa_cons (pv 6) (pa_cons pe_int pa_nil))) pa_nil))) (pg_sub (pv 2) (pv 3) set_list))))))
 (pss_one (ps_ret (pv 2))))), ?_⟩
    refine q_asgC first fun F H1 ys hF e1 h1 o => ?_
    refine s_forT2 (D := { nx := _, rt := _ }) (a := pr) (qs := qs) (ev_var rfl) (ex_t e1 hqs) (fun i σ' H' => Ex H H' ∧ ∃ c3 c4 c5 c6, σ' = [some (.ref p), some (.ref pr), some (.ref F), c3, c4, c5, c6] ∧ ∃ xs, H' F = some (.lst xs) ∧ xs.length = los.length ∧ ∀ (c : Nat) v, xs[c]? = some v → FrA K H' v (numF (ps.take i) c))
      (fun H2 e2 => ⟨e1.trans e2, none, none, none, none, rfl, by
        obtain ⟨xs, x1, x2, x3⟩ := start0 F H1 ys h1 o
        exact ⟨xs, e2 _ _ x1, x2, fun c v hc => (x3 c v hc).ex e2⟩⟩) (fun i σ' H' _ h => ex_t h.1 hqs) ?_ ?_
    · rintro i t σ' H' ht ⟨e2, c3, c4, c5, c6, rfl, xs, x1, x2, x3⟩
      obtain ⟨kr, hk⟩ := get_of_lt (xs := ps) (i := i) (by have := get_lt ht; omega)
      obtain ⟨f, u1, u2⟩ := hq i t kr ht hk
      obtain ⟨z1, z2⟩ := hz kr (List.mem_of_getElem? hk)
      refine ⟨_, _, ex_t e2 u1, ?_⟩
      exact numbers_turn (D := { nx := _, rt := _ }) (c4 := c4) (c5 := c5) T hF e2 FL hk z1 z2 u2 x1 x2 x3 fun H'' d3 d6 e3 h => ⟨e3, d3, _, _, d6, rfl, h⟩
    · rintro σ' H' ⟨e2, c3, c4, c5, c6, rfl, xs, x1, x2, x3⟩
      rw [hql, List.take_length] at x3
      exact ⟨_, rfl, q F H' hF e2 ⟨xs, x1, x2, x3⟩⟩
  · obtain ⟨qs, hqs, hql, hq⟩ := hpr
    refine ⟨_, PSs.nox (pss_cons (ps_setLc (i := 2) (own := [("column", 3)]) (g := gName 3) (tt := tYes) rfl sc_Frame_numbers.nd rfl rfl (sw_true rfl rfl rfl (by decide +kernel)) (pi_range1 (by rfl) T.m_range (pa_cons (pe_fldK (K := K) rfl (pv 0) rfl) pa_nil)) (blkOk_by (N := N_Frame_numbers) (sc := defScope s_Frame_numbers) (by decide +kernel))
 (fun _ _ _ _ _ => (pg_name (i := 3) sc_Frame_numbers.nd rfl (Or.inl rfl))) (fun _ _ _ _ _ => pts_nil) (fun _ _ _ _ _ => (pe_glob (v := .ref T.nought) rfl T.gnought rfl)))
 (pss_cons (ps_for PassesOwn.never rfl (pi_listK (K := K) rfl (pv 1)) (pg_tupK (n := 2) (K := K) rfl rfl (pgs_cons (pg_name (i := 4) sc_Frame_numbers.nd rfl (Or.inl rfl)) (pgs_cons (pg_name (i := 5) sc_Frame_numbers.nd rfl (Or.inl rfl)) pgs_nil)))
 (pss_one (ps_for PassesOwn.never rfl (pi_listK (K := K) rfl (pe_ix (ix_listK (K := K) rfl) (pe_fldK (K := K) rfl (pv 0) rfl) (pv 4) (fun _ _ => rfl))) (pg_tupK (n := 2) (K := K) rfl rfl (pgs_cons (pg_name (i := 3) sc_Frame_numbers.nd rfl (Or.inl rfl)) (pgs_cons (pg_name (i := 6) sc_Frame_numbers.nd rfl (Or.inl rfl)) pgs_nil)))
 (pss_one (ps_asg (pe_call (ok_times T) (hr.mono (by decide)) rfl T.times.g T.times.F.kp (b_times T) .nil pass0 (pa_cons (pv 5) (pa_cons (pe_tup (pa_cons (pv 6) (pa_cons pe_int pa_nil))) pa_nil))) (pg_sub (pv 2) (pv 3) set_list))))))
 (pss_one (ps_ret (pv 2))))), ?_⟩
    refine q_asgC first fun F H1 ys hF e1 h1 o => ?_
    refine s_forL2 (D := { nx := _, rt := _ }) (a := pr) (qs := qs) (ev_var rfl) (ex_l e1 hqs) (fun i σ' H' => Ex H H' ∧ ∃ c3 c4 c5 c6, σ' = [some (.ref p), some (.ref pr), some (.ref F), c3, c4, c5, c6] ∧ ∃ xs, H' F = some (.lst xs) ∧ xs.length = los.length ∧ ∀ (c : Nat) v, xs[c]? = some v → FrA K H' v (numF (ps.take i) c))
      (fun H2 e2 => ⟨e1.trans e2, none, none, none, none, rfl, by
        obtain ⟨xs, x1, x2, x3⟩ := start0 F H1 ys h1 o
        exact ⟨xs, e2 _ _ x1, x2, fun c v hc => (x3 c v hc).ex e2⟩⟩) (fun i σ' H' _ h => ex_l h.1 hqs) ?_ ?_
    · rintro i t σ' H' ht ⟨e2, c3, c4, c5, c6, rfl, xs, x1, x2, x3⟩
      obtain ⟨kr, hk⟩ := get_of_lt (xs := ps) (i := i) (by have := get_lt ht; omega)
      obtain ⟨f, u1, u2⟩ := hq i t kr ht hk
      obtain ⟨z1, z2⟩ := hz kr (List.mem_of_getElem? hk)
      refine ⟨_, _, ex_t e2 u1, ?_⟩
      exact numbers_turn (D := { nx := _, rt := _ }) (c4 := c4) (c5 := c5) T hF e2 FL hk z1 z2 u2 x1 x2 x3 fun H'' d3 d6 e3 h => ⟨e3, d3, _, _, d6, rfl, h⟩
    · rintro σ' H' ⟨e2, c3, c4, c5, c6, rfl, xs, x1, x2, x3⟩
      rw [hql, List.take_length] at x3
      exact ⟨_, rfl, q F H' hF e2 ⟨xs, x1, x2, x3⟩⟩
end
end PX

/-! at_bases, joined -/
namespace PX
open PySem PySem.Spec PyProof.Rows L2 Evl
open PW (Sz fr)
section
variable {P : Program} {w : World} {K : PySem.W.Frag} {mg : Str → Option Value} {base : Heap}
def atB (los : List Rat) (ps : List (Nat × Rat)) : Rat := ps.foldl (fun a kr => a + kr.2 * los.getD kr.1 0) 0
theorem atB_take {los : List Rat} {ps : List (Nat × Rat)} {i : Nat} {kr : Nat × Rat} (h : ps[i]? = some kr) : atB los (ps.take (i + 1)) = atB los (ps.take i) + kr.2 * los.getD kr.1 0 := by
  unfold atB
  rw [List.take_add_one, h]
  simp
theorem atB_sz {los : List Rat} {ps : List (Nat × Rat)} (hz : ∀ kr ∈ ps, kr.1 < los.length ∧ Sz 500 kr.2) (hl : ∀ lo ∈ los, Sz 500 lo) : ∀ i, i ≤ ps.length → Sz (1 + i * 1001) (atB los (ps.take i))
  | 0, _ => PW.sz_0
  | i + 1, h => by
    obtain ⟨kr, hk⟩ := get_of_lt (xs := ps) (i := i) (by omega)
    rw [atB_take hk]
    obtain ⟨z1, z2⟩ := hz kr (List.mem_of_getElem? hk)
    have z3 : Sz 500 (los.getD kr.1 0) := by
      rw [List.getD_eq_getElem?_getD, List.getElem?_eq_getElem z1]
      exact hl _ (List.getElem_mem z1)
    exact (PW.sz_add (atB_sz hz hl i (by omega)) (PW.sz_mul z2 z3)).mono (by omega)
abbrev N_Frame_at_bases : List Str := ["self", "pairs", "found", "number", "part"]
theorem sc_Frame_at_bases : FnScope N_Frame_at_bases ["self", "pairs"] (defScope s_Frame_at_bases) := ⟨rfl, rfl, rfl, by decide +kernel, rfl, by decide +kernel, by decide +kernel⟩
def spAtBases (K : PySem.W.Frag) (C : Addr) : Sp := fun vs H Q _ => ∃ p pr los ps, vs = [.ref p, .ref pr] ∧ FrmA K H p C los ∧ PairsT K H pr ps ∧ ps.length ≤ 2 ∧ (∀ kr ∈ ps, kr.1 < los.length ∧ Sz 500 kr.2) ∧ (∀ lo ∈ los, Sz 500 lo) ∧
  ∀ v H', Ex H H' → FrA K H' v (atB los ps) → Q v H'
theorem ok_Frame_at_bases (T : Txt w K mg) : FnOk P w K mg base CX0 4 T.Frame_at_bases.f T.Frame_at_bases.fd ["self", "pairs"] (spAtBases K T.cF) := by
  refine T.Frame_at_bases.F.ok sc_Frame_at_bases (fun vs H Q E h => ?_) (fun cdv A outer s H vs Q E hr h => ?_)
  · obtain ⟨p, pr, los, ps, rfl, _⟩ := h
    rfl
  obtain ⟨p, pr, los, ps, rfl, ⟨bl, pl, ⟨dx, o1⟩, ⟨bs, b1, b2, b3⟩, _, _⟩, ⟨qs, hqs, hql, hq⟩, hlen, hz, hlo, q⟩ := h
  refine ⟨_, PSs.nox (pss_cons (ps_set (i := 2) sc_Frame_at_bases.nd rfl (Or.inl rfl) (pe_glob (v := .ref T.nought) rfl T.gnought rfl))
 (pss_cons (ps_for PassesOwn.never rfl (pi_tupK (K := K) rfl (pv 1)) (pg_tupK (n := 2) (K := K) rfl rfl (pgs_cons (pg_name (i := 3) sc_Frame_at_bases.nd rfl (Or.inl rfl)) (pgs_cons (pg_name (i := 4) sc_Frame_at_bases.nd rfl (Or.inl rfl)) pgs_nil)))
 (pss_one (ps_set (i := 2) sc_Frame_at_bases.nd rfl (Or.inl rfl) (pe_call (ok_plus T) (hr.mono (by decide)) rfl T.plus.g T.plus.F.kp (b_plus T) .nil pass0 (pa_cons (pv 2) (pa_cons (pe_call (ok_times T) (hr.mono (by decide)) rfl T.times.g T.times.F.kp (b_times T) .nil pass0 (pa_cons (pv 4) (pa_cons (pe_ix (ix_listK (K := K) rfl) (pe_fldK (K := K) rfl (pv 0) rfl) (pv 3) (fun _ _ => rfl)) pa_nil))) pa_nil))))))
 (pss_one (ps_ret (pv 2))))), ?_⟩
  refine q_asgF (evf_nought T) fun v0 H1 e1 f0 => ?_
  refine s_forT2 (D := { nx := _, rt := _ }) (a := pr) (qs := qs) (ev_var rfl) (ex_t e1 hqs) (fun i σ' H' => Ex H H' ∧ ∃ v c3 c4, σ' = [some (.ref p), some (.ref pr), some v, c3, c4] ∧ FrA K H' v (atB los (ps.take i)))
    (fun H2 e2 => ⟨e1.trans e2, v0, none, none, rfl, f0.ex e2⟩) (fun i σ' H' _ h => ex_t h.1 hqs) ?_ ?_
  · rintro i t σ' H' ht ⟨e2, v, c3, c4, rfl, fv⟩
    have hi := get_lt ht
    obtain ⟨kr, hk⟩ := get_of_lt (xs := ps) (i := i) (by omega)
    obtain ⟨f, u1, u2⟩ := hq i t kr ht hk
    obtain ⟨z1, z2⟩ := hz kr (List.mem_of_getElem? hk)
    obtain ⟨b, hb⟩ := get_of_lt (xs := bs) (i := kr.1) (by omega)
    have hl : los[kr.1]? = some (los.getD kr.1 0) := by rw [List.getD_eq_getElem?_getD, List.getElem?_eq_getElem z1]; rfl
    have z3 : Sz 500 (los.getD kr.1 0) := hlo _ (List.mem_of_getElem? hl)
    have fb := b3 _ _ _ hb hl
    refine ⟨_, _, ex_t e2 u1, ?_⟩
    have zi := (atB_sz hz hlo i (by omega)).mono (show 1 + i * 1001 ≤ 4000 by omega)
    refine s_asgF (evf_2 (evf_var rfl fv) (evf_2 (evf_var rfl (u2.ex e2)) (evf_of (ev_op (ev_fld (ev_var rfl) (e2 _ _ o1) T.clF T.nF_bases (ff_b _ _ _)) (ev_var rfl) (rv_ixL (sq_of (e2 _ _ b1)) (atI_nat hb))) (fb.ex e2)) (z2.mono (by omega)) (z3.mono (by omega))) zi ((PW.sz_mul z2 z3).mono (by omega))) fun v' H3 e3 f3 => ?_
    rw [← atB_take hk] at f3
    exact ⟨e2.trans e3, v', _, _, rfl, f3⟩
  · rintro σ' H' ⟨e2, v, c3, c4, rfl, fv⟩
    rw [hql, List.take_length] at fv
    exact ⟨_, rfl, q v H' e2 fv⟩
/-! ### joined -/
/-- a dict of fractions by columns, nought where there is none -/
def DictF (K : PySem.W.Frag) (H : Hp) (d : Addr) (f : Nat → Rat) : Prop := ∃ kvs, H d = some (.dK kvs) ∧ ∀ c : Nat, (∀ v, valV kvs (.inl (c : Int)) = some v → FrA K H v (f c)) ∧ (valV kvs (.inl (c : Int)) = none → f c = 0)
theorem DictF.ex {K : PySem.W.Frag} {H H' : Hp} {d : Addr} {f : Nat → Rat} (e : Ex H H') (h : DictF K H d f) : DictF K H' d f :=
  let ⟨kvs, a, b⟩ := h; ⟨kvs, e _ _ a, fun c => ⟨fun v hv => ((b c).1 v hv).ex e, (b c).2⟩⟩
theorem evf_dget (T : Txt w K mg) {σ : L2.St} {H : Hp} {td ty : TE} {d : Addr} {f : Nat → Rat} {c : Nat} (hd : Ev td σ H (.ref d)) (hc : Ev ty σ H (.int (c : Nat))) (h : DictF K H d f) : EvF K (tDGet2 td ty (tC (.ref T.nought))) σ H (f c) := fun H1 e Q k =>
  hd H1 e _ fun H2 e2 => by
    obtain ⟨kvs, h1, h2⟩ := h.ex (e.trans e2)
    refine ⟨d, rfl, .inl ⟨kvs, .inl h1⟩, hc H2 (e.trans e2) _ fun H3 e3 => ⟨valV kvs (.inl (c : Int)), DGet.k (k := Sum.inl (c : Int)) (e3 _ _ h1), ?_⟩⟩
    cases hv : valV kvs (.inl (c : Int)) with
    | none =>
      refine k _ H3 (e2.trans e3) ?_
      rw [(h2 c).2 hv]
      exact ⟨T.nought, rfl, T.tnought H3⟩
    | some v => exact k _ H3 (e2.trans e3) (((h2 c).1 v hv).ex e3)
/-- a tuple of fractions -/
def TupF (K : PySem.W.Frag) (H : Hp) (t : Addr) (n : Nat) (f : Nat → Rat) : Prop := ∃ xs, SqT K H t xs ∧ xs.length = n ∧ ∀ (i : Nat) v, xs[i]? = some v → FrA K H v (f i)
theorem TupF.ex {K : PySem.W.Frag} {H H' : Hp} {t : Addr} {n : Nat} {f : Nat → Rat} (e : Ex H H') (h : TupF K H t n f) : TupF K H' t n f :=
  let ⟨xs, a, b, c⟩ := h; ⟨xs, ex_t e a, b, fun i v hv => (c i v hv).ex e⟩
abbrev N_Frame_joined : List Str := ["self", "columns", "bases", "found", "base", "parts", "whole", "column", "way"]
theorem sc_Frame_joined : FnScope N_Frame_joined ["self", "columns", "bases"] (defScope s_Frame_joined) := ⟨rfl, rfl, rfl, by decide +kernel, rfl, by decide +kernel, by decide +kernel⟩
def spJoined (K : PySem.W.Frag) (C : Addr) : Sp := fun vs H Q _ => ∃ p d bl pl los f, vs = [.ref p, .ref d, .ref bl] ∧ FrmL K H p bl pl C los ∧ DictF K H d f ∧ los.length ≤ 1000 ∧ (∀ lo ∈ los, Sz 3000 lo) ∧ (∀ i, i < los.length → Sz 3900 (f i)) ∧
  ∀ t H', Ex H H' → TupF K H' t los.length (fun i => los.getD i 0 + f i) → Q (.ref t) H'
theorem ok_Frame_joined (T : Txt w K mg) : FnOk P w K mg base CX0 4 T.Frame_joined.f T.Frame_joined.fd ["self", "columns", "bases"] (spJoined K T.cF) := by
  refine T.Frame_joined.F.ok sc_Frame_joined (fun vs H Q E h => ?_) (fun cdv A outer s H vs Q E hr h => ?_)
  · obtain ⟨p, d, bl, pl, los, f, rfl, _⟩ := h
    rfl
  obtain ⟨p, d, bl, pl, los, f, rfl, ⟨⟨dx, o1⟩, ⟨bs, b1, b2, b3⟩, ⟨qs, h5, h6, h7⟩, _⟩, hd, hlen, hlo, hf, q⟩ := h
  refine ⟨_, PSs.nox (pss_cons (ps_set (i := 3) sc_Frame_joined.nd rfl (Or.inl rfl) (pe_lst pa_nil))
 (pss_cons (ps_for PassesOwn.never rfl (RZ.pi_zipA (by rfl) T.m_zip (pa_cons (pv 2) (pa_cons (pe_fldK (K := K) rfl (pv 0) rfl) pa_nil))) (pg_tupK (n := 2) (K := K) rfl rfl (pgs_cons (pg_name (i := 4) sc_Frame_joined.nd rfl (Or.inl rfl)) (pgs_cons (pg_name (i := 5) sc_Frame_joined.nd rfl (Or.inl rfl)) pgs_nil)))
 (pss_cons (ps_set (i := 6) sc_Frame_joined.nd rfl (Or.inl rfl) (pv 4))
 (pss_cons (ps_for PassesOwn.never rfl (pi_listK (K := K) rfl (pv 5)) (pg_tupK (n := 2) (K := K) rfl rfl (pgs_cons (pg_name (i := 7) sc_Frame_joined.nd rfl (Or.inl rfl)) (pgs_cons (pg_name (i := 8) sc_Frame_joined.nd rfl (Or.inl rfl)) pgs_nil)))
 (pss_one (ps_set (i := 6) sc_Frame_joined.nd rfl (Or.inl rfl) (pe_call (ok_plus T) (hr.mono (by decide)) rfl T.plus.g T.plus.F.kp (b_plus T) .nil pass0 (pa_cons (pv 6) (pa_cons (pe_call (ok_times T) (hr.mono (by decide)) rfl T.times.g T.times.F.kp (b_times T) .nil pass0 (pa_cons (pe_dget2 (hu_of hr) (pv 1) (pv 7) (pe_glob (v := .ref T.nought) rfl T.gnought rfl) ⟨rfl, rfl, rfl, rfl⟩) (pa_cons (pe_tup (pa_cons (pv 8) (pa_cons pe_int pa_nil))) pa_nil))) pa_nil))))))
 (pss_one (ps_expr (pe_bm PySem.F.plainAttrs_list PySem.F.slot_list_append PySem.F.type_list_append mt_append (pv 3) (pa_cons (pv 6) pa_nil)))))))
 (pss_one (ps_ret (pe_callTy (call_tupleK (K := K) rfl) (by rfl) T.m_tuple (by decide +kernel) (pa_cons (pv 3) pa_nil)))))), ?_⟩
  refine q_asgL (el_lst ea_nil (Nat.zero_le _)) fun F H1 hF e1 h1 => ?_
  refine s_forZ (D := { nx := _, rt := _ }) (a := bl) (b := pl) (xs := bs) (ys := qs.map V.ref) (ea_cons (ev_var rfl) (ea_cons (ev_fld (ev_var rfl) (e1 _ _ o1) T.clF T.nF_parts (ff_p _ _ _)) ea_nil)) (sq_of (e1 _ _ b1)) (sq_of (e1 _ _ h5)) (by rw [List.length_map]; omega)
    (fun i σ' H' => Ex H H' ∧ ∃ c4 c5 c6 c7 c8, σ' = [some (.ref p), some (.ref d), some (.ref bl), some (.ref F), c4, c5, c6, c7, c8] ∧ ∃ xs, H' F = some (.lst xs) ∧ xs.length = i ∧ ∀ (j : Nat) v, xs[j]? = some v → FrA K H' v (los.getD j 0 + f j))
    (fun H2 e2 => ⟨e1.trans e2, none, none, none, none, none, rfl, [], e2 _ _ h1, rfl, fun j v h => by simp at h⟩) (fun i σ' H' h => ⟨sq_of (h.1 _ _ b1), sq_of (h.1 _ _ h5)⟩) ?_ ?_
  · rintro i x y σ' H' t0 hx hy ⟨e2, c4, c5, c6, c7, c8, rfl, xs, x1, x2, x3⟩ hT
    obtain ⟨g, hg, rfl⟩ := map_ref_at hy
    have hi := get_lt hx
    have hl : los[i]? = some (los.getD i 0) := by rw [List.getD_eq_getElem?_getD, List.getElem?_eq_getElem (by omega)]; rfl
    have fx := b3 _ _ _ hx hl
    have zl := hlo _ (List.mem_of_getElem? hl)
    obtain ⟨t, _, _, _, hgl, htt⟩ := h7 _ _ hg
    have e3 : Ex H (upd H' t0 (.tup [x, V.ref g])) := e2.trans (Ex.new hT)
    have x1' : (upd H' t0 (.tup [x, V.ref g])) F = some (.lst xs) := Ex.new hT _ _ x1
    refine q_asg (v := x) (ev_var rfl) fun H3 e33 => ?_
    -- the one part
    have e4 := e3.trans e33
    refine ⟨_, rfl, g, rfl, ⟨_, sq_of (e4 _ _ hgl)⟩, for_list (K := K) (a := g) (xs := [t].map V.ref) (fun j σ' H'' => Ex H H'' ∧ H'' F = some (.lst xs) ∧ (∀ (j : Nat) v, xs[j]? = some v → FrA K H'' v (los.getD j 0 + f j)) ∧ ∃ vw c7 c8, σ' = [some (.ref p), some (.ref d), some (.ref bl), some (.ref F), some x, some (.ref g), some vw, c7, c8] ∧ FrA K H'' vw (if j = 0 then los.getD i 0 else los.getD i 0 + f i))
      ⟨e4, e33 _ _ x1', fun j v hj => ((x3 j v hj).ex (Ex.new hT)).ex e33, x, c7, c8, rfl, fx.ex e4⟩ (fun j σ' H'' _ h => sq_of (h.1 _ _ hgl)) ?_ ?_⟩
    · rintro j z σ' H'' hz ⟨e5, y1, y3, vw, d7, d8, rfl, fw⟩
      have hj : j = 0 ∧ z = V.ref t := by
        match j, hz with
        | 0, hz => exact ⟨rfl, (Option.some.inj hz).symm⟩
        | j + 1, hz => simp at hz
      obtain ⟨rfl, rfl⟩ := hj
      refine g_pair (ex_t e5 htt) ?_
      rw [if_pos rfl] at fw
      refine s_asgF (evf_2 (evf_var rfl fw) (evf_eq (evf_2 (evf_dget T (ev_var rfl) (ev_var rfl) (hd.ex e5)) (evf_1 (n := 1) (ev_var rfl) ev_c) ((hf i (by omega)).mono (by omega)) (PW.sz_1.mono (by omega))) (Rat.mul_one _)) (zl.mono (by omega)) ((hf i (by omega)).mono (by omega))) fun v' H6 e6 f6 => ?_
      exact ⟨e5.trans e6, e6 _ _ y1, fun j v hj => (y3 j v hj).ex e6, v', _, _, rfl, by rw [if_neg (by omega)]; exact f6⟩
    · rintro σ' H'' ⟨e5, y1, y3, vw, d7, d8, rfl, fw⟩
      rw [if_neg (by simp)] at fw
      refine s_app (l := F) (xs := xs) (v := vw) y1 (ev_var rfl) (ev_var rfl) (by omega) fun H6 e6 => ?_
      have y1' := e6 _ _ y1
      refine ⟨(e5.trans e6).mut hF, _, _, _, _, _, rfl, xs ++ [vw], upd_same, by simp [x2], fun j v hj => ?_⟩
      by_cases hjl : j < xs.length
      · rw [List.getElem?_append_left hjl] at hj
        exact ((y3 j v hj).ex e6).fx Fx.upd y1'
      · have : j = xs.length := by
          have := get_lt hj
          simp at this
          omega
        subst this
        rw [List.getElem?_append_right (Nat.le_refl _), Nat.sub_self] at hj
        cases hj
        rw [x2]
        exact (fw.ex e6).fx Fx.upd y1'
  · rintro σ' H' ⟨e2, c4, c5, c6, c7, c8, rfl, xs, x1, x2, x3⟩
    refine s_retU (eu_tupleL (ev_var rfl) (sq_of x1)) fun t H3 ht e3 h3 => ?_
    exact q t H3 (e2.trans e3) ⟨xs, st_of h3, by omega, fun j v hj => (x3 j v hj).ex e3⟩
end
end PX

/-! lines -/
namespace PX
open PySem PySem.Spec PyProof.Rows L2 Evl
open PW (Sz fr)
/-- marks as texts -/
def mkS : PW.Mark → Str
  | .le => "<="
  | .ge => ">="
  | .eq => "="
theorem mkS_inj (m : PW.Mark) : (decide (V.str (mkS m) = V.str "=") = decide (m = .eq)) ∧ (decide (V.str (mkS m) = V.str "<=") = decide (m = .le)) := by cases m <;> decide +kernel
structure RowD where
  pairs : List (Nat × Rat)
  mark : PW.Mark
  c : Rat
/-- the rows of a plan -/
def RowsA (K : PySem.W.Frag) (H : Hp) (R : Addr) (rs : List RowD) : Prop := ∃ ts : List Addr, SqT K H R (ts.map V.ref) ∧ ts.length = rs.length ∧ ∀ (i : Nat) t row, ts[i]? = some t → rs[i]? = some row → ∃ a p f, SqT K H t [a, .ref p, .str (mkS row.mark), f] ∧ PairsT K H p row.pairs ∧ FrA K H f row.c
theorem RowsA.ex {K : PySem.W.Frag} {H H' : Hp} {R : Addr} {rs : List RowD} (e : Ex H H') (h : RowsA K H R rs) : RowsA K H' R rs :=
  let ⟨ts, a, b, c⟩ := h; ⟨ts, ex_t e a, b, fun i t row h1 h2 => let ⟨x, p, f, u, v, w⟩ := c i t row h1 h2; ⟨x, p, f, ex_t e u, v.ex e, w.ex e⟩⟩
/-- a line: its numbers by two columns, sign, bound, way -/
def lnF (l : PW.Line) (c : Nat) : Rat := if c = 0 then l.a else if c = 1 then l.b else 0
def LineA (K : PySem.W.Frag) (H : Hp) (v : V) (l : PW.Line) : Prop := ∃ (t p : Addr) (f : V) (wy : Int), v = .ref t ∧ SqT K H t [.ref p, .str (mkS l.mark), f, .int wy] ∧ NumsA K H p (lnF l) 2 ∧ FrA K H f l.c ∧ (wy = 1 ∨ wy = -1)
theorem LineA.ex {K : PySem.W.Frag} {H H' : Hp} {v : V} {l : PW.Line} (e : Ex H H') (h : LineA K H v l) : LineA K H' v l :=
  let ⟨t, p, f, wy, a, b, c, d, w⟩ := h; ⟨t, p, f, wy, a, ex_t e b, c.ex e, d.ex e, w⟩
theorem NumsA.congr {K : PySem.W.Frag} {H : Hp} {p : Addr} {f g : Nat → Rat} {n : Nat} (h : NumsA K H p f n) (e : ∀ c, c < n → f c = g c) : NumsA K H p g n :=
  let ⟨xs, a, b, c⟩ := h; ⟨xs, a, b, fun i v hv => e i (by have := get_lt hv; omega) ▸ c i v hv⟩
/-- a list stays where another object changes -/
theorem NumsA.fx {K : PySem.W.Frag} {D p : Addr} {H H' : Hp} {f : Nat → Rat} {n : Nat} (x : Fx D H H') (nt : NT H D) (np : p ≠ D) (h : NumsA K H p f n) : NumsA K H' p f n :=
  let ⟨xs, a, b, c⟩ := h; ⟨xs, x _ _ np a, b, fun i v hv => (c i v hv).fx' x nt⟩
theorem LineA.fx {K : PySem.W.Frag} {D : Addr} {H H' : Hp} {v : V} {l : PW.Line} {ys : List V} (x : Fx D H H') (hD : H D = some (.lst ys)) (np : ∀ t p f wy, v = .ref t → SqT K H t [.ref p, .str (mkS l.mark), f, .int wy] → NumsA K H p (lnF l) 2 → p ≠ D) (h : LineA K H v l) : LineA K H' v l :=
  let ⟨t, p, f, wy, a, b, c, d, w⟩ := h; ⟨t, p, f, wy, a, fx_t x hD b, c.fx x (nt_lst hD) (np t p f wy a b c), d.fx x hD, w⟩
/-- .. that isn't the list at D -/
def LineN (K : PySem.W.Frag) (D : Addr) (H : Hp) (v : V) (l : PW.Line) : Prop := ∃ (t p : Addr) (f : V) (wy : Int), v = .ref t ∧ SqT K H t [.ref p, .str (mkS l.mark), f, .int wy] ∧ NumsA K H p (lnF l) 2 ∧ FrA K H f l.c ∧ (wy = 1 ∨ wy = -1) ∧ p ≠ D
theorem LineN.a {K : PySem.W.Frag} {D : Addr} {H : Hp} {v : V} {l : PW.Line} (h : LineN K D H v l) : LineA K H v l := let ⟨t, p, f, wy, a, b, c, d, w, _⟩ := h; ⟨t, p, f, wy, a, b, c, d, w⟩
theorem LineN.fx {K : PySem.W.Frag} {D : Addr} {H H' : Hp} {v : V} {l : PW.Line} {ys : List V} (x : Fx D H H') (hD : H D = some (.lst ys)) (h : LineN K D H v l) : LineN K D H' v l :=
  let ⟨t, p, f, wy, a, b, c, d, w, n⟩ := h; ⟨t, p, f, wy, a, fx_t x hD b, c.fx x (nt_lst hD) n, d.fx x hD, w, n⟩
/-- a list of lines -/
def LinesA (K : PySem.W.Frag) (H : Hp) (D : Addr) (L : List PW.Line) : Prop := ∃ xs, H D = some (.lst xs) ∧ xs.length = L.length ∧ ∀ (i : Nat) v l, xs[i]? = some v → L[i]? = some l → LineN K D H v l
theorem LinesA.ex {K : PySem.W.Frag} {H H' : Hp} {D : Addr} {L : List PW.Line} (e : Ex H H') (h : LinesA K H D L) : LinesA K H' D L :=
  let ⟨xs, a, b, c⟩ := h; ⟨xs, e _ _ a, b, fun i v l h1 h2 => (c i v l h1 h2).fx (Fx.of e) a⟩
/-- one line more -/
theorem LinesA.app {K : PySem.W.Frag} {H H' : Hp} {D : Addr} {L : List PW.Line} {xs : List V} {v : V} {l : PW.Line} (e : Ex H H') (h1 : H D = some (.lst xs)) (h2 : xs.length = L.length) (h3 : ∀ (i : Nat) v l, xs[i]? = some v → L[i]? = some l → LineN K D H v l) (hv : LineN K D H' v l) :
    LinesA K (upd H' D (.lst (xs ++ [v]))) D (L ++ [l]) := by
  have hD := e _ _ h1
  refine ⟨xs ++ [v], upd_same, by simp [h2], fun i u k hu hk => ?_⟩
  by_cases hi : i < xs.length
  · rw [List.getElem?_append_left hi] at hu
    rw [List.getElem?_append_left (by omega)] at hk
    exact ((h3 i u k hu hk).fx (Fx.of e) h1).fx Fx.upd hD
  · have : i = xs.length := by
      have := get_lt hu
      simp at this
      omega
    subst this
    rw [List.getElem?_append_right (Nat.le_refl _), Nat.sub_self] at hu
    rw [List.getElem?_append_right (by omega), h2, Nat.sub_self] at hk
    cases hu
    cases hk
    exact hv.fx Fx.upd hD
section
variable {P : Program} {w : World} {K : PySem.W.Frag} {mg : Str → Option Value} {base : Heap}
theorem sgnI_ge (r : Rat) : (0 ≤ sgnI r) ↔ 0 ≤ r := by
  have h := @PW.num_neg_iff r
  unfold sgnI
  by_cases a : r.num < 0
  · rw [if_neg (by omega), if_pos a]
    have := h.mp a
    constructor
    · intro z; omega
    · intro z; grind
  · rw [if_neg a]
    have : ¬ r < 0 := fun z => a (h.mpr z)
    constructor
    · intro _; grind
    · intro _; split <;> omega
abbrev N_upright : List Str := ["line", "numbers", "mark", "bound", "way", "part"]
theorem sc_upright : FnScope N_upright ["line"] (defScope s_upright) := ⟨rfl, rfl, rfl, by decide +kernel, rfl, by decide +kernel, by decide +kernel⟩
def spUpright (K : PySem.W.Frag) : Sp := fun vs H Q _ => ∃ v l, vs = [v] ∧ LineA K H v l ∧ Sz 3000 l.a ∧ Sz 3000 l.b ∧ Sz 3000 l.c ∧ ∀ v' H', Ex H H' → (∀ D, (∃ ys, H D = some (.lst ys)) → LineN K D H v l → LineN K D H' v' (PW.upr l)) → LineA K H' v' (PW.upr l) → Q v' H'
theorem ok_upright (T : Txt w K mg) : FnOk P w K mg base CX0 4 T.upright.f T.upright.fd ["line"] (spUpright K) := by
  refine T.upright.F.ok sc_upright (fun vs H Q E h => ?_) (fun cdv A outer s H vs Q E hr h => ?_)
  · obtain ⟨v, l, rfl, _⟩ := h
    rfl
  obtain ⟨v, l, rfl, ⟨t, p, f, wy, rfl, ht, hp, hf, hw⟩, z1, z2, z3, q⟩ := h
  refine ⟨_, PSs.nox (pss_cons (ps_asg (pv 0) (pg_tupK (n := 4) (K := K) rfl rfl (pgs_cons (pg_name (i := 1) sc_upright.nd rfl (Or.inl rfl)) (pgs_cons (pg_name (i := 2) sc_upright.nd rfl (Or.inl rfl)) (pgs_cons (pg_name (i := 3) sc_upright.nd rfl (Or.inl rfl)) (pgs_cons (pg_name (i := 4) sc_upright.nd rfl (Or.inl rfl)) pgs_nil))))))
 (pss_cons (ps_if (pt_cmpR op_ge (pe_call (ok_sign T) (hr.mono (by decide)) rfl T.sign.g T.sign.F.kp (b_sign T) .nil pass0 (pa_cons (pv 3) pa_nil)) pe_int (nomark _)) (pss_one (ps_ret (pv 0))) pss_nil)
 (pss_one (ps_ret (pe_tup (pa_cons (pe_lc (own := [("part", 5)]) (g := gName 5) (tt := tYes) rfl sc_upright.nd (pi_listK (K := K) rfl (pv 1)) (blkOk_by (N := N_upright) (sc := defScope s_upright) (by decide +kernel))
 (fun _ _ _ _ _ => (pg_name (i := 5) sc_upright.nd rfl (Or.inl rfl))) (fun _ _ _ _ _ => pts_nil) (fun _ _ _ _ _ => (pe_call (ok_minus T) (hr.mono (by decide)) rfl T.minus.g T.minus.F.kp (b_minus T) .nil pass0 (pa_cons (pe_glob (v := .ref T.nought) rfl T.gnought rfl) (pa_cons (pv 5) pa_nil))))) (pa_cons (pe_ix ix_kdict (pe_glob (v := .ref T.other) rfl T.gother rfl) (pv 2) (fun _ _ => rfl)) (pa_cons (pe_call (ok_minus T) (hr.mono (by decide)) rfl T.minus.g T.minus.F.kp (b_minus T) .nil pass0 (pa_cons (pe_glob (v := .ref T.nought) rfl T.gnought rfl) (pa_cons (pv 3) pa_nil))) (pa_cons (pe_un un_neg pe_int) pa_nil))))))))), ?_⟩
  refine ⟨_, rfl, g_four ht ?_⟩
  refine q_when (b := decide (0 ≤ sgnI l.c)) (et_test (ev_op (ev_sign (evf_var rfl hf)) ev_c rv_I0)) (fun hb H1 e1 => ?_) (fun hb H1 e1 => ?_)
  · have hc := (sgnI_ge l.c).mp (of_decide_eq_true hb)
    have eu : PW.upr l = l := if_pos hc
    refine s_ret (v := .ref t) (ev_var rfl) fun H2 e2 => q _ H2 (e1.trans e2) (fun D ⟨ys, hD⟩ h => ?_) ?_
    · rw [eu]; exact h.fx (Fx.of (e1.trans e2)) hD
    · rw [eu]; exact ⟨t, p, f, wy, rfl, ex_t (e1.trans e2) ht, hp.ex (e1.trans e2), hf.ex (e1.trans e2), hw⟩
  · have hc : ¬ 0 ≤ l.c := fun z => by
      rw [decide_eq_true ((sgnI_ge l.c).mpr z)] at hb
      cases hb
    have eu : PW.upr l = ⟨-l.a, -l.b, l.mark.flip, -l.c⟩ := if_neg hc
    obtain ⟨xs, x1, x2, x3⟩ := hp.ex e1
    have zc : ∀ c, Sz 4000 (lnF l c) := fun c => by
      unfold lnF
      split
      · exact z1.mono (by omega)
      · split
        · exact z2.mono (by omega)
        · exact PW.sz_0.mono (by omega)
    refine s_ret_tup (a_cons (at_c (evc_list (K := K) (j := 5) (vs := [5]) (σ := [some (.ref t), some (.ref p), some (.str (mkS l.mark)), some f, some (.int wy), none]) (fun _ c v H => FrA K H v (0 - lnF l c)) (ev_var (i := 1) rfl) (sq_of x1) (by omega) (fun _ => rfl)
      (fun D c v H2 hD e2 hl hv => evr_f (evf_2 (evf_nought T) (evf_var (i := 5) rfl ((x3 c v hv).ex e2)) (PW.sz_0.mono (by omega)) (zc c)))
      (fun D i v H H' f hl h => by
        obtain ⟨ys, hl⟩ := hl
        exact h.fx f hl)) fun G H2 ys hG e2 h2 o => ?_))
    obtain ⟨o1, o2⟩ := outs_all o
    have evm : Ev (tOp (rIxD K w) (tC (.ref T.other)) (tVar 2)) [some (.ref t), some (.ref p), some (.str (mkS l.mark)), some f, some (.int wy), none] H2 (.str (mkS l.mark.flip)) := by
      refine ev_op ev_c (ev_var rfl) fun H3 e3 Q k => ⟨T.other, mkS l.mark, _, rfl, rfl, ?_, k H3 (Ex.refl H3)⟩
      cases l.mark with
      | le => exact T.kle
      | ge => exact T.kge
      | eq => exact T.keq
    refine a_cons (at_v evm fun H3 e3 => a_cons (at_f (evf_2 (K := K) (evf_nought T) (evf_var rfl ((hf.ex e1).ex (e2.trans e3))) (PW.sz_0.mono (by omega)) (z3.mono (by omega))) fun vb H4 e4 fb => ?_))
    refine ⟨_, rfl, (by show 4 ≤ sizeLine; decide), fun t' ht' => ?_⟩
    have e5 : Ex H4 (upd H4 t' (.tup [.ref G, .str (mkS l.mark.flip), vb, .int (-1)])) := Ex.new ht'
    have e25 := (e3.trans e4).trans e5
    have nm : NumsA K (upd H4 t' (.tup [.ref G, .str (mkS l.mark.flip), vb, .int (-1)])) G (lnF (PW.upr l)) 2 := by
      refine ⟨ys, e25 _ _ h2, by omega, fun c v hv => ?_⟩
      have := (o2 c v hv).ex e25
      have e : 0 - lnF l c = lnF (PW.upr l) c := by
        rw [eu]
        unfold lnF
        split
        · grind
        · split <;> grind
      rw [← e]; exact this
    have fb' : FrA K (upd H4 t' (.tup [.ref G, .str (mkS l.mark.flip), vb, .int (-1)])) vb (PW.upr l).c := by
      have e : 0 - l.c = (PW.upr l).c := by rw [eu]; show 0 - l.c = -l.c; grind
      rw [← e]; exact fb.ex e5
    have mk : (PW.upr l).mark = l.mark.flip := by rw [eu]
    refine q _ _ (e1.trans (e2.trans e25)) (fun D ⟨zs, hD⟩ _ => ⟨t', G, vb, -1, rfl, ?_, nm, fb', .inr rfl, fun z => ?_⟩) ⟨t', G, vb, -1, rfl, ?_, nm, fb', .inr rfl⟩
    · rw [mk]; exact st_of upd_same
    · rw [z, e1 _ _ hD] at hG; cases hG
    · rw [mk]; exact st_of upd_same
end
end PX

/-! lines_of -/
namespace PX
open PySem PySem.Spec PyProof.Rows L2 Evl
open PW (Sz fr)
theorem walk_enumT {K : PySem.W.Frag} {a : Addr} {xs : List V} : Walk (WX.IteT K a) xs.length (fun H => SqT K H a xs) (YPair (fun i => some (.int (i : Nat))) (fun i => xs[i]?)) := by
  constructor
  · exact fun i _ hi sq => ⟨xs, xs[i], sq, by simp [hi]⟩
  · exact fun _ sq => ⟨xs, sq, rfl⟩
  · rintro i _ _ _ _ sq ⟨T, x, rfl, free, rfl, item⟩
    exact ⟨T, _, x, rfl, free, rfl, rfl, item xs sq⟩
section
variable {P : Program} {w : World} {K : PySem.W.Frag} {mg : Str → Option Value} {base : Heap}
/-- i, x over enumerate of a tuple -/
theorem s_forET {σ : L2.St} {H : Hp} {D : Ends} {tu : TS} {ta : TA} {a : Addr} {xs : List V} {i0 j0 : Nat} (h : EvA ta σ H [.ref a]) (hx : SqT K H a xs) (Pv : Nat → L2.St → Hp → Prop) (h0 : ∀ H1, Ex H H1 → Pv 0 σ H1) (hq : ∀ i σ' H', Pv i σ' H' → SqT K H' a xs)
    (hs : ∀ (i : Nat) x σ' H' t, xs[i]? = some x → Pv i σ' H' → H' t = none → tu { D with nx := Pv (i + 1), ct := Pv (i + 1), bk := D.nx } ((σ'.set i0 (some (.int (i : Nat)))).set j0 (some x)) (upd H' t (.tup [.int (i : Nat), x]))) (hd : ∀ σ' H', Pv xs.length σ' H' → D.nx σ' H') : tFor (WX.iEnumT K ta) (gTup K 2 (gCons (gName i0) (gCons (gName j0) gNil))) tu D σ H :=
  h H (Ex.refl H) _ fun H1 e => ⟨a, xs, rfl, ex_t e hx, for_it walk_enumT Pv (h0 H1 e) (fun i σ' H' _ p => hq i σ' H' p) (fun i x σ' H' H'' hi p y => by
    obtain ⟨t, u, v, rfl, ht, rfl, h1, h2⟩ := y
    cases h1
    exact g_pair (st_of upd_same) (hs i v σ' H' t h2 p ht)) hd⟩
theorem q_forET {σ : L2.St} {H : Hp} {D : Ends} {tu tz : TS} {ta : TA} {a : Addr} {xs : List V} {i0 j0 : Nat} (h : EvA ta σ H [.ref a]) (hx : SqT K H a xs) (Pv : Nat → L2.St → Hp → Prop) (h0 : ∀ H1, Ex H H1 → Pv 0 σ H1) (hq : ∀ i σ' H', Pv i σ' H' → SqT K H' a xs)
    (hs : ∀ (i : Nat) x σ' H' t, xs[i]? = some x → Pv i σ' H' → H' t = none → tu { D with nx := Pv (i + 1), ct := Pv (i + 1), bk := tz D } ((σ'.set i0 (some (.int (i : Nat)))).set j0 (some x)) (upd H' t (.tup [.int (i : Nat), x]))) (hd : ∀ σ' H', Pv xs.length σ' H' → tz D σ' H') : tSeq (tFor (WX.iEnumT K ta) (gTup K 2 (gCons (gName i0) (gCons (gName j0) gNil))) tu) tz D σ H :=
  s_forET (D := { D with nx := tz D }) h hx Pv h0 hq hs hd
/-- frame.numbers(..) -/
theorem at_numbers (T : Txt w K mg) {σ : L2.St} {H : Hp} {tf : TE} {ta : TA} {E : XK} {fr : Addr} {los : List Rat} {ps : List (Nat × Rat)} {Q : VK} (hf : Ev tf σ H (.ref fr)) (F : FrmA K H fr T.cF los)
    (ha : ∀ H1, Ex H H1 → ∀ Q' : List V → Hp → Prop, (∀ pr H2, Ex H1 H2 → (PairsT K H2 pr ps ∨ PairsL K H2 pr ps) → Q' [.ref pr] H2) → ta σ H1 Q') (hl : los.length ≤ 1000) (hp : ps.length ≤ 1000) (hz : ∀ kr ∈ ps, kr.1 < los.length ∧ Sz 3000 kr.2)
    (k : ∀ g H2, H g = none → Ex H H2 → NumsA K H2 g (numF ps) los.length → Q (.ref g) H2) : tMeth T.cF "numbers" (spNumbers K T.cF) [] E tf ta σ H Q :=
  hf H (Ex.refl H) _ fun H1 e1 => by
    obtain ⟨bl, pl, FL⟩ := F.ex e1
    obtain ⟨dx, o⟩ := FL.ob
    refine ⟨fr, dx, _, rfl, o, ff_no _ _ _ (by decide +kernel) (by decide +kernel) (by decide +kernel), ha H1 e1 _ fun pr H2 e2 hpr => ?_⟩
    exact ⟨fr, pr, los, ps, rfl, FrmA.ex e2 ⟨bl, pl, FL⟩, hpr, hl, hp, hz, fun g H3 hg e3 n => k g H3 (fresh_back (e1.trans e2) hg) ((e1.trans e2).trans e3) n⟩
/-- frame.at_bases(..) -/
theorem evf_atB (T : Txt w K mg) {σ : L2.St} {H : Hp} {tf tp : TE} {E : XK} {fr pr : Addr} {los : List Rat} {ps : List (Nat × Rat)} (hf : Ev tf σ H (.ref fr)) (F : FrmA K H fr T.cF los) (hp : Ev tp σ H (.ref pr)) (hpr : PairsT K H pr ps) (hl : ps.length ≤ 2)
    (hz : ∀ kr ∈ ps, kr.1 < los.length ∧ Sz 500 kr.2) (hlo : ∀ lo ∈ los, Sz 500 lo) : EvF K (tMeth T.cF "at_bases" (spAtBases K T.cF) [] E tf (tCons tp tNil)) σ H (atB los ps) := fun H0 e0 Q k =>
  hf H0 e0 _ fun H1 e1 => by
    obtain ⟨bl, pl, FL⟩ := F.ex (e0.trans e1)
    obtain ⟨dx, o⟩ := FL.ob
    refine ⟨fr, dx, _, rfl, o, ff_no _ _ _ (by decide +kernel) (by decide +kernel) (by decide +kernel), hp H1 (e0.trans e1) _ fun H2 e2 => ?_⟩
    exact ⟨fr, pr, los, ps, rfl, FrmA.ex e2 ⟨bl, pl, FL⟩, hpr.ex ((e0.trans e1).trans e2), hl, hz, hlo, fun v H3 e3 f => k v H3 ((e1.trans e2).trans e3) f⟩
def rawRow (los : List Rat) (row : RowD) : PW.Line := ⟨numF row.pairs 0, numF row.pairs 1, row.mark, row.c - atB los row.pairs⟩
def rawEnd (i : Nat) (lh : Rat × Rat) : PW.Line := ⟨if i = 0 then 1 else 0, if i = 1 then 1 else 0, .le, lh.2 - lh.1⟩
def rawL (ls : List (Rat × Rat)) (rs : List RowD) : List PW.Line := rs.map (rawRow (ls.map (·.1))) ++ ls.mapIdx rawEnd
abbrev N_lines_of : List Str := ["plan", "frame", "found", "label", "pairs", "mark", "bound", "number", "unknown"]
theorem sc_lines_of : FnScope N_lines_of ["plan", "frame"] (defScope s_lines_of) := ⟨rfl, rfl, rfl, by decide +kernel, rfl, by decide +kernel, by decide +kernel⟩
def spLinesOf (K : PySem.W.Frag) (C : Addr) : Sp := fun vs H Q _ => ∃ pl fr U R G ls rs, vs = [.ref pl, .ref fr] ∧ SqT K H pl [.ref U, .ref R, .ref G] ∧ FrmA K H fr C (ls.map (·.1)) ∧ UnkA K H U ls ∧ RowsA K H R rs ∧ ls.length = 2 ∧ rs.length ≤ 100 ∧
  (∀ row ∈ rs, row.pairs.length ≤ 2 ∧ (∀ kr ∈ row.pairs, kr.1 < 2 ∧ Sz 500 kr.2) ∧ Sz 500 row.c) ∧ (∀ lh ∈ ls, Sz 500 lh.1 ∧ Sz 500 lh.2) ∧ ∀ D H', H D = none → Ex H H' → LinesA K H' D (rawL ls rs) → Q (.ref D) H'
theorem ok_lines_of (T : Txt w K mg) : FnOk P w K mg base CX0 5 T.lines_of.f T.lines_of.fd ["plan", "frame"] (spLinesOf K T.cF) := by
  refine T.lines_of.F.ok sc_lines_of (fun vs H Q E h => ?_) (fun cdv A outer s H vs Q E hr h => ?_)
  · obtain ⟨pl, fr, U, R, G, ls, rs, rfl, _⟩ := h
    rfl
  obtain ⟨pl, fr, U, R, G, ls, rs, rfl, hpl, hF, hU, hR, hl2, hrl, hz, hlo, q⟩ := h
  obtain ⟨ts, t1, t2, t3⟩ := id hR
  obtain ⟨us, u1, u2, u3⟩ := id hU
  have l2 : (ls.map (·.1)).length = 2 := by simp [hl2]
  have zlo : ∀ lo ∈ ls.map (·.1), Sz 500 lo := fun lo h => by
    obtain ⟨lh, h1, rfl⟩ := List.mem_map.mp h
    exact (hlo lh h1).1
  refine ⟨_, PSs.nox (pss_cons (ps_set (i := 2) sc_lines_of.nd rfl (Or.inl rfl) (pe_lst pa_nil))
 (pss_cons (ps_for PassesOwn.never rfl (pi_tupK (K := K) rfl (pe_ix (ix_tupK (K := K) rfl) (pv 0) pe_int (fun _ _ => rfl))) (pg_tupK (n := 4) (K := K) rfl rfl (pgs_cons (pg_name (i := 3) sc_lines_of.nd rfl (Or.inl rfl)) (pgs_cons (pg_name (i := 4) sc_lines_of.nd rfl (Or.inl rfl)) (pgs_cons (pg_name (i := 5) sc_lines_of.nd rfl (Or.inl rfl)) (pgs_cons (pg_name (i := 6) sc_lines_of.nd rfl (Or.inl rfl)) pgs_nil)))))
 (pss_one (ps_expr (pe_bm PySem.F.plainAttrs_list PySem.F.slot_list_append PySem.F.type_list_append mt_append (pv 2) (pa_cons (pe_tup (pa_cons (pe_meth (pv 1) T.clF T.Frame_numbers.m (ok_Frame_numbers T) (hr.mono (by decide)) (b_Frame_numbers T) .nil pass0 (pa_cons (pv 4) pa_nil)) (pa_cons (pv 5) (pa_cons (pe_call (ok_minus T) (hr.mono (by decide)) rfl T.minus.g T.minus.F.kp (b_minus T) .nil pass0 (pa_cons (pv 6) (pa_cons (pe_meth (pv 1) T.clF T.Frame_at_bases.m (ok_Frame_at_bases T) (hr.mono (by decide)) (b_Frame_at_bases T) .nil pass0 (pa_cons (pv 4) pa_nil)) pa_nil))) (pa_cons pe_int pa_nil))))) pa_nil)))))
 (pss_cons (ps_for PassesOwn.never rfl (WX.pi_enumT (by rfl) T.m_enumerate (pa_cons (pe_ix (ix_tupK (K := K) rfl) (pv 0) pe_int (fun _ _ => rfl)) pa_nil)) (pg_tupK (n := 2) (K := K) rfl rfl (pgs_cons (pg_name (i := 7) sc_lines_of.nd rfl (Or.inl rfl)) (pgs_cons (pg_name (i := 8) sc_lines_of.nd rfl (Or.inl rfl)) pgs_nil)))
 (pss_one (ps_if (PW.pt (pw_and (pt_cmpR op_notNK (pe_ix (ix_tupK (K := K) rfl) (pv 8) pe_int (fun _ _ => rfl)) pe_non (nomark _)) (pw_and1 (pt_cmpR op_notNK (pe_ix (ix_tupK (K := K) rfl) (pv 8) pe_int (fun _ _ => rfl)) pe_non (nomark _))))) (pss_one (ps_expr (pe_bm PySem.F.plainAttrs_list PySem.F.slot_list_append PySem.F.type_list_append mt_append (pv 2) (pa_cons (pe_tup (pa_cons (pe_meth (pv 1) T.clF T.Frame_numbers.m (ok_Frame_numbers T) (hr.mono (by decide)) (b_Frame_numbers T) .nil pass0 (pa_cons (pe_lst (pa_cons (pe_tup (pa_cons (pv 7) (pa_cons (pe_glob (v := .ref T.one) rfl T.gone rfl) pa_nil))) pa_nil)) pa_nil)) (pa_cons pe_str (pa_cons (pe_call (ok_minus T) (hr.mono (by decide)) rfl T.minus.g T.minus.F.kp (b_minus T) .nil pass0 (pa_cons (pe_ix (ix_tupK (K := K) rfl) (pv 8) pe_int (fun _ _ => rfl)) (pa_cons (pe_ix (ix_tupK (K := K) rfl) (pv 8) pe_int (fun _ _ => rfl)) pa_nil))) (pa_cons pe_int pa_nil))))) pa_nil)))) pss_nil)))
 (pss_one (ps_ret (pv 2)))))), ?_⟩
  refine q_asgL (el_lst ea_nil (Nat.zero_le _)) fun F H1 hFn e1 h1 => ?_
  -- the rows
  refine q_forT (a := R) (xs := ts.map V.ref) (ev_item rfl (ex_t e1 hpl) rfl) (ex_t e1 t1) (fun i σ' H' => Ex H H' ∧ LinesA K H' F ((rs.map (rawRow (ls.map (·.1)))).take i) ∧ ∃ a b c d, σ' = [some (.ref pl), some (.ref fr), some (.ref F), a, b, c, d, none, none])
    (fun H2 e2 => ⟨e1.trans e2, ⟨[], e2 _ _ h1, rfl, fun i v l h => by simp at h⟩, none, none, none, none, rfl⟩) (fun i σ' H' _ h => ex_t h.1 t1) ?_ ?_
  · rintro i x σ' H' hx ⟨e2, ⟨xs, x1, x2, x3⟩, a, b, c, d, rfl⟩
    obtain ⟨t, ht, rfl⟩ := map_ref_at hx
    obtain ⟨row, hrow⟩ := get_of_lt (xs := rs) (i := i) (by have := get_lt ht; omega)
    obtain ⟨a', p, f, v1, v2, v3⟩ := t3 i t row ht hrow
    obtain ⟨z1, z2, z3⟩ := hz row (List.mem_of_getElem? hrow)
    refine g_four (ex_t e2 v1) ?_
    have zb : Sz 2003 (atB (ls.map (·.1)) row.pairs) := by
      have := atB_sz (los := ls.map (·.1)) (ps := row.pairs) (fun kr h => ⟨by rw [l2]; exact (z2 kr h).1, (z2 kr h).2⟩) zlo row.pairs.length (Nat.le_refl _)
      rw [List.take_length] at this
      exact this.mono (by omega)
    refine s_appR (l := F) (xs := xs) (R := fun v H => LineN K F H v (rawRow (ls.map (·.1)) row)) x1 (ev_var rfl) (fun H3 e3 Q k => ?_) (by
      have hx2 := x2
      rw [List.length_take, List.length_map] at hx2
      omega) fun v H3 e3 hv => ?_
    · have e23 := e2.trans e3
      refine e_tup (a_cons (at_numbers T (ev_var rfl) (hF.ex e23) (fun H4 e4 Q' k' => ?_) (by omega) (by omega) (fun kr h => ⟨by rw [l2]; exact (z2 kr h).1, (z2 kr h).2.mono (by omega)⟩) fun g H4 hg e4 ng => ?_))
      · exact ⟨_, rfl, k' p H4 (Ex.refl H4) (.inl (v2.ex (e23.trans e4)))⟩
      have e24 := e23.trans e4
      refine a_cons (at_v (ev_var rfl) fun H5 e5 => a_cons (at_f (evf_2 (evf_var rfl (v3.ex (e24.trans e5))) (evf_atB T (ev_var rfl) (hF.ex (e24.trans e5)) (ev_var rfl) (v2.ex (e24.trans e5)) z1 (fun kr h => ⟨by rw [l2]; exact (z2 kr h).1, (z2 kr h).2⟩) zlo) (z3.mono (by omega)) (zb.mono (by omega))) fun vb H6 e6 fb => ?_))
      refine ⟨(by show 4 ≤ sizeLine; decide), fun t' ht' => k (.ref t') _ (((e4.trans e5).trans e6).trans (Ex.new ht')) ⟨t', g, vb, 1, rfl, st_of upd_same, ?_, fb.ex (Ex.new ht'), .inl rfl, fun z => ?_⟩⟩
      · rw [l2] at ng
        refine (ng.ex ((e5.trans e6).trans (Ex.new ht'))).congr fun c hc => ?_
        match c, hc with
        | 0, _ => rfl
        | 1, _ => rfl
      · rw [z, e3 _ _ x1] at hg; cases hg
    · have e : (rs.map (rawRow (ls.map (·.1)))).take (i + 1) = (rs.map (rawRow (ls.map (·.1)))).take i ++ [rawRow (ls.map (·.1)) row] := by
        rw [List.take_add_one, List.getElem?_map, hrow]; rfl
      refine ⟨(e2.trans e3).mut hFn, ?_, _, _, _, _, rfl⟩
      rw [e]
      exact LinesA.app e3 x1 x2 x3 hv
  · rintro σ' H' ⟨e2, LA, a, b, c, d, rfl⟩
    rw [List.length_map, t2, List.take_of_length_le (by simp)] at LA
    -- the ends
    have LA0 : LinesA K H' F (rs.map (rawRow (ls.map (·.1))) ++ (ls.mapIdx rawEnd).take 0) := by
      rw [List.take_zero, List.append_nil]; exact LA
    refine q_forET (a := U) (xs := us.map V.ref) (ea_cons (ev_item rfl (ex_t e2 hpl) rfl) ea_nil) (ex_t e2 u1) (fun i σ' H'' => Ex H H'' ∧ LinesA K H'' F (rs.map (rawRow (ls.map (·.1))) ++ (ls.mapIdx rawEnd).take i) ∧ ∃ a b c d e f, σ' = [some (.ref pl), some (.ref fr), some (.ref F), a, b, c, d, e, f])
      (fun H2 e3 => ⟨e2.trans e3, LA0.ex e3, _, _, _, _, _, _, rfl⟩) (fun i σ' H'' h => ex_t h.1 u1) ?_ ?_
    · rintro i x σ' H2 t0 hx ⟨e3, LA1, a, b, c, d, e, f, rfl⟩ ht0
      obtain ⟨t, ht, rfl⟩ := map_ref_at hx
      obtain ⟨lh, hlh⟩ := get_of_lt (xs := ls) (i := i) (by have := get_lt ht; omega)
      have hi2 : i < 2 := by have := get_lt hlh; omega
      obtain ⟨a', b', f', g', v1, v2, v3⟩ := u3 i t lh ht hlh
      obtain ⟨z1, z2⟩ := hlo lh (List.mem_of_getElem? hlh)
      have e4 : Ex H (upd H2 t0 (.tup [.int (i : Nat), .ref t])) := e3.trans (Ex.new ht0)
      obtain ⟨xs, x1, x2, x3⟩ := LA1.ex (Ex.new ht0 : Ex H2 (upd H2 t0 (.tup [.int (i : Nat), .ref t])))
      have evF : ∀ {H3 : Hp}, Ex H H3 → Ev (tOp (rIxT K) (tVar 8) (tC (.int 2))) [some (.ref pl), some (.ref fr), some (.ref F), a, b, c, d, some (.int (i : Nat)), some (.ref t)] H3 (.ref f') := fun e => ev_item rfl (ex_t e v1) rfl
      have evG : ∀ {H3 : Hp}, Ex H H3 → Ev (tOp (rIxT K) (tVar 8) (tC (.int 3))) [some (.ref pl), some (.ref fr), some (.ref F), a, b, c, d, some (.int (i : Nat)), some (.ref t)] H3 (.ref g') := fun e => ev_item rfl (ex_t e v1) rfl
      refine s_when (b := true) (et_is (et_and (et_ref_notN (evF e4)) fun _ => et_ref_notN (evG e4)) rfl) (fun _ H3 e5 => ?_) (fun h => by cases h)
      have x1' := e5 _ _ x1
      refine s_appR (l := F) (xs := xs) (R := fun v H => LineN K F H v (rawEnd i lh)) x1' (ev_var rfl) (fun H4 e6 Q k => ?_) (by
        have hx2 := x2
        rw [List.length_append, List.length_take, List.length_map, List.length_mapIdx] at hx2
        omega) fun v H4 e6 hv => ?_
      · have e46 := (e4.trans e5).trans e6
        refine e_tup (a_cons (at_numbers T (ps := [(i, 1)]) (ev_var rfl) (hF.ex e46) (fun H5 e7 Q' k' => ?_) (by omega) (by simp) (fun kr h => ?_) fun g H5 hg e7 ng => ?_))
        · refine a_cons (e_lst (a_cons (e_tup (a_cons (at_v (ev_var rfl) fun H6 e8 => a_cons (at_v ev_c fun H7 e9 => ⟨(by show 2 ≤ sizeLine; decide), fun t1 ht1 => ⟨(by show 1 ≤ sizeLine; decide), fun l hl => ?_⟩⟩))))))
          refine k' l _ ((((e8.trans e9).trans (Ex.new ht1))).trans (Ex.new hl)) (.inr ⟨[t1], sq_of upd_same, rfl, fun j q' kr hq hk => ?_⟩)
          have hj : j = 0 := by have := get_lt hq; simp at this; omega
          subst hj
          cases hq
          cases hk
          exact ⟨_, st_of (Ex.new hl _ _ upd_same), T.one, rfl, T.tone _⟩
        · rw [List.mem_singleton] at h
          subst h
          exact ⟨by rw [l2]; exact hi2, PW.sz_1.mono (by omega)⟩
        have e47 := e46.trans e7
        refine a_cons (at_v ev_c fun H5b e7b => a_cons (at_f (evf_2 (evf_of (evG (e47.trans e7b)) (v3.ex (e47.trans e7b))) (evf_of (evF (e47.trans e7b)) (v2.ex (e47.trans e7b))) (z2.mono (by omega)) (z1.mono (by omega))) fun vb H6 e8 fb => ?_))
        refine ⟨(by show 4 ≤ sizeLine; decide), fun t' ht' => k (.ref t') _ (((e7.trans e7b).trans e8).trans (Ex.new ht')) ⟨t', g, vb, 1, rfl, st_of upd_same, ?_, fb.ex (Ex.new ht'), .inl rfl, fun z => ?_⟩⟩
        · rw [l2] at ng
          refine (ng.ex ((e7b.trans e8).trans (Ex.new ht'))).congr fun c hc => ?_
          show (if c = i then 1 else 0) = _
          unfold lnF rawEnd
          match c, hc with
          | 0, _ => simp [eq_comm]
          | 1, _ => simp [eq_comm]
        · rw [z, e6 _ _ x1'] at hg; cases hg
      · have e9 : rs.map (rawRow (ls.map (·.1))) ++ (ls.mapIdx rawEnd).take (i + 1) = rs.map (rawRow (ls.map (·.1))) ++ (ls.mapIdx rawEnd).take i ++ [rawEnd i lh] := by
          rw [List.take_add_one, List.getElem?_mapIdx, hlh, List.append_assoc]; rfl
        refine ⟨((e4.trans e5).trans e6).mut hFn, ?_, _, _, _, _, _, _, rfl⟩
        rw [e9]
        exact LinesA.app (e5.trans e6) x1 x2 x3 hv
    · rintro σ' H'' ⟨e3, LA, a, b, c, d, e, f, rfl⟩
      rw [List.length_map, u2, List.take_of_length_le (by simp)] at LA
      exact ⟨_, rfl, q F H'' hFn e3 LA⟩
end
end PX

/-! over_one -/
namespace PX
open PySem PySem.Spec PyProof.Rows L2 Evl
open PW (Sz fr)
/-- rows of fractions -/
def FMatA (K : PySem.W.Frag) (H : Hp) (R : Addr) (F : Nat → Nat → Rat) (h wd : Nat) : Prop := ∃ ps : List Addr, SqL K H R (ps.map V.ref) ∧ ps.length = h ∧ ∀ (r : Nat) p, ps[r]? = some p → NumsA K H p (F r) wd
theorem FMatA.ex {K : PySem.W.Frag} {H H' : Hp} {R : Addr} {F : Nat → Nat → Rat} {h wd : Nat} (e : Ex H H') (m : FMatA K H R F h wd) : FMatA K H' R F h wd :=
  let ⟨ps, a, b, c⟩ := m; ⟨ps, ex_l e a, b, fun r p hp => (c r p hp).ex e⟩
theorem lcm_div {s d : Nat} (h : 0 < s) : s / Nat.gcd s d * d = Nat.lcm s d := by
  unfold Nat.lcm
  rw [Nat.mul_comm s d, Nat.mul_div_assoc d (Nat.gcd_dvd_left s d), Nat.mul_comm]
section
variable {P : Program} {w : World} {K : PySem.W.Frag} {mg : Str → Option Value} {base : Heap}
abbrev N_over_one : List Str := ["rows", "scale", "row", "part"]
theorem sc_over_one : FnScope N_over_one ["rows"] (defScope s_over_one) := ⟨rfl, rfl, rfl, by decide +kernel, rfl, by decide +kernel, by decide +kernel⟩
def spOverOne (K : PySem.W.Frag) : Sp := fun vs H Q _ => ∃ S R F h wd M, vs = [.ref R] ∧ (∀ a, H a = none → S a) ∧ FMatA K H R F h wd ∧ h ≤ 1000 ∧ wd ≤ 1000 ∧ 0 < M ∧ M < 2 ^ 4400 ∧ (∀ r, r < h → ∀ c, c < wd → (F r c).den ∣ M ∧ Sz 3000 (F r c)) ∧
  ∀ v H' N sc, Ex H H' → TabA K S H' v N (sc : Nat) h wd → 0 < sc → sc ∣ M → (∀ r, r < h → ∀ c, c < wd → F r c = (N r c : Rat) / ((sc : Nat) : Rat)) → Q v H'
theorem ok_over_one (T : Txt w K mg) : FnOk P w K mg base CX0 2 T.over_one.f T.over_one.fd ["rows"] (spOverOne K) := by
  refine T.over_one.F.ok sc_over_one (fun vs H Q E h => ?_) (fun cdv A outer s H vs Q E hr h => ?_)
  · obtain ⟨S, R, F, h, wd, M, rfl, _⟩ := h
    rfl
  obtain ⟨S, R, F, h, wd, M, rfl, hS, ⟨ps, hR, hpl, hrow⟩, hh, hw, m0, m9, hF, q⟩ := h
  refine ⟨_, PSs.nox (pss_cons (ps_set (i := 1) sc_over_one.nd rfl (Or.inr rfl) pe_int)
 (pss_cons (ps_for PassesOwn.never rfl (pi_listK (K := K) rfl (pv 0)) (pg_name (i := 2) sc_over_one.nd rfl (Or.inl rfl))
 (pss_one (ps_for PassesOwn.never rfl (pi_listK (K := K) rfl (pv 2)) (pg_name (i := 3) sc_over_one.nd rfl (Or.inl rfl))
 (pss_one (ps_set (i := 1) sc_over_one.nd rfl (Or.inr rfl) (pe_op op_mulW (pe_op op_fdivW (pv 1) (pe_call (ok_shared T) (hr.mono (by decide)) rfl T.shared.g T.shared.F.kp (b_shared T) .nil pass0 (pa_cons (pv 1) (pa_cons (pe_ix (ix_tupK (K := K) rfl) (pv 3) pe_int (fun _ _ => rfl)) pa_nil)))) (pe_ix (ix_tupK (K := K) rfl) (pv 3) pe_int (fun _ _ => rfl))))))))
 (pss_one (ps_ret (pe_tup (pa_cons (pe_lc (own := [("row", 2)]) (g := gName 2) (tt := tYes) rfl sc_over_one.nd (pi_listK (K := K) rfl (pv 0)) (blkOk_by (N := N_over_one) (sc := defScope s_over_one) (by decide +kernel))
 (fun _ _ _ _ _ => (pg_name (i := 2) sc_over_one.nd rfl (Or.inl rfl))) (fun _ _ _ _ _ => pts_nil) (fun _ _ _ _ _ => (pe_lc (own := [("part", 3)]) (g := gName 3) (tt := tYes) rfl sc_over_one.nd (pi_listK (K := K) rfl (pv 2)) (blkOk_by (N := N_over_one) (sc := (relS (lcSc (tupE 0 (retE (stAt 2 s_over_one)))) (defScope s_over_one))) (by decide +kernel))
 (fun _ _ _ _ _ => (pg_name (i := 3) sc_over_one.nd rfl (Or.inl rfl))) (fun _ _ _ _ _ => pts_nil) (fun _ _ _ _ _ => (pe_op op_mulW (pe_ix (ix_tupK (K := K) rfl) (pv 3) pe_int (fun _ _ => rfl)) (pe_op op_fdivW (pv 1) (pe_ix (ix_tupK (K := K) rfl) (pv 3) pe_int (fun _ _ => rfl)))))))) (pa_cons (pv 1) pa_nil))))))), ?_⟩
  have mle : ∀ s : Nat, s ∣ M → s < 2 ^ 4400 := fun s hs => Nat.lt_of_le_of_lt (Nat.le_of_dvd m0 hs) m9
  refine q_asg (v := .int 1) ev_c fun H1 e1 => ?_
  refine q_forLn (a := R) (xs := ps.map V.ref) (ev_var rfl) (ex_l e1 hR) (fun i σ' H' => Ex H H' ∧ ∃ (s : Nat) (x y : Option V), σ' = [some (.ref R), some (.int (s : Nat)), x, y] ∧ 0 < s ∧ s ∣ M ∧ ∀ r, r < i → ∀ c, c < wd → (F r c).den ∣ s) (fun H2 e2 => ⟨e1.trans e2, 1, none, none, rfl, by omega, Nat.one_dvd _, fun r hr => absurd hr (Nat.not_lt_zero _)⟩) (fun i σ' H' _ ⟨e', _⟩ => ex_l e' hR) ?_ ?_
  · rintro i x σ' H' hx ⟨e', s, x2, x3, rfl, s0, sM, sd⟩
    obtain ⟨p, hp, rfl⟩ := map_ref_at hx
    have hi : i < h := by have := get_lt hp; omega
    obtain ⟨xs, y1, y2, y3⟩ := hrow i p hp
    refine s_forLn (a := p) (xs := xs) (ev_var rfl) (sq_of (e' _ _ y1)) (fun k σ' H' => Ex H H' ∧ ∃ (s : Nat) (y : Option V), σ' = [some (.ref R), some (.int (s : Nat)), some (.ref p), y] ∧ 0 < s ∧ s ∣ M ∧ (∀ r, r < i → ∀ c, c < wd → (F r c).den ∣ s) ∧ ∀ c, c < k → (F i c).den ∣ s)
      (fun H2 e2 => ⟨e'.trans e2, s, x3, rfl, s0, sM, sd, fun c hc => absurd hc (Nat.not_lt_zero _)⟩) (fun k σ' H' _ ⟨e', _⟩ => sq_of (e' _ _ y1)) ?_ ?_
    · rintro k z σ2 H2 hz ⟨e2, s, y, rfl, s0, sM, sd, sk⟩
      have hk : k < wd := by have := get_lt hz; omega
      obtain ⟨a, rfl, ha⟩ := (y3 k z hz).ex e2
      obtain ⟨d1, d2⟩ := hF i hi k hk
      have d0 := (F i k).den_pos
      have g0 : 0 < Nat.gcd s (F i k).den := Nat.gcd_pos_of_pos_left _ s0
      have zs := mle s sM
      have l1 : Nat.lcm s (F i k).den ∣ M := Nat.lcm_dvd sM d1
      have ls : s ∣ Nat.lcm s (F i k).den := Nat.dvd_lcm_left _ _
      have ld : (F i k).den ∣ Nat.lcm s (F i k).den := Nat.dvd_lcm_right _ _
      have gle : Nat.gcd s (F i k).den ≤ s := Nat.gcd_le_left _ s0
      refine s_asg (v := .int (Nat.lcm s (F i k).den : Nat)) (ev_is (ev_op (ev_op (ev_var rfl) (ev_call (vs := [.int (s : Nat), .int ((F i k).den : Nat)]) (z := .int (Nat.gcd s (F i k).den : Nat)) (ea_cons (ev_var rfl) (ea_cons (ev_item rfl ha rfl) ea_nil)) (fun H4 e4 Q k4 E => ⟨_, _, rfl, k4 H4 (Ex.refl H4)⟩)) (rv_I (cdivw (b := 4400) (by omega) (by rw [Int.natAbs_natCast]; omega)))) (ev_item rfl ha rfl) (rv_I (cmulw (a := 4400) (b := 3000) (by
          refine Nat.lt_of_le_of_lt (Int.natAbs_ediv_le_natAbs _ _) ?_
          rw [Int.natAbs_natCast]; exact zs) d2.2))) ?_) fun H3 e3 => ?_
      · rw [← lcm_div s0]
        simp
      · have n0 : 0 < Nat.lcm s (F i k).den := Nat.pos_of_dvd_of_pos l1 m0
        refine ⟨e2.trans e3, _, _, rfl, n0, l1, fun r hr c hc => Nat.dvd_trans (sd r hr c hc) ls, fun c hc => ?_⟩
        by_cases ec : c = k
        · rw [ec]; exact ld
        · exact Nat.dvd_trans (sk c (by omega)) ls
    · rintro σ2 H2 ⟨e2, s, y, rfl, s0, sM, sd, sk⟩
      rw [y2] at sk
      refine ⟨e2, s, _, _, rfl, s0, sM, fun r hr c hc => ?_⟩
      by_cases er : r = i
      · rw [er]; exact sk c hc
      · exact sd r (by omega) c hc
  · rintro σ' H' ⟨e', s, x2, x3, rfl, s0, sM, sd⟩
    rw [List.length_map, hpl] at sd
    have zs := mle s sM
    have inner : ∀ D (i : Nat) x H1, H' D = none → Ex H' H1 → (∃ ys, H1 D = some (.lst ys)) → (ps.map V.ref)[i]? = some x →
        EvR (tLc (iList K (tVar 2)) (gName 3) tYes (tOp (rI CMulW fun i j => .int (i * j)) (tOp (rIxT K) (tVar 3) (tC (.int 0))) (tOp (rI CDivW fun i j => .int (i / j)) (tVar 1) (tOp (rIxT K) (tVar 3) (tC (.int 1))))) [3]) ((wipe [some (.ref R), some (.int (s : Nat)), x2, x3] [2]).set 2 (some x)) H1 (RowR K S (fun i c => (F i c).num * ((s : Int) / (F i c).den)) wd D i) := by
      intro D i x H3 hD e3 hl hx
      obtain ⟨p, hp, rfl⟩ := map_ref_at hx
      have hi : i < h := by have := get_lt hp; omega
      obtain ⟨xs, y1, y2, y3⟩ := hrow i p hp
      refine evr_row (fun a ha => hS a (fresh_back (e'.trans e3) ha)) (evl_map ?_) hl
      have := evc_list (K := K) (tl := tVar 2) (te := tOp (rI CMulW fun i j => .int (i * j)) (tOp (rIxT K) (tVar 3) (tC (.int 0))) (tOp (rI CDivW fun i j => .int (i / j)) (tVar 1) (tOp (rIxT K) (tVar 3) (tC (.int 1))))) (σ := (wipe [some (.ref R), some (.int (s : Nat)), x2, x3] [2]).set 2 (some (.ref p))) (H := H3) (j := 3) (vs := [3])
        (fun _ c v _ => v = .int ((F i c).num * ((s : Int) / (F i c).den))) (ev_var rfl) (sq_of ((e'.trans e3) _ _ y1)) (by omega) (fun _ => rfl)
        (fun D' c z H4 _ e4 _ hz => by
          have hc : c < wd := by have := get_lt hz; omega
          obtain ⟨a, rfl, ha⟩ := (y3 c z hz).ex ((e'.trans e3).trans e4)
          obtain ⟨d1, d2⟩ := hF i hi c hc
          have d0 := (F i c).den_pos
          refine evr_ev (ev_op (ev_item rfl ha rfl) (ev_op (ev_var rfl) (ev_item rfl ha rfl) (rv_I (cdivw (b := 3000) (by omega) d2.2))) (rv_I (cmulw (a := 3000) (b := 4400) d2.1 (by
            refine Nat.lt_of_le_of_lt (Int.natAbs_ediv_le_natAbs _ _) ?_
            rw [Int.natAbs_natCast]; exact zs)))) fun _ _ => rfl)
        (fun _ _ _ _ _ _ _ h => h)
      rw [y2] at this
      exact this
    have outer := evc_list (K := K) (H := H') (RowR K S (fun i c => (F i c).num * ((s : Int) / (F i c).den)) wd) (ev_var (i := 0) rfl) (ex_l e' hR) (by rw [List.length_map]; omega) (fun _ => rfl) inner
      (rowR_stab (N := fun i c => (F i c).num * ((s : Int) / (F i c).den)))
    refine s_retC2 outer fun Dn H3 xs hDn e3 h3 ho => ⟨_, ev_var rfl, fun t H4 ht e4 h4 => ?_⟩
    have hm := mat_of (K := K) h3 (hS _ (fresh_back e' hDn)) (by rw [List.length_map, hpl] at ho; exact ho)
    refine q _ _ (fun r c => (F r c).num * ((s : Int) / (F r c).den)) s ((e'.trans e3).trans e4) ⟨t, Dn, rfl, st_of h4, hm.ex e4⟩ s0 sM fun r hr c hc => ?_
    obtain ⟨k, hk⟩ := sd r hr c hc
    have d0 := (F r c).den_pos
    have e5 : (s : Int) / (F r c).den = (k : Int) := by
      rw [hk, Int.natCast_mul]
      exact Int.mul_ediv_cancel_left _ (by omega)
    have e6 := PW.rat_nd (F r c)
    have n1 := PW.den_ne (F r c)
    have n2 : ((s : Nat) : Rat) ≠ 0 := PW.nat_ne s0
    have e7 : ((s : Nat) : Rat) = ((F r c).den : Rat) * (k : Rat) := by
      rw [hk, Rat.natCast_mul]
    rw [e5, Rat.intCast_mul]
    have e8 : (((k : Nat) : Int) : Rat) = ((k : Nat) : Rat) := rfl
    rw [e8]
    grind
end
end PX

/-! Work.full_rows -/
namespace PX
open PySem PySem.Spec PyProof.Rows L2 Evl
open PW (Sz fr)
/-! what is missing, after some lines -/
def misK (L : Nat → PW.Line) (m k c : Nat) : Rat := - PW.sumN k (fun i => if (L i).mark = .le then 0 else PW.lin L m i c - if c = PW.ar L m i then 1 else 0)
theorem misK_le {L : Nat → PW.Line} {m k c : Nat} (h : (L k).mark = .le) : misK L m (k + 1) c = misK L m k c := by
  unfold misK
  show -(PW.sumN k _ + (if (L k).mark = .le then 0 else _)) = _
  rw [if_pos h]; grind
theorem misK_ne {L : Nat → PW.Line} {m k c : Nat} (h : (L k).mark ≠ .le) (hc : c ≠ PW.ar L m k) : misK L m (k + 1) c = misK L m k c - PW.lin L m k c := by
  unfold misK
  show -(PW.sumN k _ + (if (L k).mark = .le then 0 else _)) = _
  rw [if_neg h, if_neg hc]; grind
theorem misK_own {L : Nat → PW.Line} {m k : Nat} (hm : k < m) (h : (L k).mark ≠ .le) : misK L m (k + 1) (PW.ar L m k) = 0 := by
  have e : PW.ownc L m k = PW.ar L m k := by unfold PW.ownc; rw [if_neg h]
  unfold misK
  rw [PW.sumN_zero fun i hi => ?_]
  · grind
  · by_cases q : (L i).mark = .le
    · rw [if_pos q]
    · have := PW.lin_own (L := L) (m := m) (i := i) (j := k) (by omega) hm
      rw [e] at this
      rw [if_neg q, this]
      by_cases z : i = k
      · subst z
        rw [if_pos rfl, if_pos rfl]; grind
      · rw [if_neg z, if_neg fun w => z (PW.ar_inj q h w.symm)]; grind
theorem misK_m {L : Nat → PW.Line} {m c : Nat} : misK L m m c = PW.mis L m c := rfl
theorem misK_sz {L : Nat → PW.Line} {m : Nat} {c : Nat} (hz : ∀ i, i < m → Sz 500 (PW.lin L m i c)) : ∀ k, k ≤ m → Sz (1 + k * 504) (misK L m k c)
  | 0, _ => by
    have : misK L m 0 c = 0 := by unfold misK PW.sumN; grind
    rw [this]; exact PW.sz_0
  | k + 1, h => by
    have ih := misK_sz hz k (by omega)
    by_cases q : (L k).mark = .le
    · rw [misK_le q]; exact ih.mono (by omega)
    · by_cases z : c = PW.ar L m k
      · rw [z, misK_own (by omega) q]; exact PW.sz_0.mono (by omega)
      · rw [misK_ne q z]
        exact (PW.sz_sub ih (hz k (by omega))).mono (by omega)
theorem nS_le (L : Nat → PW.Line) : ∀ k, PW.nS L k ≤ k
  | 0 => Nat.le_refl _
  | k + 1 => by
    have := nS_le L k
    show PW.nS L k + (if (L k).mark = .eq then 0 else 1) ≤ k + 1
    split <;> omega
theorem nA_le (L : Nat → PW.Line) : ∀ k, PW.nA L k ≤ k
  | 0 => Nat.le_refl _
  | k + 1 => by
    have := nA_le L k
    show PW.nA L k + (if (L k).mark = .le then 0 else 1) ≤ k + 1
    split <;> omega
theorem wid_le (L : Nat → PW.Line) (m : Nat) : PW.wid L m ≤ 2 + 2 * m := by
  have := nS_le L m
  have := nA_le L m
  unfold PW.wid PW.bord; omega
theorem bord_iff {L : Nat → PW.Line} {m i : Nat} (h : i < m) : PW.bord L m ≤ PW.ownc L m i ↔ (L i).mark ≠ .le := by
  unfold PW.ownc
  by_cases q : (L i).mark = .le
  · rw [if_pos q]
    have := PW.sl_lt h (show (L i).mark ≠ .eq by rw [q]; decide)
    constructor
    · intro z; omega
    · intro z; exact absurd q z
  · rw [if_neg q]
    exact ⟨fun _ => q, fun _ => PW.ar_ge m i⟩
/-! ### lists of fractions put together -/
def NumR (K : PySem.W.Frag) (f : Nat → Rat) (n : Nat) (v : V) (H : Hp) : Prop := ∃ p, v = .ref p ∧ NumsA K H p f n
def NumN (K : PySem.W.Frag) (H0 : Hp) (f : Nat → Rat) (n : Nat) (v : V) (H : Hp) : Prop := ∃ p, v = .ref p ∧ H0 p = none ∧ NumsA K H p f n
def catF (f : Nat → Rat) (n : Nat) (g : Nat → Rat) : Nat → Rat := fun c => if c < n then f c else g (c - n)
/-- a line as full_rows reads it -/
def RowXA (K : PySem.W.Frag) (H : Hp) (v : V) (l : PW.Line) (ex : Nat → Rat) : Prop := ∃ t q d f, v = .ref t ∧ SqT K H t [.ref q, .ref d, f] ∧ NumsA K H q (lnF l) 2 ∧ DictF K H d ex ∧ FrA K H f l.c
theorem RowXA.ex {K : PySem.W.Frag} {H H' : Hp} {v : V} {l : PW.Line} {ex : Nat → Rat} (e : Ex H H') (h : RowXA K H v l ex) : RowXA K H' v l ex :=
  let ⟨t, q, d, f, a, b, c, u, x⟩ := h; ⟨t, q, d, f, a, ex_t e b, c.ex e, u.ex e, x.ex e⟩
def gF (g0 g1 : Rat) (c : Nat) : Rat := if c = 0 then g0 else if c = 1 then g1 else 0
section
variable {K : PySem.W.Frag} {σ : L2.St} {H H' : Hp} {ta tb te : TE} {f g : Nat → Rat} {n k : Nat}
theorem evr_weak (h : EvR te σ H (NumN K H f n)) : EvR te σ H (NumR K f n) := fun H1 e Q q => h H1 e Q fun v H2 e2 ⟨p, a, _, b⟩ => q v H2 e2 ⟨p, a, b⟩
theorem evr_nums {a : Addr} (h : Ev te σ H (.ref a)) (hn : NumsA K H a f n) : EvR te σ H (NumR K f n) := evr_ev h fun H1 e => ⟨a, rfl, hn.ex e⟩
theorem evr_outs (h : EvC te σ H (fun D ys H2 => Outs n (fun _ => true) (fun i v H => FrA K H v (f i)) ys H2)) : EvR te σ H (NumN K H f n) := fun H1 e Q q =>
  h H1 e Q fun p H2 xs hp e2 h2 o => by
    obtain ⟨o1, o2⟩ := outs_all o
    exact q (.ref p) H2 e2 ⟨p, rfl, fresh_back e hp, xs, h2, o1, o2⟩
theorem evr_one {r : Rat} {v : V} (h : Ev te σ H v) (hf : FrA K H v r) : EvR (tLst (tCons te tNil)) σ H (NumN K H (fun _ => r) 1) := fun H1 e Q q =>
  e_lst (a_cons (h H1 e _ fun H2 e2 => ⟨(by show 1 ≤ sizeLine; decide), fun p hp => q (.ref p) _ (e2.trans (Ex.new hp)) ⟨p, rfl, fresh_back (e.trans e2) hp, [v], upd_same, rfl, fun c u hu => by
    have hc : c = 0 := by have := get_lt hu; simp at this; omega
    subst hc
    cases hu
    exact ((hf.ex (e.trans e2)).ex (Ex.new hp))⟩⟩))
theorem evr_cat (ha : EvR ta σ H (NumR K f n)) (hb : EvR tb σ H (NumR K g k)) (hz : n + k ≤ 100000) : EvR (tOp rCat ta tb) σ H (NumN K H (catF f n g) (n + k)) := fun H1 e Q q =>
  ha H1 e _ fun x H2 e2 ⟨p, hp, np⟩ => hb H2 (e.trans e2) _ fun y H3 e3 ⟨r, hr, nr⟩ => by
    subst hp hr
    obtain ⟨xs, x1, x2, x3⟩ := np.ex e3
    obtain ⟨ys, y1, y2, y3⟩ := nr
    refine ⟨p, r, xs, ys, rfl, rfl, x1, y1, (by rw [x2, y2]; exact Nat.le_trans hz (by decide)), fun t ht => q (.ref t) _ ((e2.trans e3).trans (Ex.new ht)) ⟨t, rfl, fresh_back ((e.trans e2).trans e3) ht, xs ++ ys, upd_same, by rw [List.length_append, x2, y2], fun c v hv => ?_⟩⟩
    unfold catF
    by_cases hc : c < xs.length
    · rw [List.getElem?_append_left hc] at hv
      rw [if_pos (by omega)]
      exact (x3 c v hv).ex (Ex.new ht)
    · rw [List.getElem?_append_right (by omega)] at hv
      rw [if_neg (by omega), ← x2]
      exact (y3 _ v hv).ex (Ex.new ht)
theorem evr_numN_eq {n' : Nat} (h : EvR te σ H (NumN K H f n)) (hn : n = n') (e : ∀ c, c < n → f c = g c) : EvR te σ H (NumN K H g n') := fun H1 e1 Q q => h H1 e1 Q fun v H2 e2 ⟨p, a, b, c⟩ => q v H2 e2 ⟨p, a, b, hn ▸ c.congr e⟩
end
section
variable {P : Program} {w : World} {K : PySem.W.Frag} {mg : Str → Option Value} {base : Heap}
abbrev N_Work_full_rows : List Str := ["self", "rows", "goal", "width", "found", "numbers", "extra", "bound", "column", "missing", "at", "part", "other"]
theorem sc_Work_full_rows : FnScope N_Work_full_rows ["self", "rows", "goal", "width"] (defScope s_Work_full_rows) := ⟨rfl, rfl, rfl, by decide +kernel, rfl, by decide +kernel, by decide +kernel⟩
def spFull (K : PySem.W.Frag) (C : Addr) : Sp := fun vs H Q _ => ∃ (p dx : Addr) (fs : List (Str × V)) (R G : Addr) (L : Nat → PW.Line) (m : Nat) (g0 g1 : Rat) (O : Addr) (xs : List V), vs = [.ref p, .ref R, .ref G, .int (PW.wid L m : Nat)] ∧ H p = some (.ins C dx fs) ∧ fs.lookup ("own" : Str) = some (.ref O) ∧ fs.lookup ("border" : Str) = some (.int (PW.bord L m : Nat)) ∧
  H O = some (.lst (rowV (fun i => (PW.ownc L m i : Nat)) m)) ∧ H R = some (.lst xs) ∧ xs.length = m ∧ (∀ (i : Nat) v, xs[i]? = some v → RowXA K H v (L i) (PW.exq L m i)) ∧ NumsA K H G (gF g0 g1) 2 ∧ m ≤ 5 ∧ (∀ i, i < m → ∀ c, c ≤ PW.wid L m → Sz 500 (PW.lin L m i c)) ∧
  ∀ D H', H D = none → Ex H H' → FMatA K H' D (PW.tab L m g0 g1) (m + 2) (PW.wid L m + 1) → Q (.ref D) H'
theorem ok_Work_full_rows (T : Txt w K mg) : FnOk P w K mg base CX0 4 T.Work_full_rows.f T.Work_full_rows.fd ["self", "rows", "goal", "width"] (spFull K T.cW) := by
  refine T.Work_full_rows.F.ok sc_Work_full_rows (fun vs H Q E h => ?_) (fun cdv A outer s H vs Q E hr h => ?_)
  · obtain ⟨p, dx, fs, R, G, L, m, g0, g1, O, xs, rfl, _⟩ := h
    rfl
  obtain ⟨p, dx, fs, R, G, L, m, g0, g1, O, xs, rfl, hp, lo, lb, hO, hR, hxl, hrow, hG, hm, hz, q⟩ := h
  refine ⟨_, PSs.nox (pss_cons (ps_set (i := 4) sc_Work_full_rows.nd rfl (Or.inl rfl) (pe_lst pa_nil))
 (pss_cons (ps_for PassesOwn.never rfl (pi_listK (K := K) rfl (pv 1)) (pg_tupK (n := 3) (K := K) rfl rfl (pgs_cons (pg_name (i := 5) sc_Work_full_rows.nd rfl (Or.inl rfl)) (pgs_cons (pg_name (i := 6) sc_Work_full_rows.nd rfl (Or.inr rfl)) (pgs_cons (pg_name (i := 7) sc_Work_full_rows.nd rfl (Or.inl rfl)) pgs_nil))))
 (pss_one (ps_expr (pe_bm PySem.F.plainAttrs_list PySem.F.slot_list_append PySem.F.type_list_append mt_append (pv 4) (pa_cons (pe_op op_cat (pe_op op_cat (pv 5) (pe_lc (own := [("column", 8)]) (g := gName 8) (tt := tYes) rfl sc_Work_full_rows.nd (pi_range2 (by rfl) T.m_range (pa_cons (pe_callB (call_lenK (K := K) rfl) (by rfl) T.m_len PySem.boot_len (pa_cons (pv 2) pa_nil)) (pa_cons (pv 3) pa_nil))) (blkOk_by (N := N_Work_full_rows) (sc := defScope s_Work_full_rows) (by decide +kernel))
 (fun _ _ _ _ _ => (pg_name (i := 8) sc_Work_full_rows.nd rfl (Or.inl rfl))) (fun _ _ _ _ _ => pts_nil) (fun _ _ _ _ _ => (pe_dget2 (hu_of hr) (pv 6) (pv 8) (pe_glob (v := .ref T.nought) rfl T.gnought rfl) ⟨rfl, rfl, rfl, rfl⟩)))) (pe_lst (pa_cons (pv 7) pa_nil))) pa_nil)))))
 (pss_cons (ps_setLc (i := 9) (own := [("column", 8)]) (g := gName 8) (tt := tYes) rfl sc_Work_full_rows.nd rfl rfl (sw_true rfl rfl rfl (by decide +kernel)) (pi_range1 (by rfl) T.m_range (pa_cons (pe_op op_add (pv 3) pe_int) pa_nil)) (blkOk_by (N := N_Work_full_rows) (sc := defScope s_Work_full_rows) (by decide +kernel))
 (fun _ _ _ _ _ => (pg_name (i := 8) sc_Work_full_rows.nd rfl (Or.inl rfl))) (fun _ _ _ _ _ => pts_nil) (fun _ _ _ _ _ => (pe_glob (v := .ref T.nought) rfl T.gnought rfl)))
 (pss_cons (ps_for PassesOwn.never rfl (pi_range1 (by rfl) T.m_range (pa_cons (pe_callB (call_lenK (K := K) rfl) (by rfl) T.m_len PySem.boot_len (pa_cons (pv 4) pa_nil)) pa_nil)) (pg_name (i := 10) sc_Work_full_rows.nd rfl (Or.inl rfl))
 (pss_one (ps_if (pt_cmpR op_ge (pe_ix (ix_listK (K := K) rfl) (pe_fldK (K := K) rfl (pv 0) rfl) (pv 10) (fun _ _ => rfl)) (pe_fldK (K := K) rfl (pv 0) rfl) (nomark _)) (pss_cons (ps_setLc (i := 9) (own := [("part", 11), ("other", 12)]) (g := gTup K 2 (gCons (gName 11) (gCons (gName 12) gNil))) (tt := tYes) rfl sc_Work_full_rows.nd rfl rfl (sw_true rfl rfl rfl (by decide +kernel)) (RZ.pi_zipA (by rfl) T.m_zip (pa_cons (pv 9) (pa_cons (pe_ix (ix_listK (K := K) rfl) (pv 4) (pv 10) (fun _ _ => rfl)) pa_nil))) (blkOk_by (N := N_Work_full_rows) (sc := defScope s_Work_full_rows) (by decide +kernel))
 (fun _ _ _ _ _ => (pg_tupK (n := 2) (K := K) rfl rfl (pgs_cons (pg_name (i := 11) sc_Work_full_rows.nd rfl (Or.inl rfl)) (pgs_cons (pg_name (i := 12) sc_Work_full_rows.nd rfl (Or.inl rfl)) pgs_nil)))) (fun _ _ _ _ _ => pts_nil) (fun _ _ _ _ _ => (pe_call (ok_minus T) (hr.mono (by decide)) rfl T.minus.g T.minus.F.kp (b_minus T) .nil pass0 (pa_cons (pv 11) (pa_cons (pv 12) pa_nil)))))
 (pss_one (ps_asg (pe_glob (v := .ref T.nought) rfl T.gnought rfl) (pg_sub (pv 9) (pe_ix (ix_listK (K := K) rfl) (pe_fldK (K := K) rfl (pv 0) rfl) (pv 10) (fun _ _ => rfl)) set_list)))) pss_nil)))
 (pss_one (ps_ret (pe_op op_cat (pv 4) (pe_lst (pa_cons (pe_op op_cat (pv 2) (pe_lc (own := [("column", 8)]) (g := gName 8) (tt := tYes) rfl sc_Work_full_rows.nd (pi_range1 (by rfl) T.m_range (pa_cons (pe_op op_sub (pe_op op_add (pv 3) pe_int) (pe_callB (call_lenK (K := K) rfl) (by rfl) T.m_len PySem.boot_len (pa_cons (pv 2) pa_nil))) pa_nil)) (blkOk_by (N := N_Work_full_rows) (sc := defScope s_Work_full_rows) (by decide +kernel))
 (fun _ _ _ _ _ => (pg_name (i := 8) sc_Work_full_rows.nd rfl (Or.inl rfl))) (fun _ _ _ _ _ => pts_nil) (fun _ _ _ _ _ => (pe_glob (v := .ref T.nought) rfl T.gnought rfl)))) (pa_cons (pv 9) pa_nil)))))))))), ?_⟩
  have w1 := wid_le L m
  have w2 := PW.two_le_wid (L := L) m
  have w3 := PW.wid_ge (L := L) m
  obtain ⟨gs, g1', g2', g3'⟩ := id hG
  refine q_asgL (el_lst ea_nil (Nat.zero_le _)) fun F H1 hF e1 h1 => ?_
  refine q_forL (a := R) (xs := xs) (ev_var rfl) (sq_of (e1 _ _ hR)) (fun i σ' H' => Ex H H' ∧ ∃ a b c, σ' = [some (.ref p), some (.ref R), some (.ref G), some (.int (PW.wid L m : Nat)), some (.ref F), a, b, c, none, none, none, none, none] ∧ ∃ ps : List Addr, H' F = some (.lst (ps.map V.ref)) ∧ ps.length = i ∧ ∀ (r : Nat) u, ps[r]? = some u → u ≠ F ∧ NumsA K H' u (PW.lin L m r) (PW.wid L m + 1))
    (fun H2 e2 => ⟨e1.trans e2, none, none, none, rfl, [], e2 _ _ h1, rfl, fun r u h => by simp at h⟩) (fun i σ' H' _ h => sq_of (h.1 _ _ hR)) ?_ ?_
  · rintro i x σ' H' hx ⟨e2, a, b, c, rfl, ps, p1, p2, p3⟩
    obtain ⟨t, qn, d, f, rfl, ht, hq, hd, hf⟩ := (hrow i x hx).ex e2
    have hi : i < m := by have := get_lt hx; omega
    refine g_three ht ?_
    refine s_appR (l := F) (xs := ps.map V.ref) (R := NumN K H' (PW.lin L m i) (PW.wid L m + 1)) p1 (ev_var rfl) ?_ (by rw [List.length_map, p2]; omega) fun v H3 e3 hv => ?_
    · have col := evr_outs (f := fun j => PW.exq L m i (2 + j)) (evc_rngF (lo := (2 : Nat)) (n := PW.wid L m - 2) (σ := [some (.ref p), some (.ref R), some (.ref G), some (.int (PW.wid L m : Nat)), some (.ref F), some (.ref qn), some (.ref d), some f, none, none, none, none, none]) (H := H') (wi := iRng2 (tCons (tCB (rLenQ K) (tCons (tVar 2) tNil)) (tCons (tVar 3) tNil))) (j := 8) (vs := [8]) (tt := tYes) (te := tDGet2 (tVar 6) (tVar 8) (tC (.ref T.nought))) (fun _ => true) (fun _ j v H => FrA K H v (PW.exq L m i (2 + j)))
        (rng2 (m := 2) (n := PW.wid L m) (ea_cons (ev_is (ev_lenL (ev_var rfl) (sq_of (e2 _ _ g1'))) (by rw [g2'])) (ea_cons (ev_var rfl) ea_nil)) (by omega) (by omega)) (by omega) (fun _ => rfl) (fun _ _ _ _ _ _ _ => et_yes)
        (fun D j H4 hj hD e4 hl _ => evr_f (evf_dget T (c := 2 + j) (ev_var rfl) (ev_var rfl) (hd.ex e4)))
        (fun D j v H H' f hl h => by
          obtain ⟨ys, hl⟩ := hl
          exact h.fx f hl))
      refine evr_numN_eq (evr_cat (evr_weak (evr_cat (evr_nums (ev_var rfl) hq) (evr_weak col) (by omega))) (evr_weak (evr_one (ev_var rfl) hf)) (by omega)) (by omega) fun c hc => ?_
      unfold catF lnF PW.lin
      by_cases c0 : c = 0
      · rw [if_pos (by omega), if_pos (by omega), if_pos c0, if_pos c0]
      · by_cases c1 : c = 1
        · rw [if_pos (by omega), if_pos (by omega), if_neg c0, if_pos c1, if_neg c0, if_pos c1]
        · by_cases cw : c = PW.wid L m
          · rw [if_neg (by omega), if_neg c0, if_neg c1, if_pos cw]
          · rw [if_pos (by omega), if_neg (by omega), if_neg c0, if_neg c1, if_neg cw]
            show PW.exq L m i (2 + (c - 2)) = _
            rw [show 2 + (c - 2) = c by omega]
    · obtain ⟨g, rfl, hg, ng⟩ := hv
      have p1' := e3 _ _ p1
      have gF : g ≠ F := fun z => by rw [z, p1] at hg; cases hg
      refine ⟨(e2.trans e3).mut hF, _, _, _, rfl, ps ++ [g], by rw [upd_same]; simp, by simp [p2], fun r u hu => ?_⟩
      by_cases hr : r < ps.length
      · rw [List.getElem?_append_left hr] at hu
        obtain ⟨z1, z2⟩ := p3 r u hu
        exact ⟨z1, (z2.ex e3).fx Fx.upd (nt_lst p1') z1⟩
      · have : r = ps.length := by
          have := get_lt hu
          simp at this
          omega
        subst this
        rw [List.getElem?_append_right (Nat.le_refl _), Nat.sub_self] at hu
        cases hu
        rw [p2]
        exact ⟨gF, ng.fx Fx.upd (nt_lst p1') gF⟩
  · rintro σ' H' ⟨e2, a, b, c, rfl, ps, p1, p2, p3⟩
    rw [hxl] at p2
    -- missing
    have nz : ∀ {σ : L2.St} {H1 : Hp} {k : Nat} {ta : TA}, EvA ta σ H1 [.int (k : Nat)] → k ≤ 90000 → (∀ x, wipe ((wipe σ [8]).set 8 (some x)) [8] = wipe σ [8]) → EvC (tLc (iRng1 ta) (gName 8) tYes (tC (.ref T.nought)) [8]) σ H1 (fun D ys H2 => Outs k (fun _ => true) (fun _ v H => FrA K H v 0) ys H2) := fun ha hk hw =>
      evc_rng1 (fun _ _ v H => FrA K H v 0) ha hk hw (fun D i H1 _ _ _ _ => evr_f (evf_nought T))
        (fun D i v H H' f hl h => by
          obtain ⟨ys, hl⟩ := hl
          exact h.fx f hl)
    refine q_asgR (evr_outs (f := fun _ => 0) (nz (k := PW.wid L m + 1) (ea_cons (ev_op (ev_var rfl) ev_c rv_I0) ea_nil) (by omega) (fun _ => rfl))) fun M0 H3 e3 hM0 => ?_
    obtain ⟨M0, rfl, hM, nM⟩ := hM0
    have e13 := e2.trans e3
    refine q_forR1 (n := (m : Nat)) (ea_cons (ev_is (ev_lenL (ev_var rfl) (sq_of (e3 _ _ p1))) (by rw [List.length_map, p2])) ea_nil) (by omega) (fun k σ' H' => Ex H3 H' ∧ ∃ M c8 c10 c11 c12, σ' = [some (.ref p), some (.ref R), some (.ref G), some (.int (PW.wid L m : Nat)), some (.ref F), a, b, c, c8, some (.ref M), c10, c11, c12] ∧ NumsA K H' M (misK L m k) (PW.wid L m + 1))
      (fun H4 e4 => ⟨e4, M0, _, _, _, _, rfl, (nM.ex e4).congr fun c _ => by
        unfold misK PW.sumN; grind⟩) ?_ ?_
    · rintro k σ' H4 hk ⟨e4, M, c8, c10, c11, c12, rfl, nM4⟩
      have hk : k < m := by omega
      have e14 := e13.trans e4
      obtain ⟨u, hu⟩ := get_of_lt (xs := ps) (i := k) (by omega)
      obtain ⟨_, nu⟩ := p3 k u hu
      have nu4 := nu.ex (e3.trans e4)
      have hF4 : H4 F = some (.lst (ps.map V.ref)) := e4 _ _ (e3 _ _ p1)
      refine s_when (b := decide ((PW.bord L m : Nat) ≤ (PW.ownc L m k : Int))) (et_test (ev_op (ev_op (ev_fld (ev_var rfl) (e14 _ _ hp) T.clW T.nW_own lo) (ev_var rfl) (rv_ixL (sq_of (e14 _ _ hO)) (atI_row hk))) (ev_fld (ev_var rfl) (e14 _ _ hp) T.clW T.nW_border lb) rv_I0)) (fun hb H5 e5 => ?_) (fun hb H5 e5 => ?_)
      · have hmk : (L k).mark ≠ .le := (bord_iff hk).mp (by have := of_decide_eq_true hb; omega)
        have eo : PW.ownc L m k = PW.ar L m k := by unfold PW.ownc; rw [if_neg hmk]
        obtain ⟨ms, m1, m2, m3⟩ := nM4.ex e5
        obtain ⟨us, u1, u2, u3⟩ := nu4.ex e5
        refine q_asgR (evr_outs (f := fun c => misK L m k c - PW.lin L m k c) (n := ms.length) (evc_zip (K := K) (i0 := 11) (j0 := 12) (vs := [11, 12]) (xs := ms) (ys := us) (fun _ c v H => FrA K H v (misK L m k c - PW.lin L m k c)) (ea_cons (ev_var rfl) (ea_cons (ev_rowAt (sq_of (e5 _ _ hF4)) hu (ev_var rfl) (ev_var rfl)) ea_nil)) (sq_of m1) (sq_of u1) (by omega) (by omega) (fun _ _ => rfl)
          (fun D c x y H6 hD e6 hl hx hy => by
            have hc : c < PW.wid L m + 1 := by have := get_lt hx; omega
            have s1 := misK_sz (L := L) (m := m) (c := c) (fun i hi => hz i hi c (by omega)) k (by omega)
            exact evr_f (evf_2 (evf_var rfl ((m3 c x hx).ex e6)) (evf_var rfl ((u3 c y hy).ex e6)) (s1.mono (by omega)) ((hz k hk c (by omega)).mono (by omega))))
          (fun D i v H H' f hl h => by
            obtain ⟨ys, hl⟩ := hl
            exact h.fx f hl))) fun M1 H6 e6 hM1 => ?_
        obtain ⟨M1, rfl, hM1, vs1, v1, v2, v3⟩ := hM1
        have hM4 : H4 M1 = none := fresh_back e5 hM1
        have e16 := (e14.trans e5).trans e6
        have ow := PW.ownc_lt (L := L) hk
        refine s_setF (l := M1) (xs := vs1) (j := PW.ownc L m k) v1 (evf_nought T) (ev_var rfl) (ev_op (ev_fld (ev_var rfl) (e16 _ _ hp) T.clW T.nW_own lo) (ev_var rfl) (rv_ixL (sq_of (e16 _ _ hO)) (atI_row hk))) (by omega) fun v H7 e7 fv => ?_
        have v1' := e7 _ _ v1
        refine ⟨e4.trans (((e5.trans e6).trans e7).mut hM4), M1, _, _, _, _, rfl, vs1.set (PW.ownc L m k) v, upd_same, by simp [v2, m2], fun c z hc => ?_⟩
        by_cases ec : c = PW.ownc L m k
        · subst ec
          rw [List.getElem?_set_self (by omega)] at hc
          cases hc
          rw [eo, misK_own hk hmk]
          exact fv.fx Fx.upd v1'
        · rw [List.getElem?_set_ne (fun z => ec z.symm)] at hc
          rw [misK_ne hmk (fun z => ec (by rw [eo]; exact z))]
          exact ((v3 c z hc).ex e7).fx Fx.upd v1'
      · have hmk : (L k).mark = .le := by
          by_cases z : (L k).mark = .le
          · exact z
          · have := (bord_iff hk).mpr z
            rw [decide_eq_true (by omega)] at hb
            cases hb
        exact ⟨e4.trans e5, M, _, _, _, _, rfl, (nM4.ex e5).congr fun c _ => (misK_le hmk).symm⟩
    · rintro σ' H4 ⟨e4, M, c8, c10, c11, c12, rfl, nM4⟩
      rw [Int.toNat_natCast] at nM4
      have e14 := e13.trans e4
      have hF4 : H4 F = some (.lst (ps.map V.ref)) := e4 _ _ (e3 _ _ p1)
      have gr : EvR (tOp rCat (tVar 2) (tLc (iRng1 (tCons (tOp (rI0 fun i j => .int (i - j)) (tOp (rI0 fun i j => .int (i + j)) (tVar 3) (tC (.int 1))) (tCB (rLenQ K) (tCons (tVar 2) tNil))) tNil)) (gName 8) tYes (tC (.ref T.nought)) [8])) [some (.ref p), some (.ref R), some (.ref G), some (.int (PW.wid L m : Nat)), some (.ref F), a, b, c, c8, some (.ref M), c10, c11, c12] H4 (NumN K H4 (PW.tab L m g0 g1 m) (PW.wid L m + 1)) := by
        refine evr_numN_eq (evr_cat (evr_nums (ev_var rfl) (hG.ex e14)) (evr_weak (evr_outs (f := fun _ => 0) (nz (k := PW.wid L m - 1) (ea_cons (ev_is (ev_op (ev_op (ev_var rfl) ev_c rv_I0) (ev_is (ev_lenL (ev_var rfl) (sq_of (e14 _ _ g1'))) (by rw [g2'])) rv_I0) ?_) ea_nil) (by omega) (fun _ => rfl)))) (by omega)) (by omega) fun c hc => ?_
        · show V.int _ = V.int _
          congr 1
          omega
        · rw [PW.tab_goal]
          unfold catF gF
          by_cases c0 : c = 0
          · rw [if_pos (by omega), if_pos c0]
          · by_cases c1 : c = 1
            · rw [if_pos (by omega), if_neg c0, if_pos c1]
            · rw [if_neg (by omega), if_neg c0, if_neg c1]
      show tOp rCat _ _ _ _ _
      refine ⟨_, rfl, e_lst (a_cons (at_r gr fun v H5 e5 hv => a_cons (at_v (ev_var rfl) fun H6 e6 => ⟨(by show 2 ≤ sizeLine; decide), fun l hl => ?_⟩)))⟩
      obtain ⟨g, rfl, _, ng⟩ := hv
      have eN : Ex H6 (upd H6 l (.lst [.ref g, .ref M])) := Ex.new hl
      have e46 : Ex H4 (upd H6 l (.lst [.ref g, .ref M])) := (e5.trans e6).trans eN
      refine ⟨F, l, ps.map V.ref, [.ref g, .ref M], rfl, rfl, e46 _ _ hF4, upd_same, (by rw [List.length_map, p2]; exact Nat.le_trans (show m + 2 ≤ 7 by omega) (by decide)), fun D hD => ?_⟩
      have e7 : Ex H4 (upd (upd H6 l (.lst [.ref g, .ref M])) D (.lst (ps.map V.ref ++ [.ref g, .ref M]))) := e46.trans (Ex.new hD)
      refine q D _ (fresh_back (e14.trans e46) hD) (e14.trans e7) ⟨ps ++ [g, M], sq_of (by rw [upd_same]; simp), by simp [p2], fun r u hu => ?_⟩
      by_cases hr : r < ps.length
      · rw [List.getElem?_append_left hr] at hu
        rw [PW.tab_lin (by omega)]
        exact (p3 r u hu).2.ex ((e3.trans e4).trans e7)
      · rw [List.getElem?_append_right (by omega)] at hu
        have h2 : r - ps.length < 2 := by have := get_lt hu; simpa using this
        by_cases r0 : r = m
        · rw [r0, p2, Nat.sub_self] at hu
          cases hu
          rw [r0]
          exact ng.ex ((e6.trans eN).trans (Ex.new hD))
        · have r1 : r = m + 1 := by omega
          rw [r1, p2, show m + 1 - m = 1 by omega] at hu
          cases hu
          rw [r1, PW.tab_mis]
          exact nM4.ex e7
end
end PX

/-! Work.__init__ -/
namespace PX
open PySem PySem.Spec PyProof.Rows L2 Evl
open PW (Sz fr)
/-- an instance changes: lists and tables stay -/
theorem fx_li {K : PySem.W.Frag} {D a C dx : Addr} {fs : List (Str × V)} {H H' : Hp} {xs : List V} (f : Fx D H H') (h0 : H D = some (.ins C dx fs)) (h : SqL K H a xs) : SqL K H' a xs := by
  rcases h with (t | ⟨o, t⟩) | t
  · exact .inl (.inl (f a _ (fun z => by rw [z, h0] at t; cases t) t))
  · exact .inl (.inr ⟨o, f a _ (fun z => by rw [z, h0] at t; cases t) t⟩)
  · exact .inr t
theorem TabA.fxi {K : PySem.W.Frag} {S : Addr → Prop} {D C dx : Addr} {fs : List (Str × V)} {H H' : Hp} {v : V} {N : Nat → Nat → Int} {sc : Int} {h w : Nat} (x : Fx D H H') (h0 : H D = some (.ins C dx fs)) (m : TabA K S H v N sc h w) : TabA K S H' v N sc h w :=
  let ⟨t, R, a, b, s, ps, c1, c2, c3⟩ := m; ⟨t, R, a, fx_t' x (nt_ins h0) b, s, ps, fx_li x h0 c1, c2, fun r p hp => ⟨fx_li x h0 (c3 r p hp).1, (c3 r p hp).2⟩⟩
/-! ### sizes -/
theorem nat_of_rat {z : Int} {d : Nat} {r : Rat} (h0 : 0 < d) (e : r * (d : Rat) = (z : Rat)) : r = fr z (d : Int) := by
  have n0 := PW.nat_ne h0
  rw [PW.fr_div (by omega)]
  have c1 : (((d : Nat) : Int) : Rat) = (d : Rat) := rfl
  rw [c1]
  grind
theorem ib_den {r : Rat} {d B : Nat} (h : PW.IB (r * (d : Rat)) B) (h0 : 0 < d) : r.den ∣ d ∧ r.num.natAbs ≤ B := by
  obtain ⟨z, e, l⟩ := h
  have e1 := nat_of_rat h0 e
  have hd : (0 : Int) < (d : Int) := by omega
  have e2 := PW.fr_den (n := z) hd
  rw [← e1, Int.natAbs_natCast] at e2
  have e3 : ((d : Int)) / (Nat.gcd z.natAbs d : Nat) = ((d / Nat.gcd z.natAbs d : Nat) : Int) := (Int.natCast_ediv _ _).symm
  rw [e3] at e2
  have e4 : r.den = d / Nat.gcd z.natAbs d := by omega
  refine ⟨?_, ?_⟩
  · rw [e4]; exact Nat.div_dvd_of_dvd (Nat.gcd_dvd_right _ _)
  · rw [e1, PW.fr_num hd]
    exact Nat.le_trans (Int.natAbs_ediv_le_natAbs _ _) l
/-- what the walk asks of the sizes -/
structure Siz (L : Nat → PW.Line) (m : Nat) (g0 g1 : Rat) (d B : Nat) : Prop where
  s : PW.Sized L m g0 g1 d B
  m5 : m ≤ 5
  m2 : 2 ≤ m
  b9 : 64 * (B * B * B) < 2 ^ 3000
  b3 : B < 2 ^ 3000
  ln : ∀ i, i < m → ∀ c, c ≤ PW.wid L m → Sz 500 (PW.lin L m i c)
theorem Siz.d3 {L : Nat → PW.Line} {m : Nat} {g0 g1 : Rat} {d B : Nat} (Z : Siz L m g0 g1 d B) : d < 2 ^ 3000 := Nat.lt_of_le_of_lt Z.s.dK Z.b3
theorem Siz.den {L : Nat → PW.Line} {m : Nat} {g0 g1 : Rat} {d B : Nat} (Z : Siz L m g0 g1 d B) {r c : Nat} (hr : r < m + 2) (hc : c < PW.wid L m + 1) : (PW.tab L m g0 g1 r c).den ∣ d ∧ Sz 3000 (PW.tab L m g0 g1 r c) := by
  obtain ⟨h1, h2⟩ := ib_den (Z.s.at_ r hr c (by omega)) Z.s.d0
  exact ⟨h1, Nat.lt_of_le_of_lt h2 Z.b3, Nat.lt_of_le_of_lt (Nat.le_of_dvd Z.s.d0 h1) Z.d3⟩
theorem Siz.num {L : Nat → PW.Line} {m : Nat} {g0 g1 : Rat} {d B : Nat} (Z : Siz L m g0 g1 d B) {r c : Nat} (hr : r < m + 2) (hc : c < PW.wid L m + 1) {N : Int} {sc : Nat} (h0 : 0 < sc) (hs : sc ∣ d) (e : PW.tab L m g0 g1 r c = (N : Rat) / ((sc : Nat) : Rat)) : N.natAbs < 2 ^ 3000 := by
  obtain ⟨z, e1, l⟩ := Z.s.at_ r hr c (by omega)
  obtain ⟨k, hk⟩ := hs
  have n0 := PW.nat_ne h0
  have e2 : (d : Rat) = (sc : Rat) * (k : Rat) := by rw [hk, Rat.natCast_mul]
  have e3 : ((N * (k : Int) : Int) : Rat) = (z : Rat) := by
    rw [← e1, e, e2, Rat.intCast_mul]
    have c1 : (((k : Nat) : Int) : Rat) = (k : Rat) := rfl
    rw [c1]
    grind
  have e4 := Rat.intCast_inj.mp e3
  have k0 : 0 < k := by
    rcases Nat.eq_zero_or_pos k with q | q
    · rw [q] at hk
      have := Z.s.d0
      omega
    · exact q
  have e5 : N.natAbs * k = z.natAbs := by rw [← e4, Int.natAbs_mul]; rfl
  have e6 : N.natAbs ≤ N.natAbs * k := Nat.le_mul_of_pos_right _ k0
  exact Nat.lt_of_le_of_lt (Nat.le_trans e6 (by omega)) Z.b3
/-! ### the fields -/
def wf (lp : Addr) (b : Nat) (O Bs : Addr) (e : Nat) (tv : V) : List (Str × V) := [("lines", .ref lp), ("border", .int (b : Nat)), ("own", .ref O), ("basis", .ref Bs), ("end", .int (e : Nat)), ("tableau", tv)]
def wf1 (lp : Addr) : List (Str × V) := [("lines", .ref lp)]
def wf2 (lp : Addr) (b : Nat) : List (Str × V) := [("lines", .ref lp), ("border", .int (b : Nat))]
def wf3 (lp : Addr) (b : Nat) (O : Addr) : List (Str × V) := [("lines", .ref lp), ("border", .int (b : Nat)), ("own", .ref O)]
def wf4 (lp : Addr) (b : Nat) (O Bs : Addr) : List (Str × V) := [("lines", .ref lp), ("border", .int (b : Nat)), ("own", .ref O), ("basis", .ref Bs)]
def wf5 (lp : Addr) (b : Nat) (O Bs : Addr) (e : Nat) : List (Str × V) := [("lines", .ref lp), ("border", .int (b : Nat)), ("own", .ref O), ("basis", .ref Bs), ("end", .int (e : Nat))]
section
variable {lp : Addr} {b : Nat} {O Bs : Addr} {e : Nat} {tv : V}
theorem wf1_put : putF ("border" : Str) (.int (b : Nat)) (wf1 lp) = wf2 lp b := by
  unfold wf1 wf2
  rw [pf_ne (by decide +kernel)]; rfl
theorem wf2_put : putF ("own" : Str) (.ref O) (wf2 lp b) = wf3 lp b O := by
  unfold wf2 wf3
  rw [pf_ne (by decide +kernel), pf_ne (by decide +kernel)]; rfl
theorem wf3_put : putF ("basis" : Str) (.ref Bs) (wf3 lp b O) = wf4 lp b O Bs := by
  unfold wf3 wf4
  rw [pf_ne (by decide +kernel), pf_ne (by decide +kernel), pf_ne (by decide +kernel)]; rfl
theorem wf4_put : putF ("end" : Str) (.int (e : Nat)) (wf4 lp b O Bs) = wf5 lp b O Bs e := by
  unfold wf4 wf5
  rw [pf_ne (by decide +kernel), pf_ne (by decide +kernel), pf_ne (by decide +kernel), pf_ne (by decide +kernel)]; rfl
theorem wf5_put : putF ("tableau" : Str) tv (wf5 lp b O Bs e) = wf lp b O Bs e tv := by
  unfold wf5 wf
  rw [pf_ne (by decide +kernel), pf_ne (by decide +kernel), pf_ne (by decide +kernel), pf_ne (by decide +kernel), pf_ne (by decide +kernel)]; rfl
theorem wf3_border : (wf3 lp b O).lookup ("border" : Str) = some (.int (b : Nat)) := (lk_ne (by decide +kernel)).trans lk_eq
theorem wf3_own : (wf3 lp b O).lookup ("own" : Str) = some (.ref O) := (lk_ne (by decide +kernel)).trans ((lk_ne (by decide +kernel)).trans lk_eq)
theorem wf5_border : (wf5 lp b O Bs e).lookup ("border" : Str) = some (.int (b : Nat)) := (lk_ne (by decide +kernel)).trans lk_eq
theorem wf5_own : (wf5 lp b O Bs e).lookup ("own" : Str) = some (.ref O) := (lk_ne (by decide +kernel)).trans ((lk_ne (by decide +kernel)).trans lk_eq)
theorem wf5_no {m : Str} (h1 : ¬ m = "lines") (h2 : ¬ m = "border") (h3 : ¬ m = "own") (h4 : ¬ m = "basis") (h5 : ¬ m = "end") : (wf5 lp b O Bs e).lookup m = none := by
  unfold wf5
  rw [lk_ne h1, lk_ne h2, lk_ne h3, lk_ne h4, lk_ne h5]
  rfl
theorem wf_lines : (wf lp b O Bs e tv).lookup ("lines" : Str) = some (.ref lp) := lk_eq
theorem wf_border : (wf lp b O Bs e tv).lookup ("border" : Str) = some (.int (b : Nat)) := (lk_ne (by decide +kernel)).trans lk_eq
theorem wf_own : (wf lp b O Bs e tv).lookup ("own" : Str) = some (.ref O) := (lk_ne (by decide +kernel)).trans ((lk_ne (by decide +kernel)).trans lk_eq)
theorem wf_basis : (wf lp b O Bs e tv).lookup ("basis" : Str) = some (.ref Bs) := (lk_ne (by decide +kernel)).trans ((lk_ne (by decide +kernel)).trans ((lk_ne (by decide +kernel)).trans lk_eq))
theorem wf_end : (wf lp b O Bs e tv).lookup ("end" : Str) = some (.int (e : Nat)) := (lk_ne (by decide +kernel)).trans ((lk_ne (by decide +kernel)).trans ((lk_ne (by decide +kernel)).trans ((lk_ne (by decide +kernel)).trans lk_eq)))
theorem wf_tab : (wf lp b O Bs e tv).lookup ("tableau" : Str) = some tv := (lk_ne (by decide +kernel)).trans ((lk_ne (by decide +kernel)).trans ((lk_ne (by decide +kernel)).trans ((lk_ne (by decide +kernel)).trans ((lk_ne (by decide +kernel)).trans lk_eq))))
theorem wf_no {m : Str} (h1 : ¬ m = "lines") (h2 : ¬ m = "border") (h3 : ¬ m = "own") (h4 : ¬ m = "basis") (h5 : ¬ m = "end") (h6 : ¬ m = "tableau") : (wf lp b O Bs e tv).lookup m = none := by
  unfold wf
  rw [lk_ne h1, lk_ne h2, lk_ne h3, lk_ne h4, lk_ne h5, lk_ne h6]
  rfl
theorem wf_put {x : V} : putF ("tableau" : Str) x (wf lp b O Bs e tv) = wf lp b O Bs e x := by
  unfold wf
  rw [pf_ne (by decide +kernel), pf_ne (by decide +kernel), pf_ne (by decide +kernel), pf_ne (by decide +kernel), pf_ne (by decide +kernel), pf_eq]
end
/-- the ways of the lines -/
def WaysA (K : PySem.W.Frag) (H : Hp) (lp : Addr) (m : Nat) : Prop := ∃ xs, H lp = some (.lst xs) ∧ xs.length = m ∧ ∀ (i : Nat) v, xs[i]? = some v → ∃ (t : Addr) (a b c : V) (wy : Int), v = .ref t ∧ SqT K H t [a, b, c, .int wy] ∧ (wy = 1 ∨ wy = -1)
theorem WaysA.fx {K : PySem.W.Frag} {D lp : Addr} {H H' : Hp} {m : Nat} (x : Fx D H H') (nt : NT H D) (np : lp ≠ D) (h : WaysA K H lp m) : WaysA K H' lp m :=
  let ⟨xs, a, b, c⟩ := h; ⟨xs, x _ _ np a, b, fun i v hv => let ⟨t, x1, x2, x3, wy, h1, h2, h3⟩ := c i v hv; ⟨t, x1, x2, x3, wy, h1, fx_t' x nt h2, h3⟩⟩
/-- a work's object, at a state -/
structure WrkL (K : PySem.W.Frag) (H : Hp) (p C lp O Bs : Addr) (tv : V) (L : Nat → PW.Line) (m : Nat) (x : PW.St) (N : Nat → Nat → Int) (sc : Nat) : Prop where
  ob : ∃ dx, H p = some (.ins C dx (wf lp (PW.bord L m) O Bs (PW.wid L m) tv))
  wy : WaysA K H lp m
  ow : H O = some (.lst (rowV (fun i => (PW.ownc L m i : Nat)) m))
  bs : H Bs = some (.lst (rowV (fun i => (x.B i : Nat)) m))
  n1 : O ≠ Bs
  n2 : lp ≠ Bs
  tb : TabA K (fun a => a ≠ Bs) H tv N (sc : Nat) (m + 2) (PW.wid L m + 1)
  s0 : 0 < sc
  s9 : sc < 2 ^ 3000
  z9 : ∀ r, r < m + 2 → ∀ c, c < PW.wid L m + 1 → (N r c).natAbs < 2 ^ 3000
  eq : ∀ r, r < m + 2 → ∀ c, c < PW.wid L m + 1 → x.T r c = (N r c : Rat) / ((sc : Nat) : Rat)
def WrkB (K : PySem.W.Frag) (H : Hp) (p C Bs : Addr) (L : Nat → PW.Line) (m : Nat) (x : PW.St) : Prop := ∃ lp O tv N sc, WrkL K H p C lp O Bs tv L m x N sc
theorem WrkL.ex {K : PySem.W.Frag} {H H' : Hp} {p C lp O Bs : Addr} {tv : V} {L : Nat → PW.Line} {m : Nat} {x : PW.St} {N : Nat → Nat → Int} {sc : Nat} (e : Ex H H') (h : WrkL K H p C lp O Bs tv L m x N sc) : WrkL K H' p C lp O Bs tv L m x N sc := by
  obtain ⟨⟨dx, h1⟩, ⟨xs, h2, h3, h4⟩, h5, h6, h7, h8, h9, h10, h11, h12, h13⟩ := h
  exact ⟨⟨dx, e _ _ h1⟩, ⟨xs, e _ _ h2, h3, fun i v hv => let ⟨t, x1, x2, x3, wy, h1, h2, h3⟩ := h4 i v hv; ⟨t, x1, x2, x3, wy, h1, ex_t e h2, h3⟩⟩, e _ _ h5, e _ _ h6, h7, h8, h9.ex e, h10, h11, h12, h13⟩
theorem WrkB.ex {K : PySem.W.Frag} {H H' : Hp} {p C Bs : Addr} {L : Nat → PW.Line} {m : Nat} {x : PW.St} (e : Ex H H') (h : WrkB K H p C Bs L m x) : WrkB K H' p C Bs L m x :=
  let ⟨lp, O, tv, N, sc, h⟩ := h; ⟨lp, O, tv, N, sc, h.ex e⟩
/-! ### dicts that are filled -/
def DictL (K : PySem.W.Frag) (H : Hp) (d : Addr) (f : Nat → Rat) (n : Nat) : Prop := ∃ kvs, H d = some (.dK kvs) ∧ kvs.length ≤ n ∧ ∀ c : Nat, (∀ v, valV kvs (.inl (c : Int)) = some v → FrA K H v (f c)) ∧ (valV kvs (.inl (c : Int)) = none → f c = 0)
theorem DictL.a {K : PySem.W.Frag} {H : Hp} {d : Addr} {f : Nat → Rat} {n : Nat} (h : DictL K H d f n) : DictF K H d f := let ⟨kvs, a, _, b⟩ := h; ⟨kvs, a, b⟩
theorem DictL.ex {K : PySem.W.Frag} {H H' : Hp} {d : Addr} {f : Nat → Rat} {n : Nat} (e : Ex H H') (h : DictL K H d f n) : DictL K H' d f n :=
  let ⟨kvs, a, l, b⟩ := h; ⟨kvs, e _ _ a, l, fun c => ⟨fun v hv => ((b c).1 v hv).ex e, (b c).2⟩⟩
theorem DictL.congr {K : PySem.W.Frag} {H : Hp} {d : Addr} {f g : Nat → Rat} {n : Nat} (h : DictL K H d f n) (e : ∀ c, f c = g c) : DictL K H d g n := by
  have : f = g := funext e
  rw [← this]; exact h
theorem DictL.fx {K : PySem.W.Frag} {D d : Addr} {H H' : Hp} {f : Nat → Rat} {n : Nat} (x : Fx D H H') (nt : NT H D) (np : d ≠ D) (h : DictL K H d f n) : DictL K H' d f n :=
  let ⟨kvs, a, l, b⟩ := h; ⟨kvs, x _ _ np a, l, fun c => ⟨fun v hv => ((b c).1 v hv).fx' x nt, (b c).2⟩⟩
theorem DictF.fx {K : PySem.W.Frag} {D d : Addr} {H H' : Hp} {f : Nat → Rat} (x : Fx D H H') (nt : NT H D) (np : d ≠ D) (h : DictF K H d f) : DictF K H' d f :=
  let ⟨kvs, a, b⟩ := h; ⟨kvs, x _ _ np a, fun c => ⟨fun v hv => ((b c).1 v hv).fx' x nt, (b c).2⟩⟩
theorem DictL.mono {K : PySem.W.Frag} {H : Hp} {d : Addr} {f : Nat → Rat} {n k : Nat} (h : DictL K H d f n) (l : n ≤ k) : DictL K H d f k := let ⟨kvs, a, b, c⟩ := h; ⟨kvs, a, by omega, c⟩
theorem dictL_0 {K : PySem.W.Frag} {H : Hp} {d : Addr} (h : H d = some (.dK [])) : DictL K H d (fun _ => 0) 0 := ⟨[], h, Nat.le_refl _, fun c => ⟨fun v hv => (by rw [valV_nil] at hv; cases hv), fun _ => rfl⟩⟩
section
variable {K : PySem.W.Frag} {σ : L2.St} {H H' : Hp} {td ty tv te ta tb : TE} {tt : TT} {D : Ends} {tz : TS} {r : Rat}
theorem s_dputF {d : Addr} {c n : Nat} {f : Nat → Rat} (hv : EvF K tv σ H r) (ho : Ev td σ H (.ref d)) (hi : Ev ty σ H (.int (c : Nat))) (hd : DictL K H d f n) (hn : n < 100000)
    (k : ∀ H2, (∀ H0, H0 d = none → Ex H0 H → Ex H0 H2) → DictL K H2 d (fun x => if x = c then r else f x) (n + 1) → D.nx σ H2) : sDPut td ty tv D σ H :=
  hv H (Ex.refl H) _ fun v H1 e1 f1 => ho H1 e1 _ fun H2 e2 => hi H2 (e1.trans e2) _ fun H3 e3 => by
    have e13 := (e1.trans e2).trans e3
    obtain ⟨kvs, h1, h2, h3⟩ := hd.ex e13
    refine ⟨d, _, rfl, DPut.k (k := Sum.inl (c : Int)) h1 (Nat.lt_of_le_of_lt h2 (sz_lt hn)), k _ (fun H0 hn e => (e.trans e13).mut hn) ⟨_, upd_same, Nat.le_trans (length_putK _ _ _) (by omega), fun x => ?_⟩⟩
    rw [valV_put]
    have fx : Fx d H3 (upd H3 d (.dK (putK kvs (Sum.inl (c : Int)) v))) := Fx.upd
    by_cases hx : x = c
    · subst hx
      rw [if_pos rfl]
      refine ⟨fun u hu => ?_, fun z => by cases z⟩
      cases hu
      show FrA K _ _ (if x = x then r else f x)
      rw [if_pos rfl]
      exact (f1.ex (e2.trans e3)).fx' fx (nt_dk h1)
    · rw [if_neg (fun z => hx (by have := Sum.inl.inj z; omega))]
      refine ⟨fun u hu => ?_, fun z => ?_⟩
      · show FrA K _ _ (if x = c then r else f x)
        rw [if_neg hx]
        exact ((h3 x).1 u hu).fx' fx (nt_dk h1)
      · show (if x = c then r else f x) = 0
        rw [if_neg hx]
        exact (h3 x).2 z
theorem q_dputF {d : Addr} {c n : Nat} {f : Nat → Rat} (hv : EvF K tv σ H r) (ho : Ev td σ H (.ref d)) (hi : Ev ty σ H (.int (c : Nat))) (hd : DictL K H d f n) (hn : n < 100000)
    (k : ∀ H2, (∀ H0, H0 d = none → Ex H0 H → Ex H0 H2) → DictL K H2 d (fun x => if x = c then r else f x) (n + 1) → tz D σ H2) : tSeq (sDPut td ty tv) tz D σ H := s_dputF (D := { D with nx := tz D }) hv ho hi hd hn k
theorem evf_if {b : Bool} (h : EvT tt σ H b) (h1 : b = true → EvF K ta σ H r) (h2 : b = false → EvF K tb σ H r) : EvF K (tIf tt ta tb) σ H r := fun H1 e Q k => h H1 e _ fun H2 e2 => by
  cases b with
  | true => exact h1 rfl H2 (e.trans e2) Q fun v H3 e3 => k v H3 (e2.trans e3)
  | false => exact h2 rfl H2 (e.trans e2) Q fun v H3 e3 => k v H3 (e2.trans e3)
def rListQ (K : PySem.W.Frag) : List V → Hp → VK → Prop := fun xs H Q => ∃ p ys, xs = [.ref p] ∧ (SqL K H p ys ∨ SqT K H p ys) ∧ ∀ l, H l = none → Q (.ref l) (upd H l (.lst ys))
theorem el_listL {a : Addr} {xs : List V} (ha : Ev ta σ H (.ref a)) (h : SqL K H a xs) : EvL (tCB (rListQ K) (tCons ta tNil)) σ H xs := fun H1 e Q k =>
  ha H1 e _ fun H2 e2 => ⟨a, xs, rfl, .inl (ex_l (e.trans e2) h), fun l hl => k l _ (fresh_back e2 hl) (e2.trans (Ex.new hl)) upd_same⟩
end
theorem rowV_succ (f : Nat → Int) (i : Nat) : rowV f (i + 1) = rowV f i ++ [.int (f i)] := by simp [rowV, List.range_succ]
def exS (L : Nat → PW.Line) (i c : Nat) : Rat := if (L i).mark ≠ .eq ∧ c = PW.sl L i then (if (L i).mark = .le then 1 else -1) else 0
theorem exS_le {L : Nat → PW.Line} {m i : Nat} (h : (L i).mark = .le) (c : Nat) : exS L i c = PW.exq L m i c := by
  unfold exS PW.exq
  rw [if_neg (c := (L i).mark ≠ .le ∧ _) (fun z => z.1 h), Rat.add_zero]
theorem exS_ne {L : Nat → PW.Line} {m i : Nat} (hi : i < m) (h : (L i).mark ≠ .le) (c : Nat) : (if c = PW.ar L m i then 1 else exS L i c) = PW.exq L m i c := by
  unfold exS PW.exq
  by_cases ca : c = PW.ar L m i
  · have n1 : ¬ ((L i).mark ≠ .eq ∧ c = PW.sl L i) := fun z => by
      have := PW.sl_lt hi z.1
      have := PW.ar_ge (L := L) m i
      omega
    rw [if_pos ca, if_neg n1, if_pos ⟨h, ca⟩, Rat.zero_add]
  · rw [if_neg ca, if_neg (c := (L i).mark ≠ .le ∧ _) (fun z => ca z.2), Rat.add_zero]
/-- a row as __init__ lays it: its numbers were there before -/
def RowX2 (K : PySem.W.Frag) (H0 H : Hp) (v : V) (l : PW.Line) (ex : Nat → Rat) : Prop := ∃ t q d f, v = .ref t ∧ SqT K H t [.ref q, .ref d, f] ∧ NumsA K H0 q (lnF l) 2 ∧ DictF K H d ex ∧ FrA K H f l.c
theorem RowX2.fx {K : PySem.W.Frag} {D : Addr} {H0 H H' : Hp} {v : V} {l : PW.Line} {ex : Nat → Rat} (x : Fx D H H') (nt : NT H D) (nd : ∀ kvs, H D ≠ some (.dK kvs)) (h : RowX2 K H0 H v l ex) : RowX2 K H0 H' v l ex :=
  let ⟨t, q, d, f, a, b, c, u, w⟩ := h; ⟨t, q, d, f, a, fx_t' x nt b, c, u.fx x nt (fun z => let ⟨kvs, h, _⟩ := u; nd kvs (z ▸ h)), w.fx' x nt⟩
theorem RowX2.ex {K : PySem.W.Frag} {H0 H H' : Hp} {v : V} {l : PW.Line} {ex : Nat → Rat} (e : Ex H H') (h : RowX2 K H0 H v l ex) : RowX2 K H0 H' v l ex :=
  let ⟨t, q, d, f, a, b, c, u, w⟩ := h; ⟨t, q, d, f, a, ex_t e b, c, u.ex e, w.ex e⟩
theorem fx_mut {D x : Addr} {H H' : Hp} {o : HO} (f : Fx D H H') (hx : H x = none) : Fx D H (upd H' x o) := fun a u n h => by
  rw [upd_ne (ne_of_none h hx)]
  exact f a u n h
/-- what stands after so many lines are laid -/
def WInv (K : PySem.W.Frag) (C p dx R G SL O Rw : Addr) (L : Nat → PW.Line) (m : Nat) (H : Hp) (i : Nat) (σ' : L2.St) (H' : Hp) : Prop := Fx p H H' ∧ H' p = some (.ins C dx (wf3 R (PW.bord L m) O)) ∧ H' O = some (.lst (rowV (fun i => (PW.ownc L m i : Nat)) i)) ∧ (∃ c8 c9 c10 c11 c12, σ' = [some (.ref p), some (.ref R), some (.ref G), some (.int (PW.sl L i : Nat)), some (.ref SL), none, some (.int (PW.ar L m i : Nat)), some (.ref Rw), c8, c9, c10, c11, c12]) ∧
      ∃ xs, H' Rw = some (.lst xs) ∧ xs.length = i ∧ ∀ (j : Nat) v, xs[j]? = some v → RowX2 K H H' v (L j) (PW.exq L m j)
theorem sl_succ (L : Nat → PW.Line) (i : Nat) : PW.sl L (i + 1) = PW.sl L i + if (L i).mark = .eq then 0 else 1 := by
  show 2 + (PW.nS L i + _) = 2 + PW.nS L i + _
  omega
theorem ar_succ (L : Nat → PW.Line) (m i : Nat) : PW.ar L m (i + 1) = PW.ar L m i + if (L i).mark = .le then 0 else 1 := by
  show PW.bord L m + (PW.nA L i + _) = PW.bord L m + PW.nA L i + _
  omega
section
variable {P : Program} {w : World} {K : PySem.W.Frag} {mg : Str → Option Value} {base : Heap}
abbrev N_Work_init : List Str := ["self", "lines", "goal", "first", "slacks", "line", "width", "rows", "numbers", "mark", "bound", "way", "extra"]
theorem sc_Work_init : FnScope N_Work_init ["self", "lines", "goal"] (defScope s_Work_init) := ⟨rfl, rfl, rfl, by decide +kernel, rfl, by decide +kernel, by decide +kernel⟩
def spWInit (K : PySem.W.Frag) (C : Addr) : Sp := fun vs H Q _ => ∃ (p dx R G : Addr) (Ls : List PW.Line) (m : Nat) (g0 g1 : Rat) (d B : Nat), vs = [.ref p, .ref R, .ref G] ∧ H p = some (.ins C dx []) ∧ LinesA K H R Ls ∧ Ls.length = m ∧ NumsA K H G (gF g0 g1) 2 ∧ Siz (fun i => Ls.getD i PW.Line.nul) m g0 g1 d B ∧
  ∀ H' Bs, Fx p H H' → H Bs = none → WrkB K H' p C Bs (fun i => Ls.getD i PW.Line.nul) m ⟨PW.tab (fun i => Ls.getD i PW.Line.nul) m g0 g1, PW.ownc (fun i => Ls.getD i PW.Line.nul) m⟩ → Q .non H'
theorem ok_Work_init (T : Txt w K mg) : FnOk P w K mg base CX0 5 T.Work_init.f T.Work_init.fd ["self", "lines", "goal"] (spWInit K T.cW) := by
  refine T.Work_init.F.ok sc_Work_init (fun vs H Q E h => ?_) (fun cdv A outer s H vs Q E hr h => ?_)
  · obtain ⟨p, dx, R, G, Ls, m, g0, g1, d, B, rfl, _⟩ := h
    rfl
  obtain ⟨p, dx, R, G, Ls, m, g0, g1, d, B, rfl, hp, hR, hLm, hG, Z, q⟩ := h
  refine ⟨_, PSs.nox (pss_cons (ps_fld (pv 0) (pv 1) rfl)
 (pss_cons (ps_set (i := 3) sc_Work_init.nd rfl (Or.inl rfl) (pe_callB (call_lenK (K := K) rfl) (by rfl) T.m_len PySem.boot_len (pa_cons (pv 2) pa_nil)))
 (pss_cons (ps_setLc (i := 4) (own := [("line", 5)]) (g := gName 5) rfl sc_Work_init.nd rfl rfl (sw_true rfl rfl rfl (by decide +kernel)) (pi_listK (K := K) rfl (pv 1)) (blkOk_by (N := N_Work_init) (sc := defScope s_Work_init) (by decide +kernel))
 (fun _ _ _ _ _ => (pg_name (i := 5) sc_Work_init.nd rfl (Or.inl rfl))) (fun _ _ _ _ _ => (pts_one (pt_cmpR op_ne (pe_ix (ix_tupK (K := K) rfl) (pv 5) pe_int (fun _ _ => rfl)) pe_str (nomark _)))) (fun _ _ _ _ _ => (pv 5)))
 (pss_cons (ps_fld (pv 0) (pe_op op_add (pv 3) (pe_callB (call_lenK (K := K) rfl) (by rfl) T.m_len PySem.boot_len (pa_cons (pv 4) pa_nil))) rfl)
 (pss_cons (ps_fld (pv 0) (pe_lst pa_nil) rfl)
 (pss_cons (ps_set (i := 6) sc_Work_init.nd rfl (Or.inl rfl) (pe_fldK (K := K) rfl (pv 0) rfl))
 (pss_cons (ps_set (i := 7) sc_Work_init.nd rfl (Or.inl rfl) (pe_lst pa_nil))
 (pss_cons (ps_for PassesOwn.never rfl (pi_listK (K := K) rfl (pv 1)) (pg_tupK (n := 4) (K := K) rfl rfl (pgs_cons (pg_name (i := 8) sc_Work_init.nd rfl (Or.inl rfl)) (pgs_cons (pg_name (i := 9) sc_Work_init.nd rfl (Or.inl rfl)) (pgs_cons (pg_name (i := 10) sc_Work_init.nd rfl (Or.inl rfl)) (pgs_cons (pg_name (i := 11) sc_Work_init.nd rfl (Or.inl rfl)) pgs_nil)))))
 (pss_cons (ps_set (i := 12) sc_Work_init.nd rfl (Or.inl rfl) pe_dnewK)
 (pss_cons (ps_if (pt_cmpR op_ne (pv 9) pe_str (nomark _)) (pss_cons (ps_dput (hu_of hr) (pv 12) (pv 3) (pe_ifExp (pt_cmpR op_eq (pv 9) pe_str (nomark _)) (pe_glob (v := .ref T.one) rfl T.gone rfl) (pe_tup (pa_cons (pe_un un_neg pe_int) (pa_cons pe_int pa_nil)))) rfl)
 (pss_one (ps_set (i := 3) sc_Work_init.nd rfl (Or.inl rfl) (pe_op op_add (pv 3) pe_int)))) pss_nil)
 (pss_cons (ps_if (pt_cmpR op_eq (pv 9) pe_str (nomark _)) (pss_one (ps_expr (pe_bm PySem.F.plainAttrs_list PySem.F.slot_list_append PySem.F.type_list_append mt_append (pe_fldK (K := K) rfl (pv 0) rfl) (pa_cons (pe_op op_sub (pv 3) pe_int) pa_nil)))) (pss_cons (ps_dput (hu_of hr) (pv 12) (pv 6) (pe_glob (v := .ref T.one) rfl T.gone rfl) rfl)
 (pss_cons (ps_expr (pe_bm PySem.F.plainAttrs_list PySem.F.slot_list_append PySem.F.type_list_append mt_append (pe_fldK (K := K) rfl (pv 0) rfl) (pa_cons (pv 6) pa_nil)))
 (pss_one (ps_set (i := 6) sc_Work_init.nd rfl (Or.inl rfl) (pe_op op_add (pv 6) pe_int))))))
 (pss_one (ps_expr (pe_bm PySem.F.plainAttrs_list PySem.F.slot_list_append PySem.F.type_list_append mt_append (pv 7) (pa_cons (pe_tup (pa_cons (pv 8) (pa_cons (pv 12) (pa_cons (pv 10) pa_nil)))) pa_nil))))))))
 (pss_cons (ps_fld (pv 0) (pe_callTy call_list_of (by rfl) T.m_list (by decide +kernel) (pa_cons (pe_fldK (K := K) rfl (pv 0) rfl) pa_nil)) rfl)
 (pss_cons (ps_fld (pv 0) (pv 6) rfl)
 (pss_one (ps_fld (pv 0) (pe_call (ok_over_one T) (hr.mono (by decide)) rfl T.over_one.g T.over_one.F.kp (b_over_one T) .nil pass0 (pa_cons (pe_meth (pv 0) T.clW T.Work_full_rows.m (ok_Work_full_rows T) (hr.mono (by decide)) (b_Work_full_rows T) .nil pass0 (pa_cons (pv 7) (pa_cons (pv 2) (pa_cons (pv 6) pa_nil)))) pa_nil)) rfl)))))))))))), ?_⟩
  generalize hL : (fun i => Ls.getD i PW.Line.nul) = L at Z q
  have hLi : ∀ i l, Ls[i]? = some l → L i = l := fun i l h => by rw [← hL]; show Ls.getD i _ = l; rw [List.getD_eq_getElem?_getD, h]; rfl
  have m5 := Z.m5
  have w1 := wid_le L m
  obtain ⟨rs, r1, r2, r3⟩ := hR
  obtain ⟨gs, g1', g2', g3'⟩ := id hG
  have rp : R ≠ p := fun z => by rw [z, hp] at r1; cases r1
  have gp : G ≠ p := fun z => by rw [z, hp] at g1'; cases g1'
  -- self.lines = lines
  refine q_fld (v := .ref R) (ev_var rfl) (ev_var rfl) hp T.clW T.nW_lines (by show 0 < 1000; decide) fun H1 e1 => ?_
  have f1 : Fx p H (upd H1 p (.ins T.cW dx (wf1 R))) := (Fx.of e1).trans Fx.upd
  -- first = len(goal)
  refine q_asg (v := .int 2) (ev_is (ev_lenL (ev_var rfl) (sq_of (f1 _ _ gp g1'))) (by rw [g2']; rfl)) fun H2 e2 => ?_
  have f2 := f1.trans (Fx.of e2)
  -- slacks
  have tst : ∀ {H' : Hp}, Fx p H H' → ∀ (i : Nat) v, rs[i]? = some v → ∀ {σ : L2.St}, σ[5]? = some (some v) → EvT (tTest (tOp rNe (tOp (rIxT K) (tVar 5) (tC (.int 1))) (tC (.str "=")))) σ H' (!decide ((L i).mark = .eq)) := fun f i v hv σ hs => by
    obtain ⟨l, hl⟩ := get_of_lt (xs := Ls) (i := i) (by have := get_lt hv; omega)
    obtain ⟨t, pp, g, wy, rfl, a, _⟩ := r3 i v l hv hl
    rw [hLi i l hl, ← (mkS_inj l.mark).1]
    exact et_test (ev_op (ev_item hs (fx_t' f (nt_ins hp) a) rfl) ev_c (rv_ne rfl))
  refine q_asgC (evc_listF (K := K) (j := 5) (vs := [5]) (fun i => !decide ((L i).mark = .eq)) (fun _ _ _ _ => True) (ev_var rfl) (sq_of (f2 _ _ rp r1)) (by omega) (fun _ => rfl)
    (fun D i x H3 hD e3 hl hx => tst (f2.trans (Fx.of e3)) i x hx rfl) (fun D i x H3 hD e3 hl hx _ => evr_ev (ev_var rfl) fun _ _ => trivial) (fun _ _ _ _ _ _ _ _ => trivial)) fun SL H3 ss hSL e3 h3 o3 => ?_
  have hss : ss.length = PW.nS L m := by
    rw [o3.1, r2, hLm]
    clear o3 h3 hSL
    have key : ∀ k, ((List.range k).filter fun i => !decide ((L i).mark = .eq)).length = PW.nS L k := by
      intro k
      induction k with
      | zero => rfl
      | succ k ih =>
        rw [range_filter_succ, List.length_append, ih]
        show PW.nS L k + _ = PW.nS L k + _
        by_cases z : (L k).mark = .eq
        · rw [if_pos z, decide_eq_true z]; rfl
        · rw [if_neg z, decide_eq_false z]; rfl
    exact key m
  have f3 := f2.trans (Fx.of e3)
  have p3 : H3 p = some (.ins T.cW dx (wf1 R)) := e3 _ _ (e2 _ _ upd_same)
  -- self.border
  refine q_fld (v := .int (PW.bord L m : Nat)) (ev_is (ev_op (ev_var rfl) (ev_is (ev_lenL (ev_var rfl) (sq_of h3)) (by rw [hss])) rv_I0) (by unfold PW.bord; rfl)) (ev_var rfl) p3 T.clW T.nW_border (by show 1 < 1000; decide) fun H4 e4 => ?_
  rw [wf1_put]
  have f4 : Fx p H (upd H4 p (.ins T.cW dx (wf2 R (PW.bord L m)))) := (f3.trans (Fx.of e4)).trans Fx.upd
  -- self.own = []
  refine q_fldC (evc_l (el_lst ea_nil (Nat.zero_le _))) (ev_var rfl) upd_same T.clW T.nW_own (by show 2 < 1000; decide) fun O H5 xs5 H6 hO e5 h5 ex5 e6 => ?_
  subst ex5
  rw [wf2_put]
  have pO : O ≠ p := fun z => by rw [z, upd_same] at hO; cases hO
  have f6 : Fx p H (upd H6 p (.ins T.cW dx (wf3 R (PW.bord L m) O))) := (f4.trans (Fx.of (e5.trans e6))).trans Fx.upd
  have RO : R ≠ O := fun z => by rw [← z, f4 _ _ rp r1] at hO; cases hO
  have GO : G ≠ O := fun z => by rw [← z, f4 _ _ gp g1'] at hO; cases hO
  have HO0 : H O = none := by
    cases z : H O with
    | none => rfl
    | some o => rw [f4 _ _ pO z] at hO; cases hO
  have O6 : (upd H6 p (.ins T.cW dx (wf3 R (PW.bord L m) O))) O = some (.lst []) := by rw [upd_ne pO]; exact e6 _ _ h5
  -- width = self.border
  refine q_asg (v := .int (PW.bord L m : Nat)) (ev_fld (ev_var rfl) upd_same T.clW T.nW_border wf3_border) fun H7 e7 => ?_
  have f7 := f6.trans (Fx.of e7)
  -- rows = []
  refine q_asgL (el_lst ea_nil (Nat.zero_le _)) fun Rw H8 hRw e8 h8 => ?_
  have f8 := f7.trans (Fx.of e8)
  have p8 : H8 p = some (.ins T.cW dx (wf3 R (PW.bord L m) O)) := e8 _ _ (e7 _ _ upd_same)
  have O8 : H8 O = some (.lst []) := e8 _ _ (e7 _ _ O6)
  have RwO : Rw ≠ O := fun z => by rw [z, e7 _ _ O6] at hRw; cases hRw
  have Rwp : Rw ≠ p := fun z => by rw [z, e7 _ _ upd_same] at hRw; cases hRw
  have HRw0 : H Rw = none := by
    cases z : H Rw with
    | none => rfl
    | some o => rw [f7 _ _ Rwp z] at hRw; cases hRw
  refine q_forL (a := R) (xs := rs) (ev_var rfl) (sq_of (f8 _ _ rp r1)) (WInv K T.cW p dx R G SL O Rw L m H)
    (fun H9 e9 => ⟨f8.trans (Fx.of e9), e9 _ _ p8, e9 _ _ O8, ⟨none, none, none, none, none, rfl⟩, [], e9 _ _ h8, rfl, fun j v h => by simp at h⟩) (fun i σ' H' _ h => sq_of (h.1 _ _ rp r1)) ?_ ?_
  · rintro i x σ' H' hx ⟨f9, p9, O9, ⟨c8, c9, c10, c11, c12, rfl⟩, xs, x1, x2, x3⟩
    obtain ⟨l, hl⟩ := get_of_lt (xs := Ls) (i := i) (by have := get_lt hx; omega)
    have hi : i < m := by have := get_lt hl; omega
    have eL := hLi i l hl
    obtain ⟨t, pp, f, wy, rfl, ht, np, hf, hw, npR⟩ := r3 i x l hx hl
    refine g_four (fx_t' f9 (nt_ins hp) ht) ?_
    intro dd hdd
    have i1 : Ex H' (upd H' dd (.dK [])) := Ex.new hdd
    -- rows.append(..)
    have app : ∀ (D : Ends) (H3 : Hp), Fx p H H3 → H3 p = some (.ins T.cW dx (wf3 R (PW.bord L m) O)) → H3 O = some (.lst (rowV (fun i => (PW.ownc L m i : Nat)) (i + 1))) → H3 Rw = some (.lst xs) → (∀ (j : Nat) v, xs[j]? = some v → RowX2 K H H3 v (L j) (PW.exq L m j)) → DictF K H3 dd (PW.exq L m i) → FrA K H3 f l.c →
        (∀ σ3 H', WInv K T.cW p dx R G SL O Rw L m H (i + 1) σ3 H' → D.nx σ3 H') → tDrop (tBM K "list" rAppend (tVar 7) (tCons (tTup (tCons (tVar 8) (tCons (tVar 12) (tCons (tVar 10) tNil)))) tNil)) D [some (.ref p), some (.ref R), some (.ref G), some (.int (PW.sl L (i + 1) : Nat)), some (.ref SL), none, some (.int (PW.ar L m (i + 1) : Nat)), some (.ref Rw), some (.ref pp), some (.str (mkS l.mark)), some f, some (.int wy), some (.ref dd)] H3 := by
      intro D H3 a1 a2 a3 a4 a5 a6 a7 k
      refine s_appU (l := Rw) (xs := xs) a4 (ev_var rfl) (eu_tup (ea_cons (ev_var rfl) (ea_cons (ev_var rfl) (ea_cons (ev_var rfl) ea_nil))) (by show 3 ≤ 100000; decide)) (by omega) fun t' H4 ht' e4 h4 => ?_
      have x4 := e4 _ _ a4
      have ntx := nt_lst x4
      refine k _ _ ⟨fx_mut (a1.trans (Fx.of e4)) HRw0, ?_, ?_, ⟨_, _, _, _, _, rfl⟩, xs ++ [.ref t'], upd_same, by simp [x2], fun j v hv => ?_⟩
      · rw [upd_ne Rwp.symm]; exact e4 _ _ a2
      · rw [upd_ne RwO.symm]; exact e4 _ _ a3
      · by_cases hj : j < xs.length
        · rw [List.getElem?_append_left hj] at hv
          exact ((a5 j v hv).ex e4).fx Fx.upd ntx (fun kvs z => by rw [x4] at z; cases z)
        · have : j = xs.length := by
            have := get_lt hv
            simp at this
            omega
          subst this
          rw [List.getElem?_append_right (Nat.le_refl _), Nat.sub_self] at hv
          cases hv
          rw [x2, eL]
          exact RowX2.fx Fx.upd ntx (fun kvs z => by rw [x4] at z; cases z) ⟨t', pp, dd, f, rfl, st_of h4, np, a6.ex e4, a7.ex e4⟩
    -- the own column
    have second : ∀ (D : Ends) (H2 : Hp), Ex H' H2 → DictL K H2 dd (exS L i) 1 → (∀ σ3 H', WInv K T.cW p dx R G SL O Rw L m H (i + 1) σ3 H' → D.nx σ3 H') →
        tSeq (tIfS (tTest (tOp rEq (tVar 9) (tC (.str "<=")))) (tDrop (tBM K "list" rAppend (tFld K (tVar 0) "own") (tCons (tOp (rI0 fun i j => .int (i - j)) (tVar 3) (tC (.int 1))) tNil))) (tSeq (sDPut (tVar 12) (tVar 6) (tC (.ref T.one))) (tSeq (tDrop (tBM K "list" rAppend (tFld K (tVar 0) "own") (tCons (tVar 6) tNil))) (tAsg (tOp (rI0 fun i j => .int (i + j)) (tVar 6) (tC (.int 1))) (gName 6)))))
          (tDrop (tBM K "list" rAppend (tVar 7) (tCons (tTup (tCons (tVar 8) (tCons (tVar 12) (tCons (tVar 10) tNil)))) tNil))) D [some (.ref p), some (.ref R), some (.ref G), some (.int (PW.sl L (i + 1) : Nat)), some (.ref SL), none, some (.int (PW.ar L m i : Nat)), some (.ref Rw), some (.ref pp), some (.str (mkS l.mark)), some f, some (.int wy), some (.ref dd)] H2 := by
      intro D H2 e2 d2 k
      have as := ar_succ L m i
      have ss := sl_succ L i
      refine q_if (b := decide (l.mark = .le)) (et_is (et_test (ev_op (ev_var rfl) ev_c (rv_eq rfl))) (mkS_inj l.mark).2) (fun hb H3 e3 => ?_) (fun hb H3 e3 => ?_)
      · have hm : (L i).mark = .le := by rw [eL]; exact of_decide_eq_true hb
        rw [if_pos hm] at as
        rw [if_neg (by rw [hm]; decide)] at ss
        have e23 := e2.trans e3
        have O3 := e23 _ _ O9
        have d3 := d2.ex e3
        have oc : PW.ownc L m i = PW.sl L i := by unfold PW.ownc; rw [if_pos hm]
        refine s_app (l := O) (xs := rowV (fun i => (PW.ownc L m i : Nat)) i) (v := .int (PW.ownc L m i : Nat)) O3 (ev_fld (ev_var rfl) (e23 _ _ p9) T.clW T.nW_own wf3_own) (ev_is (ev_op (ev_var rfl) ev_c rv_I0) (by rw [oc, ss]; show V.int _ = V.int _; congr 1; omega)) (by rw [rowV_len]; omega) fun H4 e4 => ?_
        have e24 := e23.trans e4
        have O4 := e4 _ _ O3
        have nto := nt_lst O4
        have r := app D (upd H4 O (.lst (rowV (fun i => (PW.ownc L m i : Nat)) i ++ [.int (PW.ownc L m i : Nat)]))) (fx_mut (f9.trans (Fx.of e24)) HO0) (by rw [upd_ne pO.symm]; exact e24 _ _ p9) (by rw [upd_same, rowV_succ]) (by rw [upd_ne RwO]; exact e24 _ _ x1) (fun j v hv => ((x3 j v hv).ex e24).fx Fx.upd nto (fun kvs z => by rw [O4] at z; cases z))
          ((((d3.ex e4).fx Fx.upd nto (fun z => by
            obtain ⟨kvs, h, _⟩ := d3.ex e4
            rw [z, O4] at h; cases h)).congr (g := PW.exq L m i) (exS_le hm)).a) (((hf.fx' f9 (nt_ins hp)).ex e24).fx' Fx.upd nto) k
        rw [as] at r
        exact r
      · have hm : (L i).mark ≠ .le := by rw [eL]; intro z; rw [decide_eq_true z] at hb; cases hb
        rw [if_neg hm] at as
        refine q_dputF (c := PW.ar L m i) (evf_one T) (ev_var rfl) (ev_var rfl) (d2.ex e3) (by omega) fun H4 ex4 d4 => ?_
        have e24 : Ex H' H4 := ex4 H' hdd (e2.trans e3)
        refine q_app (l := O) (xs := rowV (fun i => (PW.ownc L m i : Nat)) i) (v := .int (PW.ownc L m i : Nat)) (e24 _ _ O9) (ev_fld (ev_var rfl) (e24 _ _ p9) T.clW T.nW_own wf3_own) (ev_is (ev_var rfl) (by unfold PW.ownc; rw [if_neg hm])) (by rw [rowV_len]; omega) fun H5 e5 => ?_
        have e25 := e24.trans e5
        have O5 := e25 _ _ O9
        have nto := nt_lst O5
        refine s_asg (v := .int (PW.ar L m (i + 1) : Nat)) (ev_is (ev_op (ev_var rfl) ev_c rv_I0) (by rw [as]; rfl)) fun H6 e6 => ?_
        exact app D H6 ((fx_mut (f9.trans (Fx.of e25)) HO0).trans (Fx.of e6)) (e6 _ _ (by rw [upd_ne pO.symm]; exact e25 _ _ p9)) (e6 _ _ (by rw [upd_same, rowV_succ])) (e6 _ _ (by rw [upd_ne RwO]; exact e25 _ _ x1)) (fun j v hv => (((x3 j v hv).ex e25).fx Fx.upd nto (fun kvs z => by rw [O5] at z; cases z)).ex e6)
          (((((d4.ex e5).fx Fx.upd nto (fun z => by
            obtain ⟨kvs, h, _⟩ := d4.ex e5
            rw [z, O5] at h; cases h)).congr (g := PW.exq L m i) (exS_ne hi hm)).ex e6).a) ((((hf.fx' f9 (nt_ins hp)).ex e25).fx' Fx.upd nto).ex e6) k
    -- the slack column
    have ss := sl_succ L i
    have d1 : DictL K (upd H' dd (.dK [])) dd (fun _ => 0) 0 := dictL_0 upd_same
    refine q_when (b := !decide (l.mark = .eq)) (et_is (et_test (ev_op (ev_var rfl) ev_c (rv_ne rfl))) (by rw [(mkS_inj l.mark).1])) (fun hb H2 e2 => ?_) (fun hb H2 e2 => ?_)
    · have hm : (L i).mark ≠ .eq := by rw [eL]; intro z; rw [decide_eq_true z] at hb; cases hb
      rw [if_neg hm] at ss
      refine q_dputF (c := PW.sl L i) (r := if l.mark = .le then 1 else -1) (evf_if (b := decide (l.mark = .le)) (et_is (et_test (ev_op (ev_var rfl) ev_c (rv_eq rfl))) (mkS_inj l.mark).2) (fun hb => by rw [if_pos (of_decide_eq_true hb)]; exact evf_one T) (fun hb => by
          rw [if_neg (fun z => by rw [decide_eq_true z] at hb; cases hb)]
          exact evf_tup (r := -1) (fun H1 e Q k => ⟨1, rfl, k H1 (Ex.refl H1)⟩) ev_c)) (ev_var rfl) (ev_var rfl) (d1.ex e2) (by omega) fun H3 ex3 d3 => ?_
      refine s_asg (v := .int (PW.sl L (i + 1) : Nat)) (ev_is (ev_op (ev_var rfl) ev_c rv_I0) (by rw [ss]; rfl)) fun H4 e4 => ?_
      refine second _ H4 ((ex3 H' hdd (i1.trans e2)).trans e4) ((d3.ex e4).congr fun c => ?_) (fun _ _ h => h)
      show (if c = PW.sl L i then _ else 0) = exS L i c
      unfold exS
      rw [eL] at hm ⊢
      by_cases cs : c = PW.sl L i
      · rw [if_pos cs, if_pos (show l.mark ≠ .eq ∧ c = PW.sl L i from ⟨hm, cs⟩)]
      · rw [if_neg cs, if_neg (show ¬ (l.mark ≠ .eq ∧ c = PW.sl L i) from fun z => cs z.2)]
    · have hm : (L i).mark = .eq := by
        rw [eL]
        by_cases z : l.mark = .eq
        · exact z
        · rw [decide_eq_false z] at hb; cases hb
      rw [if_pos hm] at ss
      have r := fun D => second D H2 (i1.trans e2) (((d1.ex e2).congr (g := exS L i) fun c => by
        unfold exS
        rw [if_neg fun z => z.1 hm]).mono (by omega))
      rw [show PW.sl L (i + 1) = PW.sl L i from ss] at r
      exact r _ (fun _ _ h => h)
  · rintro σ' H' ⟨f9, p9, O9, ⟨c8, c9, c10, c11, c12, rfl⟩, xs, x1, x2, x3⟩
    have hm : rs.length = m := by omega
    rw [hm] at O9 x2
    -- self.basis = list(self.own)
    refine q_fldC (evc_l (el_listL (ev_fld (ev_var rfl) p9 T.clW T.nW_own wf3_own) (sq_of O9))) (ev_var rfl) p9 T.clW T.nW_basis (by show 3 < 1000; decide) fun Bs H10 xs10 H11 hBs e10 h10 ex10 e11 => ?_
    subst ex10
    rw [wf3_put]
    have pBs : Bs ≠ p := fun z => by rw [z, p9] at hBs; cases hBs
    have HBs0 : H Bs = none := by
      cases z : H Bs with
      | none => rfl
      | some o => rw [f9 _ _ pBs z] at hBs; cases hBs
    have OBs : O ≠ Bs := fun z => by rw [← z, O9] at hBs; cases hBs
    have RBs : R ≠ Bs := fun z => by rw [← z, f9 _ _ rp r1] at hBs; cases hBs
    have f11 : Fx p H (upd H11 p (.ins T.cW dx (wf4 R (PW.bord L m) O Bs))) := (f9.trans (Fx.of (e10.trans e11))).trans Fx.upd
    have fx11 : Fx p H' (upd H11 p (.ins T.cW dx (wf4 R (PW.bord L m) O Bs))) := (Fx.of (e10.trans e11)).trans Fx.upd
    -- self.end = width
    refine q_fld (v := .int (PW.wid L m : Nat)) (ev_var (by show some (some (V.int (PW.ar L m rs.length : Nat))) = _; rw [hm]; rfl)) (ev_var rfl) upd_same T.clW T.nW_end (by show 4 < 1000; decide) fun H12 e12 => ?_
    rw [wf4_put]
    have fx12 : Fx p H' (upd H12 p (.ins T.cW dx (wf5 R (PW.bord L m) O Bs (PW.wid L m)))) := (fx11.trans (Fx.of e12)).trans Fx.upd
    have f12 := f9.trans fx12
    have ntp := nt_ins p9
    have B12 : (upd H12 p (.ins T.cW dx (wf5 R (PW.bord L m) O Bs (PW.wid L m)))) Bs = some (.lst (rowV (fun i => (PW.ownc L m i : Nat)) m)) := by
      rw [upd_ne pBs]
      refine e12 _ _ ?_
      rw [upd_ne pBs]
      exact e11 _ _ h10
    -- self.tableau = over_one(..)
    refine s_fldR (R := fun v H1 => ∃ N sc, TabA K (fun a => a ≠ Bs) H1 v N (sc : Nat) (m + 2) (PW.wid L m + 1) ∧ 0 < sc ∧ sc ∣ d ∧ ∀ r, r < m + 2 → ∀ c, c < PW.wid L m + 1 → PW.tab L m g0 g1 r c = (N r c : Rat) / ((sc : Nat) : Rat)) (fun H13 e13 Q' k' => ?_) (ev_var rfl) upd_same T.clW T.nW_tableau (by show 5 < 1000; decide) fun v H13 H14 e13 hv e14 => ?_
    · have fx13 := fx12.trans (Fx.of e13)
      have f13 := f12.trans (Fx.of e13)
      refine a_cons ⟨_, rfl, p, dx, _, rfl, e13 _ _ upd_same, wf5_no (by decide +kernel) (by decide +kernel) (by decide +kernel) (by decide +kernel) (by decide +kernel), _, rfl, _, rfl, _, rfl, ?_⟩
      refine ⟨p, dx, _, Rw, G, L, m, g0, g1, O, xs, by rw [hm]; rfl, e13 _ _ upd_same, wf5_own, wf5_border, fx13 _ _ pO O9, fx13 _ _ Rwp x1, x2, fun i v hv => ?_, hG.fx f13 (nt_ins hp) gp, m5, Z.ln, fun Dd H15 hDd e15 fm => ?_⟩
      · obtain ⟨t, qn, dd, f, rfl, y1, y2, y3, y4⟩ := (x3 i v hv).fx fx13 ntp (fun kvs z => by rw [p9] at z; cases z)
        exact ⟨t, qn, dd, f, rfl, y1, y2.fx f13 (nt_ins hp) (fun z => by
          obtain ⟨ys, h, _⟩ := y2
          rw [z, hp] at h; cases h), y3, y4⟩
      · refine ⟨fun a => a ≠ Bs, Dd, PW.tab L m g0 g1, m + 2, PW.wid L m + 1, d, rfl, fun a ha z => ?_, fm, by omega, by omega, Z.s.d0, Nat.lt_of_lt_of_le Z.d3 (Nat.pow_le_pow_right (by omega) (by omega)), fun r hr c hc => Z.den hr hc, fun v H16 N sc e16 t0 s0 sd eq => k' v H16 (e15.trans e16) ⟨N, sc, t0, s0, sd, eq⟩⟩
        rw [z, e15 _ _ (e13 _ _ B12)] at ha
        cases ha
    · rw [wf5_put]
      obtain ⟨N, sc, t0, s0, sd, eq⟩ := hv
      have fx14 : Fx p H' (upd H14 p (.ins T.cW dx (wf R (PW.bord L m) O Bs (PW.wid L m) v))) := (fx12.trans (Fx.of (e13.trans e14))).trans Fx.upd
      have sle : sc ≤ d := Nat.le_of_dvd Z.s.d0 sd
      have tN13 := (t0.ex e14).fxi (Fx.upd (o := .ins T.cW dx (wf R (PW.bord L m) O Bs (PW.wid L m) v))) ((e13.trans e14) _ _ upd_same)
      have tN : TabA K (fun a => a ≠ Bs) (upd H14 p (.ins T.cW dx (wf R (PW.bord L m) O Bs (PW.wid L m) v))) v N (sc : Nat) (m + 2) (PW.wid L m + 1) := tN13
      refine q _ Bs (f9.trans fx14) HBs0 ⟨R, O, v, N, sc, ⟨dx, upd_same⟩, ⟨rs, (f9.trans fx14) _ _ rp r1, hm, fun i u hu => ?_⟩, fx14 _ _ pO O9, ?_, OBs, RBs, tN, s0, Nat.lt_of_le_of_lt sle Z.d3, fun r hr c hc => Z.num hr hc s0 sd (eq r hr c hc), eq⟩
      · obtain ⟨l, hl⟩ := get_of_lt (xs := Ls) (i := i) (by have := get_lt hu; omega)
        obtain ⟨t, pp, f, wy, rfl, ht, np, hf, hw, npR⟩ := r3 i u l hu hl
        exact ⟨t, _, _, _, wy, rfl, fx_t' (f9.trans fx14) (nt_ins hp) ht, hw⟩
      · rw [upd_ne pBs]
        exact e14 _ _ (e13 _ _ B12)
end
end PX

/-! a work's turns -/
namespace PX
open PySem PySem.Spec PyProof.Rows L2 Evl
open PW (Sz fr RchL turnS)
/-- two objects change -/
def Fx2 (D E : Addr) (H H' : Hp) : Prop := ∀ a o, a ≠ D → a ≠ E → H a = some o → H' a = some o
theorem Fx2.refl (D E : Addr) (H : Hp) : Fx2 D E H H := fun _ _ _ _ h => h
theorem Fx2.of {D E : Addr} {H H' : Hp} (e : Ex H H') : Fx2 D E H H' := fun a o _ _ h => e a o h
theorem Fx2.l {D E : Addr} {H H' : Hp} (e : Fx D H H') : Fx2 D E H H' := fun a o n _ h => e a o n h
theorem Fx2.r {D E : Addr} {H H' : Hp} (e : Fx E H H') : Fx2 D E H H' := fun a o _ n h => e a o n h
theorem Fx2.trans {D E : Addr} {H H1 H2 : Hp} (a : Fx2 D E H H1) (b : Fx2 D E H1 H2) : Fx2 D E H H2 := fun x o n k h => b x o n k (a x o n k h)
theorem rowV_set {f : Nat → Int} {m a : Nat} {s : Int} : (rowV f m).set a (.int s) = rowV (fun r => if r = a then s else f r) m := by
  refine List.ext_getElem? fun i => ?_
  rw [List.getElem?_set, rowV_len]
  by_cases hi : i < m
  · rw [rowV_at hi, rowV_at hi]
    by_cases e : a = i
    · subst e
      rw [if_pos rfl, if_pos hi, if_pos rfl]
    · rw [if_neg e, if_neg (fun z => e z.symm)]
  · have e : ∀ g : Nat → Int, (rowV g m)[i]? = none := fun g => List.getElem?_eq_none (by rw [rowV_len]; omega)
    rw [e, e]
    by_cases z : a = i
    · subst z
      rw [if_pos rfl, if_neg hi]
    · rw [if_neg z]
theorem piv_eq {T : PW.Tab} {N : Nat → Nat → Int} {sc a s r c : Nat} (s0 : 0 < sc) (h1 : T a c = (N a c : Rat) / (sc : Rat)) (h2 : T a s = (N a s : Rat) / (sc : Rat)) (h3 : T r c = (N r c : Rat) / (sc : Rat)) (h4 : T r s = (N r s : Rat) / (sc : Rat)) (nz : N a s ≠ 0) :
    PW.piv T a s r c = (trow N (sc : Nat) a s r c : Rat) / (((sc : Int) * N a s : Int) : Rat) := by
  have n1 := PW.nat_ne s0
  have n2 : (N a s : Rat) ≠ 0 := fun z => nz (Rat.intCast_inj.mp (z.trans rfl))
  have c1 : (((sc : Nat) : Int) : Rat) = (sc : Rat) := rfl
  unfold PW.piv trow
  by_cases e : r = a
  · rw [if_pos e, if_pos e, h1, h2, Rat.intCast_mul, Rat.intCast_mul, c1]
    grind
  · rw [if_neg e, if_neg e, h1, h2, h3, h4, Rat.intCast_sub, Rat.intCast_mul, Rat.intCast_mul, Rat.intCast_mul, c1]
    grind
section
variable {P : Program} {w : World} {K : PySem.W.Frag} {mg : Str → Option Value} {base : Heap}
abbrev N_Work_turn : List Str := ["self", "at", "column"]
theorem sc_Work_turn : FnScope N_Work_turn ["self", "at", "column"] (defScope s_Work_turn) := ⟨rfl, rfl, rfl, by decide +kernel, rfl, by decide +kernel, by decide +kernel⟩
def spTurn (K : PySem.W.Frag) (C : Addr) : Sp := fun vs H Q _ => ∃ (p Bs : Addr) (L : Nat → PW.Line) (m : Nat) (g0 g1 : Rat) (d B : Nat) (x : PW.St) (a s : Nat), vs = [.ref p, .int (a : Nat), .int (s : Nat)] ∧ WrkB K H p C Bs L m x ∧ RchL L m g0 g1 (turnS x a s) ∧ Siz L m g0 g1 d B ∧ a < m ∧ s < PW.wid L m ∧ x.T a s ≠ 0 ∧
  ∀ H', Fx2 p Bs H H' → WrkB K H' p C Bs L m (turnS x a s) → Q .non H'
theorem ok_Work_turn (T : Txt w K mg) : FnOk P w K mg base CX0 4 T.Work_turn.f T.Work_turn.fd ["self", "at", "column"] (spTurn K T.cW) := by
  refine T.Work_turn.F.ok sc_Work_turn (fun vs H Q E h => ?_) (fun cdv A outer s H vs Q E hr h => ?_)
  · obtain ⟨p, Bs, L, m, g0, g1, d, B, x, a, s, rfl, _⟩ := h
    rfl
  obtain ⟨p, Bs, L, m, g0, g1, d, B, x, a, s, rfl, ⟨lp, O, tv, N, sc, ⟨dx, h1⟩, h2, h3, h4, h5, h6, h7, h8, h9, h10, h11⟩, R, Z, ha, hs, nz, q⟩ := h
  refine ⟨_, PSs.nox (pss_cons (ps_fld (pv 0) (pe_call (ok_pivoted T) (hr.mono (by decide)) rfl T.pivoted.g T.pivoted.F.kp (b_pivoted T) .nil pass0 (pa_cons (pe_fldK (K := K) rfl (pv 0) rfl) (pa_cons (pv 1) (pa_cons (pv 2) pa_nil)))) rfl)
 (pss_one (ps_asg (pv 2) (pg_sub (pe_fldK (K := K) rfl (pv 0) rfl) (pv 1) set_list)))), ?_⟩
  have m5 := Z.m5
  have w1 := wid_le L m
  have s0 := PW.nat_ne h8
  have N0 : N a s ≠ 0 := fun z => nz (by rw [h11 a (by omega) s (by omega), z]; show (0 : Rat) / _ = 0; grind)
  have up : (2 : Nat) ^ 3000 ≤ 2 ^ 4400 := Nat.pow_le_pow_right (by omega) (by omega)
  have pBs : p ≠ Bs := fun z => by rw [z, h4] at h1; cases h1
  refine s_fldR (D := { nx := _, rt := _ }) (R := fun v H1 => ∃ N' sc', TabA K (fun a => a ≠ Bs) H1 v N' (sc' : Nat) (m + 2) (PW.wid L m + 1) ∧ 0 < sc' ∧ sc' < 2 ^ 3000 ∧ (∀ r, r < m + 2 → ∀ c, c < PW.wid L m + 1 → (N' r c).natAbs < 2 ^ 3000) ∧ ∀ r, r < m + 2 → ∀ c, c < PW.wid L m + 1 → (turnS x a s).T r c = (N' r c : Rat) / ((sc' : Nat) : Rat)) (fun H1 e1 Q' k' => ?_) (ev_var rfl) h1 T.clW T.nW_tableau (by show 6 < 1000; decide) fun v H1 H2 e1 hv e2 => ?_
  · refine a_cons (at_v (ev_fld (ev_var rfl) (e1 _ _ h1) T.clW T.nW_tableau wf_tab) fun H2 e2 => ⟨_, rfl, _, rfl, ?_⟩)
    refine ⟨fun a => a ≠ Bs, tv, N, sc, m + 2, PW.wid L m + 1, a, s, rfl, fun b hb z => ?_, h7.ex (e1.trans e2), by omega, by omega, by omega, by omega, h8, Nat.lt_of_lt_of_le h9 up, fun r hr c hc => Nat.lt_of_lt_of_le (h10 r hr c hc) up, N0, fun v' H3 N' sc' e3 t' s' eq' l' => ?_⟩
    · rw [z, e2 _ _ (e1 _ _ h4)] at hb
      cases hb
    · have hT : ∀ r, r < m + 2 → ∀ c, c < PW.wid L m + 1 → (turnS x a s).T r c = (N' r c : Rat) / ((sc' : Nat) : Rat) := fun r hr c hc => by
        rw [eq' r hr c hc]
        exact piv_eq h8 (h11 a (by omega) c hc) (h11 a (by omega) s (by omega)) (h11 r hr c hc) (h11 r hr s (by omega)) N0
      obtain ⟨b1, b2⟩ := PW.least_scale (PW.bnd R Z.s m5 Z.m2) s' (fun r hr c hc => hT r hr c (by omega)) (fun k hk hall => l' k hk fun r hr c hc => hall r hr c (by omega))
      exact k' v' H3 (e2.trans e3) ⟨N', sc', t', s', Nat.lt_of_le_of_lt b1 Z.b9, fun r hr c hc => Nat.lt_of_le_of_lt (b2 r hr c (by omega)) Z.b9, hT⟩
  · obtain ⟨N', sc', t', s', s9', z9', hT⟩ := hv
    rw [wf_put]
    have e12 := e1.trans e2
    have p2 : H2 p = some _ := e12 _ _ h1
    have f2 : Fx p H (upd H2 p (.ins T.cW dx (wf lp (PW.bord L m) O Bs (PW.wid L m) v))) := (Fx.of e12).trans Fx.upd
    have B2 : (upd H2 p (.ins T.cW dx (wf lp (PW.bord L m) O Bs (PW.wid L m) v))) Bs = some (.lst (rowV (fun i => (x.B i : Nat)) m)) := f2 _ _ pBs.symm h4
    refine s_setL (l := Bs) (xs := rowV (fun i => (x.B i : Nat)) m) (j := a) (v := .int (s : Nat)) B2 (ev_var rfl) (ev_fld (ev_var rfl) upd_same T.clW T.nW_basis wf_basis) (ev_var rfl) (by rw [rowV_len]; omega) fun H3 e3 => ?_
    have B3 := e3 _ _ B2
    have f3 : Fx Bs H3 (upd H3 Bs (.lst ((rowV (fun i => (x.B i : Nat)) m).set a (.int (s : Nat))))) := Fx.upd
    have t2 := ((t'.ex e2).fxi (Fx.upd (o := .ins T.cW dx (wf lp (PW.bord L m) O Bs (PW.wid L m) v))) p2).ex e3
    have pO : O ≠ p := fun z => by rw [z, h1] at h3; cases h3
    have pl : lp ≠ p := fun z => by
      obtain ⟨xs, y1, _⟩ := h2
      rw [z, h1] at y1; cases y1
    have w2 := h2.fx f2 (nt_ins h1) pl
    refine q _ ((Fx2.l (f2.trans (Fx.of e3))).trans (Fx2.r f3)) ⟨lp, O, v, N', sc', ⟨dx, f3 _ _ pBs (e3 _ _ upd_same)⟩, (w2.fx (Fx.of e3) (nt_lst B2) h6).fx f3 (nt_lst B3) h6, f3 _ _ h5 (e3 _ _ (f2 _ _ pO h3)), ?_, h5, h6, t2.fx f3 (nt_lst B3), s', s9', z9', hT⟩
    rw [upd_same, rowV_set]
    congr 2
    refine congrArg (fun f => rowV f m) (funext fun r => ?_)
    show (if r = a then ((s : Nat) : Int) else ((x.B r : Nat) : Int)) = ((PW.setB x.B a s r : Nat) : Int)
    unfold PW.setB
    split <;> rfl
/-! ### leaving -/
theorem sg_lt {z : Int} {q r : Rat} (e : r = (z : Rat) / q) (hq : 0 < q) : (r < 0 ↔ z < 0) ∧ (r = 0 ↔ z = 0) ∧ (0 < r ↔ 0 < z) := by
  have hi : 0 < q⁻¹ := Rat.inv_pos.mpr hq
  have e1 : r = (z : Rat) * q⁻¹ := by rw [e, Rat.div_def]
  have c0 : ((0 : Int) : Rat) = 0 := rfl
  have zr : (z : Rat) = r * q := by rw [e]; grind
  refine ⟨⟨fun h => ?_, fun h => ?_⟩, ⟨fun h => ?_, fun h => ?_⟩, ⟨fun h => ?_, fun h => ?_⟩⟩
  · by_cases k : 0 ≤ z
    · have h1 : (0 : Rat) ≤ (z : Rat) := Rat.intCast_nonneg.mpr k
      have := Rat.mul_nonneg h1 (Rat.le_of_lt hi)
      grind
    · omega
  · have h1 : (z : Rat) < 0 := Rat.intCast_neg_iff.mpr h
    have := Rat.mul_pos (show 0 < -(z : Rat) by grind) hi
    grind
  · rw [h] at zr
    have : (z : Rat) = ((0 : Int) : Rat) := by rw [c0, zr]; grind
    exact Rat.intCast_inj.mp this
  · rw [e1, h, c0]; grind
  · by_cases k : 0 < z
    · exact k
    · have h1 : (0 : Rat) ≤ ((-z : Int) : Rat) := Rat.intCast_nonneg.mpr (by omega)
      have := Rat.mul_nonneg h1 (Rat.le_of_lt hi)
      rw [Rat.intCast_neg] at this
      grind
  · have h1 : (0 : Rat) < (z : Rat) := Rat.intCast_pos.mpr h
    have := Rat.mul_pos h1 hi
    grind
theorem atI_rowlast (N : Nat → Int) (w : Nat) : atI (rowV N (w + 1)) (-1) = some (.int (N w)) := by
  rw [rowV_succ]; exact atI_last _ _
def optV : Option Nat → V
  | none => .non
  | some a => .int (a : Nat)
theorem ev_neg1 {σ : L2.St} {H : Hp} : Ev (tUn (rU fun i => .int (-i)) (tC (.int 1))) σ H (.int (-1)) := fun H1 e Q k => ⟨1, rfl, k H1 (Ex.refl H1)⟩
theorem lea_succ (T : PW.Tab) (B : Nat → Nat) (n s k : Nat) : PW.lea T B n s (k + 1) = match PW.lea T B n s k with
    | none => if 0 < T k s then some k else none
    | some b => if 0 < T k s ∧ (PW.off T n s k b < 0 ∨ (PW.off T n s k b = 0 ∧ B k < B b)) then some k else some b := rfl
theorem lea_skip {T : PW.Tab} {B : Nat → Nat} {n s k : Nat} (h : ¬ 0 < T k s) : PW.lea T B n s (k + 1) = PW.lea T B n s k := by
  rw [lea_succ]
  cases PW.lea T B n s k with
  | none => exact if_neg h
  | some b => exact if_neg fun z => h z.1
abbrev N_Work_leaving : List Str := ["self", "column", "rows", "best", "at", "off"]
theorem sc_Work_leaving : FnScope N_Work_leaving ["self", "column"] (defScope s_Work_leaving) := ⟨rfl, rfl, rfl, by decide +kernel, rfl, by decide +kernel, by decide +kernel⟩
def spLeaving (K : PySem.W.Frag) (C : Addr) : Sp := fun vs H Q _ => ∃ (p Bs : Addr) (L : Nat → PW.Line) (m : Nat) (x : PW.St) (s : Nat), vs = [.ref p, .int (s : Nat)] ∧ WrkB K H p C Bs L m x ∧ m ≤ 5 ∧ s < PW.wid L m ∧
  ∀ H', Ex H H' → Q (optV (PW.lea x.T x.B (PW.wid L m) s m)) H'
theorem ok_Work_leaving (T : Txt w K mg) : FnOk P w K mg base CX0 1 T.Work_leaving.f T.Work_leaving.fd ["self", "column"] (spLeaving K T.cW) := by
  refine T.Work_leaving.F.ok sc_Work_leaving (fun vs H Q E h => ?_) (fun cdv A outer s H vs Q E hr h => ?_)
  · obtain ⟨p, Bs, L, m, x, s, rfl, _⟩ := h
    rfl
  obtain ⟨p, Bs, L, m, x, s, rfl, ⟨lp, O, tv, N, sc, ⟨dx, h1⟩, h2, h3, h4, h5, h6, ⟨t, R, rfl, ht, _, ps, hR, hpl, hrow⟩, h8, h9, h10, h11⟩, m5, hs, q⟩ := h
  refine ⟨_, PSs.nox (pss_cons (ps_set (i := 2) sc_Work_leaving.nd rfl (Or.inl rfl) (pe_ix (ix_tupK (K := K) rfl) (pe_fldK (K := K) rfl (pv 0) rfl) pe_int (fun _ _ => rfl)))
 (pss_cons (ps_set (i := 3) sc_Work_leaving.nd rfl (Or.inl rfl) pe_non)
 (pss_cons (ps_for PassesOwn.never rfl (pi_range1 (by rfl) T.m_range (pa_cons (pe_callB (call_lenK (K := K) rfl) (by rfl) T.m_len PySem.boot_len (pa_cons (pe_fldK (K := K) rfl (pv 0) rfl) pa_nil)) pa_nil)) (pg_name (i := 4) sc_Work_leaving.nd rfl (Or.inl rfl))
 (pss_one (ps_if (pt_cmpR op_gt (pe_ix (ix_listK (K := K) rfl) (pe_ix (ix_listK (K := K) rfl) (pv 2) (pv 4) (fun _ _ => rfl)) (pv 1) (fun _ _ => rfl)) pe_int (nomark _)) (pss_one (ps_if (pt_cmpR op_isNK (pv 3) pe_non (nomark _)) (pss_one (ps_set (i := 3) sc_Work_leaving.nd rfl (Or.inl rfl) (pv 4))) (pss_cons (ps_set (i := 5) sc_Work_leaving.nd rfl (Or.inl rfl) (pe_op op_sub (pe_op op_mulW (pe_ix (ix_listK (K := K) rfl) (pe_ix (ix_listK (K := K) rfl) (pv 2) (pv 4) (fun _ _ => rfl)) (pe_un un_neg pe_int) (fun _ _ => rfl)) (pe_ix (ix_listK (K := K) rfl) (pe_ix (ix_listK (K := K) rfl) (pv 2) (pv 3) (fun _ _ => rfl)) (pv 1) (fun _ _ => rfl))) (pe_op op_mulW (pe_ix (ix_listK (K := K) rfl) (pe_ix (ix_listK (K := K) rfl) (pv 2) (pv 3) (fun _ _ => rfl)) (pe_un un_neg pe_int) (fun _ _ => rfl)) (pe_ix (ix_listK (K := K) rfl) (pe_ix (ix_listK (K := K) rfl) (pv 2) (pv 4) (fun _ _ => rfl)) (pv 1) (fun _ _ => rfl)))))
 (pss_one (ps_if (PW.pt (pw_or (pt_cmpR op_lt (pv 5) pe_int (nomark _)) (pw_or1 (PW.pt (pw_and (pt_cmpR op_eq (pv 5) pe_int (nomark _)) (pw_and1 (pt_cmpR op_lt (pe_ix (ix_listK (K := K) rfl) (pe_fldK (K := K) rfl (pv 0) rfl) (pv 4) (fun _ _ => rfl)) (pe_ix (ix_listK (K := K) rfl) (pe_fldK (K := K) rfl (pv 0) rfl) (pv 3) (fun _ _ => rfl)) (nomark _)))))))) (pss_one (ps_set (i := 3) sc_Work_leaving.nd rfl (Or.inl rfl) (pv 4))) pss_nil))))) pss_nil)))
 (pss_one (ps_ret (pv 3)))))), ?_⟩
  have w1 := wid_le L m
  have sp := PW.nat_pos h8
  have sp2 := Rat.mul_pos sp sp
  have evB : ∀ {σ : L2.St} {H' : Hp}, Ex H H' → σ[0]? = some (some (.ref p)) → Ev (tFld K (tVar 0) "basis") σ H' (.ref Bs) := fun e h => ev_fld (ev_var h) (e _ _ h1) T.clW T.nW_basis wf_basis
  refine q_asg (v := .ref R) (ev_op (ev_fld (ev_var rfl) h1 T.clW T.nW_tableau wf_tab) ev_c (rv_ixT ht rfl)) fun H1 e1 => ?_
  refine q_asg (v := .non) ev_c fun H2 e2 => ?_
  have e12 := e1.trans e2
  refine q_forR1 (n := (m : Nat)) (ea_cons (ev_is (ev_lenL (evB e12 rfl) (sq_of (e12 _ _ h4))) (by rw [rowV_len])) ea_nil) (by omega) (fun k σ' H' => Ex H H' ∧ ∃ c4 c5, σ' = [some (.ref p), some (.int (s : Nat)), some (.ref R), some (optV (PW.lea x.T x.B (PW.wid L m) s k)), c4, c5])
    (fun H3 e3 => ⟨e12.trans e3, none, none, rfl⟩) ?_ ?_
  · rintro k σ' H' hk ⟨e', c4, c5, rfl⟩
    have hk : k < m := by omega
    have evat : ∀ (r c : Nat) {ta tb : TE} {σ : L2.St} {H2 : Hp}, Ex H H2 → r < m → c < PW.wid L m + 1 → σ[2]? = some (some (.ref R)) → Ev ta σ H2 (.int (r : Nat)) → Ev tb σ H2 (.int (c : Nat)) → Ev (tOp (rIxL K) (tOp (rIxL K) (tVar 2) ta) tb) σ H2 (.int (N r c)) := fun r c ta tb σ H2 e hr hc h2 ha hb => by
      obtain ⟨u, hu⟩ := get_of_lt (xs := ps) (i := r) (by omega)
      exact ev_at (N := N) (ex_l e hR) hu (ex_l e (hrow r u hu).1) hc (ev_var h2) ha hb
    have evla : ∀ (r : Nat) {ta : TE} {σ : L2.St} {H2 : Hp}, Ex H H2 → r < m → σ[2]? = some (some (.ref R)) → Ev ta σ H2 (.int (r : Nat)) → Ev (tOp (rIxL K) (tOp (rIxL K) (tVar 2) ta) (tUn (rU fun i => .int (-i)) (tC (.int 1)))) σ H2 (.int (N r (PW.wid L m))) := fun r ta σ H2 e hr h2 ha => by
      obtain ⟨u, hu⟩ := get_of_lt (xs := ps) (i := r) (by omega)
      exact ev_op (ev_rowAt (ex_l e hR) hu (ev_var h2) ha) ev_neg1 (rv_ixL (ex_l e (hrow r u hu).1) (atI_rowlast _ _))
    obtain ⟨_, _, g3⟩ := sg_lt (h11 k (by omega) s (by omega)) sp
    refine s_when (b := decide (0 < N k s)) (et_test (ev_op (evat k s e' hk (by omega) rfl (ev_var rfl) (ev_var rfl)) ev_c rv_I0)) (fun hb H3 e3 => ?_) (fun hb H3 e3 => ?_)
    · have hp := g3.mpr (of_decide_eq_true hb)
      have e13 := e'.trans e3
      cases hl : PW.lea x.T x.B (PW.wid L m) s k with
      | none =>
        refine s_if (b := true) (et_test (ev_op (ev_var rfl) ev_c rv_isN)) (fun _ H4 e4 => ?_) (fun z => by cases z)
        have en : PW.lea x.T x.B (PW.wid L m) s (k + 1) = some k := by
          rw [lea_succ, hl]
          simp only [if_pos hp]
        exact s_asg (v := .int (k : Nat)) (ev_var rfl) fun H5 e5 => ⟨(e13.trans e4).trans e5, _, _, by rw [en]; rfl⟩
      | some b =>
        obtain ⟨b1, b2, _⟩ := PW.lea_some hl
        have hbm : b < m := by omega
        refine s_if (b := false) (et_test (ev_op (ev_var rfl) ev_c rv_isN)) (fun z => by cases z) (fun _ H4 e4 => ?_)
        have e14 := e13.trans e4
        refine q_asg (v := .int (N k (PW.wid L m) * N b s - N b (PW.wid L m) * N k s)) (ev_op (ev_op (evla k e14 hk rfl (ev_var rfl)) (evat b s e14 hbm (by omega) rfl (ev_var rfl) (ev_var rfl)) (rv_I (cmulw (h10 k (by omega) _ (by omega)) (h10 b (by omega) s (by omega)))))
          (ev_op (evla b e14 hbm rfl (ev_var rfl)) (evat k s e14 hk (by omega) rfl (ev_var rfl) (ev_var rfl)) (rv_I (cmulw (h10 b (by omega) _ (by omega)) (h10 k (by omega) s (by omega))))) rv_I0) fun H5 e5 => ?_
        have e15 := e14.trans e5
        have eo : PW.off x.T (PW.wid L m) s k b = ((N k (PW.wid L m) * N b s - N b (PW.wid L m) * N k s : Int) : Rat) / ((sc : Rat) * (sc : Rat)) := by
          unfold PW.off
          rw [h11 k (by omega) _ (by omega), h11 b (by omega) s (by omega), h11 b (by omega) _ (by omega), h11 k (by omega) s (by omega), Rat.intCast_sub, Rat.intCast_mul, Rat.intCast_mul]
          have := PW.nat_ne h8
          grind
        obtain ⟨o1, o2, _⟩ := sg_lt eo sp2
        have evb : ∀ (r : Nat) {ta : TE} {σ : L2.St} {H2 : Hp}, Ex H H2 → r < m → σ[0]? = some (some (.ref p)) → Ev ta σ H2 (.int (r : Nat)) → Ev (tOp (rIxL K) (tFld K (tVar 0) "basis") ta) σ H2 (.int (x.B r : Nat)) := fun r ta σ H2 e hr h2 ha =>
          ev_op (evB e h2) ha (rv_ixL (sq_of (e _ _ h4)) (atI_row hr))
        refine s_when (b := decide (N k (PW.wid L m) * N b s - N b (PW.wid L m) * N k s < 0) || (decide (V.int (N k (PW.wid L m) * N b s - N b (PW.wid L m) * N k s) = V.int 0) && decide (((x.B k : Nat) : Int) < (x.B b : Nat))))
          (et_or (et_test (ev_op (ev_var rfl) ev_c rv_I0)) fun _ => et_and (et_test (ev_op (ev_var rfl) ev_c (rv_eq rfl))) fun _ => et_test (ev_op (evb k e15 hk rfl (ev_var rfl)) (evb b e15 hbm rfl (ev_var rfl)) rv_I0)) (fun hb H6 e6 => ?_) (fun hb H6 e6 => ?_)
        · have hc : PW.off x.T (PW.wid L m) s k b < 0 ∨ (PW.off x.T (PW.wid L m) s k b = 0 ∧ x.B k < x.B b) := by
            rw [o1, o2]
            simp only [Bool.or_eq_true, Bool.and_eq_true, decide_eq_true_eq] at hb
            rcases hb with hb | ⟨hb, hc⟩
            · exact .inl hb
            · exact .inr ⟨V.int.inj hb, by omega⟩
          have en : PW.lea x.T x.B (PW.wid L m) s (k + 1) = some k := by
            rw [lea_succ, hl]
            simp only [if_pos (show 0 < x.T k s ∧ _ from ⟨hp, hc⟩)]
          exact s_asg (v := .int (k : Nat)) (ev_var rfl) fun H7 e7 => ⟨(e15.trans e6).trans e7, _, _, by rw [en]; rfl⟩
        · have hc : ¬ (0 < x.T k s ∧ (PW.off x.T (PW.wid L m) s k b < 0 ∨ (PW.off x.T (PW.wid L m) s k b = 0 ∧ x.B k < x.B b))) := by
            rw [o1, o2]
            rintro ⟨_, hz⟩
            rcases hz with hz | ⟨hz, hy⟩
            · rw [decide_eq_true hz] at hb; cases hb
            · rw [hz, decide_eq_true rfl, decide_eq_true (show ((x.B k : Nat) : Int) < (x.B b : Nat) by omega)] at hb
              cases hb
          have en : PW.lea x.T x.B (PW.wid L m) s (k + 1) = some b := by
            rw [lea_succ, hl]
            simp only [if_neg hc]
          exact ⟨e15.trans e6, _, _, by rw [en]; rfl⟩
    · have hp : ¬ 0 < x.T k s := fun z => by
        rw [decide_eq_true (g3.mp z)] at hb
        cases hb
      exact ⟨e'.trans e3, _, _, by rw [lea_skip hp]; rfl⟩
  · rintro σ' H' ⟨e', c4, c5, rfl⟩
    rw [Int.toNat_natCast]
    exact ⟨_, rfl, q H' e'⟩
/-! ### wrong -/
theorem outs_fmap {n : Nat} {f : Nat → Bool} {v : Nat → V} {xs : List V} {H : Hp} (h : Outs n f (fun i x _ => x = v i) xs H) : xs = ((List.range n).filter f).map v := by
  obtain ⟨h1, h2⟩ := h
  refine List.ext_getElem? fun i => ?_
  by_cases hi : i < xs.length
  · obtain ⟨j, e1, e2⟩ := h2 i xs[i] (List.getElem?_eq_getElem hi)
    rw [List.getElem?_map, e1, List.getElem?_eq_getElem hi, e2]; rfl
  · rw [List.getElem?_eq_none (by omega), List.getElem?_eq_none (by rw [List.length_map]; omega)]
def intsV (l : List Nat) : List V := l.map fun (n : Nat) => V.int (n : Nat)
abbrev N_Work_wrong : List Str := ["self", "goal", "column"]
theorem sc_Work_wrong : FnScope N_Work_wrong ["self", "goal"] (defScope s_Work_wrong) := ⟨rfl, rfl, rfl, by decide +kernel, rfl, by decide +kernel, by decide +kernel⟩
def spWrong (K : PySem.W.Frag) (C : Addr) : Sp := fun vs H Q _ => ∃ (p Bs : Addr) (L : Nat → PW.Line) (m : Nat) (x : PW.St) (g : Nat), vs = [.ref p, .int (g : Nat)] ∧ WrkB K H p C Bs L m x ∧ m ≤ 5 ∧ g < m + 2 ∧
  ∀ D H', H D = none → Ex H H' → H' D = some (.lst (intsV ((List.range (PW.bord L m)).filter fun c => decide (x.T g c < 0)))) → Q (.ref D) H'
theorem ok_Work_wrong (T : Txt w K mg) : FnOk P w K mg base CX0 1 T.Work_wrong.f T.Work_wrong.fd ["self", "goal"] (spWrong K T.cW) := by
  refine T.Work_wrong.F.ok sc_Work_wrong (fun vs H Q E h => ?_) (fun cdv A outer s H vs Q E hr h => ?_)
  · obtain ⟨p, Bs, L, m, x, g, rfl, _⟩ := h
    rfl
  obtain ⟨p, Bs, L, m, x, g, rfl, ⟨lp, O, tv, N, sc, ⟨dx, h1⟩, h2, h3, h4, h5, h6, ⟨t, R, rfl, ht, _, ps, hR, hpl, hrow⟩, h8, h9, h10, h11⟩, m5, hg, q⟩ := h
  refine ⟨_, PSs.nox (pss_one (ps_ret (pe_lc (own := [("column", 2)]) (g := gName 2) rfl sc_Work_wrong.nd (pi_range1 (by rfl) T.m_range (pa_cons (pe_fldK (K := K) rfl (pv 0) rfl) pa_nil)) (blkOk_by (N := N_Work_wrong) (sc := defScope s_Work_wrong) (by decide +kernel))
 (fun _ _ _ _ _ => (pg_name (i := 2) sc_Work_wrong.nd rfl (Or.inl rfl))) (fun _ _ _ _ _ => (pts_one (pt_cmpR op_lt (pe_ix (ix_listK (K := K) rfl) (pe_ix (ix_listK (K := K) rfl) (pe_ix (ix_tupK (K := K) rfl) (pe_fldK (K := K) rfl (pv 0) rfl) pe_int (fun _ _ => rfl)) (pv 1) (fun _ _ => rfl)) (pv 2) (fun _ _ => rfl)) pe_int (nomark _)))) (fun _ _ _ _ _ => (pv 2))))), ?_⟩
  have w1 := wid_le L m
  have w3 := PW.wid_ge (L := L) m
  have sp := PW.nat_pos h8
  obtain ⟨u, hu⟩ := get_of_lt (xs := ps) (i := g) (by omega)
  refine s_retC (evc_rngF (lo := 0) (n := PW.bord L m) (j := 2) (vs := [2]) (fun c => decide (x.T g c < 0)) (fun _ i v _ => v = .int (i : Nat)) (rng1 (ea_cons (ev_fld (ev_var rfl) h1 T.clW T.nW_border wf_border) ea_nil) (by omega)) (by omega) (fun _ => rfl)
    (fun D c H1 hc hD e1 hl => ?_) (fun D c H1 hc hD e1 hl _ => evr_ev (ev_var rfl) fun _ _ => by rw [Int.zero_add]) (fun _ _ _ _ _ _ _ h => h)) fun D H1 xs hD e1 h o => q D H1 hD e1 (by rw [h, outs_fmap o]; rfl)
  refine et_is (et_test (ev_op (ev_at (N := N) (c := c) (ex_l e1 hR) hu (ex_l e1 (hrow g u hu).1) (by omega) (ev_op (ev_fld (ev_var rfl) (e1 _ _ h1) T.clW T.nW_tableau wf_tab) ev_c (rv_ixT (ex_t e1 ht) rfl)) (ev_var rfl) (ev_is (ev_var rfl) (by rw [Int.zero_add]))) ev_c rv_I0)) ?_
  exact decide_eq_decide.mpr (sg_lt (h11 g hg c (by omega)) sp).1.symm
end
end PX

/-! a work's roads: lower, settle, prices, standing -/
namespace PX
open PySem PySem.Spec PyProof.Rows L2 Evl
open PW (Sz fr RchL turnS)
theorem ints_data (l : List Nat) : PyData.depthAll (l.map fun (n : Nat) => PyData.int (n : Nat)) = 0 ∧ PyData.canLayAll0 (l.map fun (n : Nat) => PyData.int (n : Nat)) = true ∧ PyData.eqvAll (l.map fun (n : Nat) => PyData.int (n : Nat)) [] = l.isEmpty := by
  induction l with
  | nil => exact ⟨rfl, by simp [PyData.canLayAll0], by simp [PyData.eqvAll]⟩
  | cons x l ih =>
    obtain ⟨h1, h2, h3⟩ := ih
    refine ⟨?_, ?_, by simp [PyData.eqvAll]⟩
    · simp only [List.map_cons, PyData.depthAll, PyData.depth, h1]; rfl
    · simp only [List.map_cons, PyData.canLayAll0, PyData.canLay0, h2]; rfl
theorem ints_dp {K : PySem.W.Frag} {H : Hp} (l : List Nat) : DpAll K H (intsV l) (l.map fun (n : Nat) => PyData.int (n : Nat)) := by
  induction l with
  | nil => exact .nil
  | cons x l ih => exact .cons (.int _) ih
theorem ints_shaped (l : List Nat) : SeqAt.shaped (.list (l.map fun (n : Nat) => PyData.int (n : Nat))) = true := by
  obtain ⟨h1, h2, _⟩ := ints_data l
  unfold SeqAt.shaped
  rw [Bool.and_eq_true]
  constructor
  · simp only [PyData.canLay0, h2]
  · simp only [PyData.depth, h1]; rfl
section
variable {K : PySem.W.Frag} {σ : L2.St} {H : Hp} {tv : TE}
/-- some != [] -/
theorem et_some {D : Addr} {l : List Nat} (h : Ev tv σ H (.ref D)) (hD : SqL K H D (intsV l)) : EvT (tTest (tOp (rNeD K) tv (tLst tNil))) σ H (!l.isEmpty) := fun H1 e1 Q q =>
  h H1 e1 _ fun H2 e2 => ⟨Nat.zero_le _, fun p hp => by
    have e3 : Ex H2 (upd H2 p (.lst [])) := Ex.new hp
    refine ⟨.list (l.map fun (n : Nat) => PyData.int (n : Nat)), .list [], .lst (ex_l ((e1.trans e2).trans e3) hD) (ints_dp l), .lst (sq_of upd_same) .nil, ints_shaped l, ints_shaped [], ?_⟩
    have e : PyData.eqv (.list (l.map fun (n : Nat) => PyData.int (n : Nat))) (.list []) = l.isEmpty := by
      simp only [PyData.eqv]
      exact (ints_data l).2.2
    rw [e]
    exact ⟨_, rfl, q _ (e2.trans e3)⟩⟩
/-- i, x over enumerate of a list -/
theorem s_forE {D : Ends} {tu : TS} {ta : TA} {a : Addr} {xs : List V} {i0 j0 : Nat} (h : EvA ta σ H [.ref a]) (hx : SqL K H a xs) (Pv : Nat → L2.St → Hp → Prop) (h0 : ∀ H1, Ex H H1 → Pv 0 σ H1) (hq : ∀ i σ' H', Pv i σ' H' → SqL K H' a xs)
    (hs : ∀ (i : Nat) x σ' H' t, xs[i]? = some x → Pv i σ' H' → H' t = none → tu { D with nx := Pv (i + 1), ct := Pv (i + 1), bk := D.nx } ((σ'.set i0 (some (.int (i : Nat)))).set j0 (some x)) (upd H' t (.tup [.int (i : Nat), x]))) (hd : ∀ σ' H', Pv xs.length σ' H' → D.nx σ' H') : tFor (iEnum K ta) (gTup K 2 (gCons (gName i0) (gCons (gName j0) gNil))) tu D σ H :=
  h H (Ex.refl H) _ fun H1 e => ⟨a, xs, rfl, ex_l e hx, for_it walk_enum Pv (h0 H1 e) (fun i σ' H' _ p => hq i σ' H' p) (fun i x σ' H' H'' hi p y => by
    obtain ⟨t, u, v, rfl, ht, rfl, h1, h2⟩ := y
    cases h1
    exact g_pair (st_of upd_same) (hs i v σ' H' t h2 p ht)) hd⟩
theorem q_forE {D : Ends} {tu tz : TS} {ta : TA} {a : Addr} {xs : List V} {i0 j0 : Nat} (h : EvA ta σ H [.ref a]) (hx : SqL K H a xs) (Pv : Nat → L2.St → Hp → Prop) (h0 : ∀ H1, Ex H H1 → Pv 0 σ H1) (hq : ∀ i σ' H', Pv i σ' H' → SqL K H' a xs)
    (hs : ∀ (i : Nat) x σ' H' t, xs[i]? = some x → Pv i σ' H' → H' t = none → tu { D with nx := Pv (i + 1), ct := Pv (i + 1), bk := tz D } ((σ'.set i0 (some (.int (i : Nat)))).set j0 (some x)) (upd H' t (.tup [.int (i : Nat), x]))) (hd : ∀ σ' H', Pv xs.length σ' H' → tz D σ' H') : tSeq (tFor (iEnum K ta) (gTup K 2 (gCons (gName i0) (gCons (gName j0) gNil))) tu) tz D σ H :=
  s_forE (D := { D with nx := tz D }) h hx Pv h0 hq hs hd
end
theorem WrkB.ob {K : PySem.W.Frag} {H : Hp} {p C Bs : Addr} {L : Nat → PW.Line} {m : Nat} {x : PW.St} (h : WrkB K H p C Bs L m x) : ∃ dx lp O tv, H p = some (.ins C dx (wf lp (PW.bord L m) O Bs (PW.wid L m) tv)) :=
  let ⟨lp, O, tv, _, _, h⟩ := h; let ⟨dx, h⟩ := h.ob; ⟨dx, lp, O, tv, h⟩
/-- the columns by which a row can be lowered -/
def wr (L : Nat → PW.Line) (m g : Nat) (x : PW.St) : List Nat := (List.range (PW.bord L m)).filter fun c => decide (x.T g c < 0)
theorem wr_ent (L : Nat → PW.Line) (m g : Nat) (x : PW.St) : PW.ent x.T g (PW.bord L m) = (wr L m g x).head? := rfl
section
variable {P : Program} {w : World} {K : PySem.W.Frag} {mg : Str → Option Value} {base : Heap}
theorem evc_wrong (T : Txt w K mg) {σ : L2.St} {H : Hp} {tp tg : TE} {E : XK} {p Bs : Addr} {L : Nat → PW.Line} {m g : Nat} {x : PW.St} (hp : Ev tp σ H (.ref p)) (hg : Ev tg σ H (.int (g : Nat))) (W : WrkB K H p T.cW Bs L m x) (m5 : m ≤ 5) (hgm : g < m + 2) :
    EvC (tMeth T.cW "wrong" (spWrong K T.cW) [] E tp (tCons tg tNil)) σ H (fun _ ys _ => ys = intsV (wr L m g x)) := fun H0 e0 Q k =>
  hp H0 e0 _ fun H1 e1 => by
    obtain ⟨dx, lp, O, tv, o⟩ := (W.ex (e0.trans e1)).ob
    refine ⟨p, dx, _, rfl, o, wf_no (by decide +kernel) (by decide +kernel) (by decide +kernel) (by decide +kernel) (by decide +kernel) (by decide +kernel), hg H1 (e0.trans e1) _ fun H2 e2 => ?_⟩
    exact ⟨p, Bs, L, m, x, g, rfl, W.ex ((e0.trans e1).trans e2), m5, hgm, fun D H3 hD e3 h => k D H3 _ (fresh_back (e1.trans e2) hD) ((e1.trans e2).trans e3) h rfl⟩
theorem ev_leaving (T : Txt w K mg) {σ : L2.St} {H : Hp} {tp tg : TE} {E : XK} {p Bs : Addr} {L : Nat → PW.Line} {m s : Nat} {x : PW.St} (hp : Ev tp σ H (.ref p)) (hg : Ev tg σ H (.int (s : Nat))) (W : WrkB K H p T.cW Bs L m x) (m5 : m ≤ 5) (hs : s < PW.wid L m) :
    Ev (tMeth T.cW "leaving" (spLeaving K T.cW) [] E tp (tCons tg tNil)) σ H (optV (PW.lea x.T x.B (PW.wid L m) s m)) := fun H0 e0 Q k =>
  hp H0 e0 _ fun H1 e1 => by
    obtain ⟨dx, lp, O, tv, o⟩ := (W.ex (e0.trans e1)).ob
    refine ⟨p, dx, _, rfl, o, wf_no (by decide +kernel) (by decide +kernel) (by decide +kernel) (by decide +kernel) (by decide +kernel) (by decide +kernel), hg H1 (e0.trans e1) _ fun H2 e2 => ?_⟩
    exact ⟨p, Bs, L, m, x, s, rfl, W.ex ((e0.trans e1).trans e2), m5, hs, fun H3 e3 => k H3 ((e1.trans e2).trans e3)⟩
/-- self.turn(a, s) -/
theorem s_turn (T : Txt w K mg) {σ : L2.St} {H : Hp} {D : Ends} {tp tq tg : TE} {E : XK} {p Bs : Addr} {L : Nat → PW.Line} {m a s d B : Nat} {g0 g1 : Rat} {x : PW.St} (hp : Ev tp σ H (.ref p)) (hq : Ev tq σ H (.int (a : Nat))) (hg : Ev tg σ H (.int (s : Nat))) (W : WrkB K H p T.cW Bs L m x)
    (R : RchL L m g0 g1 (turnS x a s)) (Z : Siz L m g0 g1 d B) (ha : a < m) (hs : s < PW.wid L m) (nz : x.T a s ≠ 0) (k : ∀ H', Fx2 p Bs H H' → WrkB K H' p T.cW Bs L m (turnS x a s) → D.nx σ H') :
    tDrop (tMeth T.cW "turn" (spTurn K T.cW) [] E tp (tCons tq (tCons tg tNil))) D σ H :=
  hp H (Ex.refl H) _ fun H1 e1 => by
    obtain ⟨dx, lp, O, tv, o⟩ := (W.ex e1).ob
    refine ⟨p, dx, _, rfl, o, wf_no (by decide +kernel) (by decide +kernel) (by decide +kernel) (by decide +kernel) (by decide +kernel) (by decide +kernel), hq H1 e1 _ fun H2 e2 => hg H2 (e1.trans e2) _ fun H3 e3 => ?_⟩
    have e13 := (e1.trans e2).trans e3
    exact ⟨p, Bs, L, m, g0, g1, d, B, x, a, s, rfl, W.ex e13, R, Z, ha, hs, nz, fun H4 f W4 => k H4 ((Fx2.of e13).trans f) W4⟩
abbrev N_Work_lower : List Str := ["self", "goal", "some", "at"]
theorem sc_Work_lower : FnScope N_Work_lower ["self", "goal"] (defScope s_Work_lower) := ⟨rfl, rfl, rfl, by decide +kernel, rfl, by decide +kernel, by decide +kernel⟩
def spLower (K : PySem.W.Frag) (C : Addr) : Sp := fun vs H Q _ => ∃ (p Bs : Addr) (L : Nat → PW.Line) (m : Nat) (g0 g1 : Rat) (d B : Nat) (x : PW.St) (g : Nat), vs = [.ref p, .int (g : Nat)] ∧ WrkB K H p C Bs L m x ∧ RchL L m g0 g1 x ∧ Siz L m g0 g1 d B ∧ m ≤ g ∧ g < m + 2 ∧
  ∀ k H', Fx2 p Bs H H' → WrkB K H' p C Bs L m (PW.go m (PW.wid L m) (PW.bord L m) g x k) → PW.pick m (PW.wid L m) (PW.bord L m) g (PW.go m (PW.wid L m) (PW.bord L m) g x k) = none →
    Q (optV (PW.ent (PW.go m (PW.wid L m) (PW.bord L m) g x k).T g (PW.bord L m))) H'
theorem ok_Work_lower (T : Txt w K mg) : FnOk P w K mg base CX0 5 T.Work_lower.f T.Work_lower.fd ["self", "goal"] (spLower K T.cW) := by
  refine T.Work_lower.F.ok sc_Work_lower (fun vs H Q E h => ?_) (fun cdv A outer s H vs Q E hr h => ?_)
  · obtain ⟨p, Bs, L, m, g0, g1, d, B, x, g, rfl, _⟩ := h
    rfl
  obtain ⟨p, Bs, L, m, g0, g1, d, B, x, g, rfl, W, R, Z, hg1, hg2, q⟩ := h
  refine ⟨_, PSs.nox (pss_cons (ps_set (i := 2) sc_Work_lower.nd rfl (Or.inl rfl) (pe_meth (pv 0) T.clW T.Work_wrong.m (ok_Work_wrong T) (hr.mono (by decide)) (b_Work_wrong T) .nil pass0 (pa_cons (pv 1) pa_nil)))
 (pss_cons (ps_while PassesOwn.never (pt_cmpR (op_neD hr.units) (pv 2) (pe_lst pa_nil) (nomark _)) (pss_cons (ps_set (i := 3) sc_Work_lower.nd rfl (Or.inl rfl) (pe_meth (pv 0) T.clW T.Work_leaving.m (ok_Work_leaving T) (hr.mono (by decide)) (b_Work_leaving T) .nil pass0 (pa_cons (pe_ix (ix_listK (K := K) rfl) (pv 2) pe_int (fun _ _ => rfl)) pa_nil)))
 (pss_cons (ps_if (pt_cmpR op_isNK (pv 3) pe_non (nomark _)) (pss_one (ps_ret (pe_ix (ix_listK (K := K) rfl) (pv 2) pe_int (fun _ _ => rfl)))) pss_nil)
 (pss_cons (ps_expr (pe_meth (pv 0) T.clW T.Work_turn.m (ok_Work_turn T) (hr.mono (by decide)) (b_Work_turn T) .nil pass0 (pa_cons (pv 3) (pa_cons (pe_ix (ix_listK (K := K) rfl) (pv 2) pe_int (fun _ _ => rfl)) pa_nil))))
 (pss_one (ps_set (i := 2) sc_Work_lower.nd rfl (Or.inl rfl) (pe_meth (pv 0) T.clW T.Work_wrong.m (ok_Work_wrong T) (hr.mono (by decide)) (b_Work_wrong T) .nil pass0 (pa_cons (pv 1) pa_nil))))))))
 (pss_one (ps_ret pe_non)))), ?_⟩
  have m5 := Z.m5
  have w3 := PW.wid_ge (L := L) m
  obtain ⟨K0, st1, st2⟩ := PW.stops (border := PW.bord L m) (g := g) R.good (by omega) w3 hg1 hg2
  generalize hy : PW.go m (PW.wid L m) (PW.bord L m) g x = y at st1 st2 q
  have hR : ∀ k, RchL L m g0 g1 (y k) := fun k => by
    rw [← hy]; exact PW.rch_go R (by omega) w3 k
  have hy0 : y 0 = x := by rw [← hy]; rfl
  have hys : ∀ k a s, PW.pick m (PW.wid L m) (PW.bord L m) g (y k) = some (a, s) → y (k + 1) = turnS (y k) a s := fun k a s h => by
    rw [← hy] at h ⊢
    show (match PW.pick m (PW.wid L m) (PW.bord L m) g (PW.go m (PW.wid L m) (PW.bord L m) g x k) with
      | some (a, s) => turnS (PW.go m (PW.wid L m) (PW.bord L m) g x k) a s
      | none => PW.go m (PW.wid L m) (PW.bord L m) g x k) = _
    rw [h]
  refine q_asgC (evc_wrong T (ev_var rfl) (ev_var rfl) W m5 hg2) fun D H1 ys hD e1 h1 ey => ?_
  subst ey
  refine ⟨fun n σ' H' => ∃ k D c3, n + k = K0 ∧ Fx2 p Bs H H' ∧ WrkB K H' p T.cW Bs L m (y k) ∧ σ' = [some (.ref p), some (.int (g : Nat)), some (.ref D), c3] ∧ SqL K H' D (intsV (wr L m g (y k))), ⟨K0, 0, D, none, by omega, Fx2.of e1, by rw [hy0]; exact W.ex e1, rfl, by rw [hy0]; exact sq_of h1⟩, ?_⟩
  rintro n σ' H' ⟨k, D', c3, hn, fx, W', rfl, hD'⟩
  refine et_some (ev_var rfl) hD' H' (Ex.refl H') _ fun H2 e2 => ?_
  have en := wr_ent L m g (y k)
  cases hw : wr L m g (y k) with
  | nil =>
    rw [hw] at en
    refine iteF ?_
    show tRet (tC .non) { nx := fun _ H' => Q V.non H', rt := Q } [some (.ref p), some (.int (g : Nat)), some (.ref D'), c3] H2
    refine s_ret ev_c fun H3 e3 => ?_
    have := q k H3 (fx.trans (Fx2.of (e2.trans e3))) (W'.ex (e2.trans e3)) (by unfold PW.pick; rw [en]; rfl)
    rw [en] at this
    exact this
  | cons s rest =>
    rw [hw] at en
    have en : PW.ent (y k).T g (PW.bord L m) = some s := en
    obtain ⟨t1, t2, t3⟩ := PW.ent_some en
    have hw0 : intsV (wr L m g (y k)) = .int (s : Nat) :: intsV rest := by rw [hw]; rfl
    refine iteT ?_
    refine ⟨_, fun _ _ h => h, ?_⟩
    have ev0 : ∀ {σ : L2.St} {H3 : Hp}, Ex H' H3 → σ[2]? = some (some (.ref D')) → Ev (tOp (rIxL K) (tVar 2) (tC (.int 0))) σ H3 (.int (s : Nat)) := fun e h => ev_op (ev_var h) ev_c (rv_ixL (ex_l e hD') (by rw [hw0]; exact atI_nat (j := 0) rfl))
    refine q_asg (v := optV (PW.lea (y k).T (y k).B (PW.wid L m) s m)) (ev_leaving T (ev_var rfl) (ev0 e2 rfl) (W'.ex e2) m5 (by omega)) fun H3 e3 => ?_
    have e23 := e2.trans e3
    cases hl : PW.lea (y k).T (y k).B (PW.wid L m) s m with
    | none =>
      refine q_when (b := true) (et_test (ev_op (ev_var rfl) ev_c rv_isN)) (fun _ H4 e4 => ?_) (fun z => by cases z)
      refine s_ret (ev0 (e23.trans e4) rfl) fun H5 e5 => ?_
      have := q k H5 (fx.trans (Fx2.of ((e23.trans e4).trans e5))) (W'.ex ((e23.trans e4).trans e5)) (by unfold PW.pick; rw [en]; simp only []; rw [hl])
      rw [en] at this
      exact this
    | some a =>
      have hpk : PW.pick m (PW.wid L m) (PW.bord L m) g (y k) = some (a, s) := by unfold PW.pick; rw [en]; simp only []; rw [hl]
      obtain ⟨l1, l2, _⟩ := PW.lea_some hl
      have hk : k ≠ K0 := fun z => by rw [← z, hpk] at st1; cases st1
      have nx := hys k a s hpk
      refine q_when (b := false) (et_test (ev_op (ev_var rfl) ev_c rv_isN)) (fun z => by cases z) (fun _ H4 e4 => ?_)
      have e24 := e23.trans e4
      have R' := hR (k + 1)
      rw [nx] at R'
      refine s_turn T (D := { nx := _, rt := _, bk := _, ct := _ }) (ev_var rfl) (ev_var rfl) (ev0 e24 rfl) (W'.ex e24) R' Z l1 (by omega) (by grind) fun H5 f5 W5 => ?_
      refine s_asgC (evc_wrong T (ev_var rfl) (ev_var rfl) W5 m5 hg2) fun D2 H6 ys hD2 e6 h6 ey => ?_
      subst ey
      rw [← nx] at W5 h6
      exact ⟨n - 1, by omega, k + 1, D2, _, by omega, (fx.trans (Fx2.of e24)).trans (f5.trans (Fx2.of e6)), W5.ex e6, rfl, sq_of h6⟩
/-! ### settle -/
abbrev N_Work_settle : List Str := ["self", "at", "some", "column"]
theorem sc_Work_settle : FnScope N_Work_settle ["self"] (defScope s_Work_settle) := ⟨rfl, rfl, rfl, by decide +kernel, rfl, by decide +kernel, by decide +kernel⟩
def spSettle (K : PySem.W.Frag) (C : Addr) : Sp := fun vs H Q _ => ∃ (p Bs : Addr) (L : Nat → PW.Line) (m : Nat) (g0 g1 : Rat) (d B : Nat) (x : PW.St), vs = [.ref p] ∧ WrkB K H p C Bs L m x ∧ RchL L m g0 g1 x ∧ Siz L m g0 g1 d B ∧ PW.ArtZ m (PW.wid L m) (PW.bord L m) x ∧
  ∀ H', Fx2 p Bs H H' → WrkB K H' p C Bs L m (PW.setl (PW.bord L m) x m) → Q .non H'
theorem setl_succ (b : Nat) (x : PW.St) (k : Nat) : PW.setl b x (k + 1) = if b ≤ (PW.setl b x k).B k then match PW.fst (PW.setl b x k).T k b with
      | some c => turnS (PW.setl b x k) k c
      | none => PW.setl b x k
    else PW.setl b x k := rfl
theorem ok_Work_settle (T : Txt w K mg) : FnOk P w K mg base CX0 5 T.Work_settle.f T.Work_settle.fd ["self"] (spSettle K T.cW) := by
  refine T.Work_settle.F.ok sc_Work_settle (fun vs H Q E h => ?_) (fun cdv A outer s H vs Q E hr h => ?_)
  · obtain ⟨p, Bs, L, m, g0, g1, d, B, x, rfl, _⟩ := h
    rfl
  obtain ⟨p, Bs, L, m, g0, g1, d, B, x, rfl, W, R, Z, az, q⟩ := h
  refine ⟨_, PSs.nox (pss_one (ps_for PassesOwn.never rfl (pi_range1 (by rfl) T.m_range (pa_cons (pe_callB (call_lenK (K := K) rfl) (by rfl) T.m_len PySem.boot_len (pa_cons (pe_fldK (K := K) rfl (pv 0) rfl) pa_nil)) pa_nil)) (pg_name (i := 1) sc_Work_settle.nd rfl (Or.inr rfl))
 (pss_cons (ps_setLc (i := 2) (own := [("column", 3)]) (g := gName 3) rfl sc_Work_settle.nd rfl rfl (sw_true rfl rfl rfl (by decide +kernel)) (pi_range1 (by rfl) T.m_range (pa_cons (pe_fldK (K := K) rfl (pv 0) rfl) pa_nil)) (blkOk_by (N := N_Work_settle) (sc := defScope s_Work_settle) (by decide +kernel))
 (fun _ _ _ _ _ => (pg_name (i := 3) sc_Work_settle.nd rfl (Or.inl rfl))) (fun _ _ _ _ _ => (pts_one (pt_cmpR op_ne (pe_ix (ix_listK (K := K) rfl) (pe_ix (ix_listK (K := K) rfl) (pe_ix (ix_tupK (K := K) rfl) (pe_fldK (K := K) rfl (pv 0) rfl) pe_int (fun _ _ => rfl)) (pv 1) (fun _ _ => rfl)) (pv 3) (fun _ _ => rfl)) pe_int (nomark _)))) (fun _ _ _ _ _ => (pv 3)))
 (pss_one (ps_if (PW.pt (pw_and (pt_cmpR op_ge (pe_ix (ix_listK (K := K) rfl) (pe_fldK (K := K) rfl (pv 0) rfl) (pv 1) (fun _ _ => rfl)) (pe_fldK (K := K) rfl (pv 0) rfl) (nomark _)) (pw_and1 (pt_cmpR (op_neD hr.units) (pv 2) (pe_lst pa_nil) (nomark _))))) (pss_one (ps_expr (pe_meth (pv 0) T.clW T.Work_turn.m (ok_Work_turn T) (hr.mono (by decide)) (b_Work_turn T) .nil pass0 (pa_cons (pv 1) (pa_cons (pe_ix (ix_listK (K := K) rfl) (pv 2) pe_int (fun _ _ => rfl)) pa_nil))))) pss_nil))))), ?_⟩
  have m5 := Z.m5
  have w1 := wid_le L m
  have w3 := PW.wid_ge (L := L) m
  have hlen : ∃ xs, H Bs = some (.lst xs) ∧ xs.length = m := by
    obtain ⟨lp, O, tv, N, sc, w⟩ := id W
    exact ⟨_, w.bs, rowV_len _ _⟩
  obtain ⟨bs0, b1, b2⟩ := hlen
  have evB : ∀ {σ : L2.St} {H' : Hp} {x : PW.St}, WrkB K H' p T.cW Bs L m x → σ[0]? = some (some (.ref p)) → Ev (tFld K (tVar 0) "basis") σ H' (.ref Bs) := fun W h => by
    obtain ⟨dx, lp, O, tv, o⟩ := W.ob
    exact ev_fld (ev_var h) o T.clW T.nW_basis wf_basis
  refine s_forR1 (D := { nx := _, rt := _ }) (n := (m : Nat)) (ea_cons (ev_is (ev_lenL (evB W rfl) (sq_of b1)) (by rw [b2])) ea_nil) (by omega) (fun k σ' H' => Fx2 p Bs H H' ∧ WrkB K H' p T.cW Bs L m (PW.setl (PW.bord L m) x k) ∧ ∃ c1 c2 c3, σ' = [some (.ref p), c1, c2, c3])
    (fun H1 e1 => ⟨Fx2.of e1, W.ex e1, none, none, none, rfl⟩) ?_ ?_
  · rintro k σ' H' hk ⟨fx, W', c1, c2, c3, rfl⟩
    have hk : k < m := by omega
    have hsucc := setl_succ (PW.bord L m) x k
    have Rk1 := (PW.setl_ok R (by omega) w3 az (k + 1) (by omega)).1
    generalize hyk : PW.setl (PW.bord L m) x k = y at hsucc W'
    obtain ⟨lp, O, tv, N, sc, wl⟩ := id W'
    obtain ⟨⟨dx, h1⟩, h2, h3, h4, h5, h6, ⟨t, R', rfl, ht, _, ps, hR, hpl, hrow⟩, h8, h9, h10, h11⟩ := id wl
    have sp := PW.nat_pos h8
    obtain ⟨u, hu⟩ := get_of_lt (xs := ps) (i := k) (by omega)
    refine q_asgC (evc_rngF (lo := 0) (n := PW.bord L m) (j := 3) (vs := [3]) (fun c => decide (y.T k c ≠ 0)) (fun _ i v _ => v = .int (i : Nat)) (rng1 (ea_cons (ev_fld (ev_var rfl) h1 T.clW T.nW_border wf_border) ea_nil) (by omega)) (by omega) (fun _ => rfl)
      (fun D c H1 hc hD e1 hl => ?_) (fun D c H1 hc hD e1 hl _ => evr_ev (ev_var rfl) fun _ _ => by rw [Int.zero_add]) (fun _ _ _ _ _ _ _ h => h)) fun D H1 xs hD e1 hx o => ?_
    · refine et_is (et_test (ev_op (ev_at (N := N) (c := c) (ex_l e1 hR) hu (ex_l e1 (hrow k u hu).1) (by omega) (ev_op (ev_fld (ev_var rfl) (e1 _ _ h1) T.clW T.nW_tableau wf_tab) ev_c (rv_ixT (ex_t e1 ht) rfl)) (ev_var rfl) (ev_is (ev_var rfl) (by rw [Int.zero_add]))) ev_c (rv_ne rfl))) ?_
      have := (sg_lt (h11 k (by omega) c (by omega)) sp).2.1
      by_cases z : N k c = 0
      · rw [decide_eq_false (p := y.T k c ≠ 0) (fun h => h (this.mpr z)), decide_eq_true (p := V.int (N k c) = V.int 0) (by rw [z])]; rfl
      · rw [decide_eq_true (p := y.T k c ≠ 0) (fun h => z (this.mp h)), decide_eq_false (p := V.int (N k c) = V.int 0) (fun h => z (V.int.inj h))]; rfl
    have hD1 : SqL K H1 D (intsV ((List.range (PW.bord L m)).filter fun c => decide (y.T k c ≠ 0))) := sq_of (by rw [hx, outs_fmap o]; rfl)
    have hfst : PW.fst y.T k (PW.bord L m) = ((List.range (PW.bord L m)).filter fun c => decide (y.T k c ≠ 0)).head? := rfl
    generalize ((List.range (PW.bord L m)).filter fun c => decide (y.T k c ≠ 0)) = fl at hD1 hfst
    have nx : ∀ H2, Ex H1 H2 → PW.setl (PW.bord L m) x (k + 1) = y → Fx2 p Bs H H2 ∧ WrkB K H2 p T.cW Bs L m (PW.setl (PW.bord L m) x (k + 1)) ∧ ∃ c1 c2 c3', ([some (.ref p), some (.int (k : Nat)), some (.ref D), c3] : L2.St) = [some (.ref p), c1, c2, c3'] := fun H2 e2 e => by
      rw [e]
      exact ⟨fx.trans (Fx2.of (e1.trans e2)), W'.ex (e1.trans e2), _, _, _, rfl⟩
    refine s_when (b := decide (((PW.bord L m : Nat) : Int) ≤ (y.B k : Nat)) && !fl.isEmpty) (et_and (et_test (ev_op (ev_op (evB (W'.ex e1) rfl) (ev_var rfl) (rv_ixL (sq_of (e1 _ _ h4)) (atI_row hk))) (ev_fld (ev_var rfl) (e1 _ _ h1) T.clW T.nW_border wf_border) rv_I0)) fun _ => et_some (ev_var rfl) hD1) (fun hb H2 e2 => ?_) (fun hb H2 e2 => ?_)
    · rw [Bool.and_eq_true] at hb
      obtain ⟨hb1, hb2⟩ := hb
      have hb1 : PW.bord L m ≤ y.B k := by have := of_decide_eq_true hb1; omega
      cases fl with
      | nil => cases hb2
      | cons c rest =>
        have hfst : PW.fst y.T k (PW.bord L m) = some c := hfst
        obtain ⟨f1, f2⟩ := PW.fst_some hfst
        rw [if_pos hb1, hfst] at hsucc
        rw [hsucc] at Rk1
        refine s_turn T (D := { nx := _, rt := _, bk := _, ct := _ }) (ev_var rfl) (ev_var rfl) (ev_op (ev_var rfl) ev_c (rv_ixL (ex_l e2 hD1) (by show atI (V.int (c : Nat) :: intsV rest) 0 = _; exact atI_nat (j := 0) rfl))) (W'.ex (e1.trans e2)) Rk1 Z hk (by omega) f2 fun H3 f3 W3 => ?_
        refine ⟨(fx.trans (Fx2.of (e1.trans e2))).trans f3, ?_, _, _, _, rfl⟩
        rw [hsucc]; exact W3
    · refine nx H2 e2 ?_
      rw [hsucc]
      by_cases z : PW.bord L m ≤ y.B k
      · rw [if_pos z, hfst]
        cases fl with
        | nil => rfl
        | cons c rest =>
          rw [decide_eq_true (show ((PW.bord L m : Nat) : Int) ≤ (y.B k : Nat) by omega)] at hb
          cases hb
      · rw [if_neg z]
  · rintro σ' H' ⟨fx, W', c1, c2, c3, rfl⟩
    rw [Int.toNat_natCast] at W'
    exact q H' fx W'
/-! ### prices -/
theorem evf_value (T : Txt w K mg) {σ : L2.St} {H : Hp} {tv ta tb : TE} {E : XK} {S : Addr → Prop} {v : V} {N : Nat → Nat → Int} {sc h wd a c : Nat} (hv : Ev tv σ H v) (ha : Ev ta σ H (.int (a : Nat))) (hb : Ev tb σ H (.int (c : Nat))) (t : TabA K S H v N (sc : Nat) h wd) (h1 : a < h) (h2 : c < wd) (s0 : 0 < sc) (s9 : sc < 2 ^ 3000) :
    EvF K (tCall (spValue K) [] E (tCons tv (tCons ta (tCons tb tNil)))) σ H (fr (N a c) (sc : Nat)) :=
  evf_call (ea_cons hv (ea_cons ha (ea_cons hb ea_nil))) fun H1 e Q k E => ⟨S, v, N, sc, h, wd, a, c, rfl, t.ex e, h1, h2, s0, Nat.lt_of_lt_of_le s9 (Nat.pow_le_pow_right (by omega) (by omega)), k⟩
abbrev N_Work_prices : List Str := ["self", "goal", "many", "found", "at", "price"]
theorem sc_Work_prices : FnScope N_Work_prices ["self", "goal", "many"] (defScope s_Work_prices) := ⟨rfl, rfl, rfl, by decide +kernel, rfl, by decide +kernel, by decide +kernel⟩
def spPrices (K : PySem.W.Frag) (C : Addr) : Sp := fun vs H Q _ => ∃ (p Bs : Addr) (L : Nat → PW.Line) (m : Nat) (x : PW.St) (g n : Nat), vs = [.ref p, .int (g : Nat), .int (n : Nat)] ∧ WrkB K H p C Bs L m x ∧ m ≤ 5 ∧ g < m + 2 ∧ n ≤ m ∧ ∀ t H', Ex H H' → Q (.ref t) H'
theorem ok_Work_prices (T : Txt w K mg) : FnOk P w K mg base CX0 4 T.Work_prices.f T.Work_prices.fd ["self", "goal", "many"] (spPrices K T.cW) := by
  refine T.Work_prices.F.ok sc_Work_prices (fun vs H Q E h => ?_) (fun cdv A outer s H vs Q E hr h => ?_)
  · obtain ⟨p, Bs, L, m, x, g, n, rfl, _⟩ := h
    rfl
  obtain ⟨p, Bs, L, m, x, g, n, rfl, ⟨lp, O, tv, N, sc, ⟨dx, h1⟩, ⟨ls, l1, l2, l3⟩, h3, h4, h5, h6, h7, h8, h9, h10, h11⟩, m5, hg, hn, q⟩ := h
  refine ⟨_, PSs.nox (pss_cons (ps_set (i := 3) sc_Work_prices.nd rfl (Or.inl rfl) (pe_lst pa_nil))
 (pss_cons (ps_for PassesOwn.never rfl (pi_range1 (by rfl) T.m_range (pa_cons (pv 2) pa_nil)) (pg_name (i := 4) sc_Work_prices.nd rfl (Or.inl rfl))
 (pss_cons (ps_set (i := 5) sc_Work_prices.nd rfl (Or.inl rfl) (pe_call (ok_minus T) (hr.mono (by decide)) rfl T.minus.g T.minus.F.kp (b_minus T) .nil pass0 (pa_cons (pe_glob (v := .ref T.nought) rfl T.gnought rfl) (pa_cons (pe_call (ok_value T) (hr.mono (by decide)) rfl T.value.g T.value.F.kp (b_value T) .nil pass0 (pa_cons (pe_fldK (K := K) rfl (pv 0) rfl) (pa_cons (pv 1) (pa_cons (pe_ix (ix_listK (K := K) rfl) (pe_fldK (K := K) rfl (pv 0) rfl) (pv 4) (fun _ _ => rfl)) pa_nil)))) pa_nil))))
 (pss_cons (ps_if (PW.pt (pw_and (pt_cmpR op_gt (pv 1) (pe_callB (call_lenK (K := K) rfl) (by rfl) T.m_len PySem.boot_len (pa_cons (pe_fldK (K := K) rfl (pv 0) rfl) pa_nil)) (nomark _)) (pw_and1 (pt_cmpR op_ge (pe_ix (ix_listK (K := K) rfl) (pe_fldK (K := K) rfl (pv 0) rfl) (pv 4) (fun _ _ => rfl)) (pe_fldK (K := K) rfl (pv 0) rfl) (nomark _))))) (pss_one (ps_set (i := 5) sc_Work_prices.nd rfl (Or.inl rfl) (pe_call (ok_plus T) (hr.mono (by decide)) rfl T.plus.g T.plus.F.kp (b_plus T) .nil pass0 (pa_cons (pv 5) (pa_cons (pe_glob (v := .ref T.one) rfl T.gone rfl) pa_nil))))) pss_nil)
 (pss_one (ps_expr (pe_bm PySem.F.plainAttrs_list PySem.F.slot_list_append PySem.F.type_list_append mt_append (pv 3) (pa_cons (pe_call (ok_times T) (hr.mono (by decide)) rfl T.times.g T.times.F.kp (b_times T) .nil pass0 (pa_cons (pv 5) (pa_cons (pe_tup (pa_cons (pe_ix (ix_tupK (K := K) rfl) (pe_ix (ix_listK (K := K) rfl) (pe_fldK (K := K) rfl (pv 0) rfl) (pv 4) (fun _ _ => rfl)) pe_int (fun _ _ => rfl)) (pa_cons pe_int pa_nil))) pa_nil))) pa_nil)))))))
 (pss_one (ps_ret (pe_callTy (call_tupleK (K := K) rfl) (by rfl) T.m_tuple (by decide +kernel) (pa_cons (pv 3) pa_nil)))))), ?_⟩
  have w1 := wid_le L m
  have w3 := PW.wid_ge (L := L) m
  refine q_asgL (el_lst ea_nil (Nat.zero_le _)) fun F H1 hF e1 hf1 => ?_
  refine q_forR1 (n := (n : Nat)) (ea_cons (ev_var rfl) ea_nil) (by omega) (fun k σ' H' => Ex H H' ∧ ∃ c4 c5, σ' = [some (.ref p), some (.int (g : Nat)), some (.int (n : Nat)), some (.ref F), c4, c5] ∧ ∃ xs, H' F = some (.lst xs) ∧ xs.length = k)
    (fun H2 e2 => ⟨e1.trans e2, none, none, rfl, [], e2 _ _ hf1, rfl⟩) ?_ ?_
  · rintro k σ' H' hk ⟨e2, c4, c5, rfl, xs, x1, x2⟩
    have hkm : k < m := by omega
    have ow := PW.ownc_lt (L := L) hkm
    have evO : ∀ {σ : L2.St} {H2 : Hp}, Ex H H2 → σ[0]? = some (some (.ref p)) → σ[4]? = some (some (.int (k : Nat))) → Ev (tOp (rIxL K) (tFld K (tVar 0) "own") (tVar 4)) σ H2 (.int (PW.ownc L m k : Nat)) := fun e a b =>
      ev_op (ev_fld (ev_var a) (e _ _ h1) T.clW T.nW_own wf_own) (ev_var b) (rv_ixL (sq_of (e _ _ h3)) (atI_row hkm))
    have zv : Sz 3000 (fr (N g (PW.ownc L m k)) (sc : Nat)) := PW.sz_fr (by omega) (h10 g hg _ (by omega)) (by rw [Int.natAbs_natCast]; exact h9)
    refine q_asgF (evf_2 (evf_nought T) (evf_value T (ev_fld (ev_var rfl) (e2 _ _ h1) T.clW T.nW_tableau wf_tab) (ev_var rfl) (evO e2 rfl rfl) (h7.ex e2) hg (by omega) h8 h9) (PW.sz_0.mono (by omega)) (zv.mono (by omega))) fun v H3 e3 fv => ?_
    have e23 := e2.trans e3
    have zp : Sz 3002 (0 - fr (N g (PW.ownc L m k)) (sc : Nat)) := (PW.sz_sub PW.sz_0 zv).mono (by omega)
    -- the end of the turn
    have fin : ∀ (D : Ends) (H4 : Hp) (u : V) (r : Rat), Ex H3 H4 → FrA K H4 u r → Sz 3010 r → (∀ H5 y, Ex H4 H5 → D.nx [some (.ref p), some (.int (g : Nat)), some (.int (n : Nat)), some (.ref F), some (.int (k : Nat)), some u] (upd H5 F (.lst (xs ++ [y])))) →
        tDrop (tBM K "list" rAppend (tVar 3) (tCons (tCall (spTimes K) [] E0 (tCons (tVar 5) (tCons (tTup (tCons (tOp (rIxT K) (tOp (rIxL K) (tFld K (tVar 0) "lines") (tVar 4)) (tC (.int 3))) (tCons (tC (.int 1)) tNil))) tNil))) tNil)) D [some (.ref p), some (.int (g : Nat)), some (.int (n : Nat)), some (.ref F), some (.int (k : Nat)), some u] H4 := by
      intro D H4 u r e4 fu zr kk
      obtain ⟨y, hy⟩ := get_of_lt (xs := ls) (i := k) (by omega)
      obtain ⟨t, a, b, c, wy, rfl, ht, hw⟩ := l3 k y hy
      have e24 := e23.trans e4
      have ev3 : Ev (tOp (rIxT K) (tOp (rIxL K) (tFld K (tVar 0) "lines") (tVar 4)) (tC (.int 3))) [some (.ref p), some (.int (g : Nat)), some (.int (n : Nat)), some (.ref F), some (.int (k : Nat)), some u] H4 (.int wy) :=
        ev_op (ev_op (ev_fld (ev_var rfl) (e24 _ _ h1) T.clW T.nW_lines wf_lines) (ev_var rfl) (rv_ixL (sq_of (e24 _ _ l1)) (atI_nat hy))) ev_c (rv_ixT (ex_t e24 ht) rfl)
      have x1' := e4 _ _ (e3 _ _ x1)
      have hwf : EvF K (tTup (tCons (tOp (rIxT K) (tOp (rIxL K) (tFld K (tVar 0) "lines") (tVar 4)) (tC (.int 3))) (tCons (tC (.int 1)) tNil))) [some (.ref p), some (.int (g : Nat)), some (.int (n : Nat)), some (.ref F), some (.int (k : Nat)), some u] H4 (wy : Rat) := by
        rcases hw with rfl | rfl
        · exact evf_tup (r := 1) ev3 ev_c
        · exact evf_tup (r := -1) ev3 ev_c
      have zw : Sz 1 (wy : Rat) := by
        rcases hw with rfl | rfl
        · exact PW.sz_1
        · exact ⟨by decide, by decide⟩
      exact s_appR (l := F) (xs := xs) x1' (ev_var rfl) (evr_f (evf_2 (evf_var rfl fu) hwf (zr.mono (by omega)) (zw.mono (by omega)))) (by omega) fun y H5 e5 _ => kk H5 y e5
    refine q_when (b := decide (((m : Nat) : Int) < (g : Nat)) && decide (((PW.bord L m : Nat) : Int) ≤ (PW.ownc L m k : Nat))) (et_and (et_test (ev_op (ev_var rfl) (ev_is (ev_lenL (ev_fld (ev_var rfl) (e23 _ _ h1) T.clW T.nW_lines wf_lines) (sq_of (e23 _ _ l1))) (by rw [l2])) rv_I0)) fun _ => et_test (ev_op (evO e23 rfl rfl) (ev_fld (ev_var rfl) (e23 _ _ h1) T.clW T.nW_border wf_border) rv_I0)) (fun hb H4 e4 => ?_) (fun hb H4 e4 => ?_)
    · refine s_asgF (evf_2 (evf_var rfl (fv.ex e4)) (evf_one T) (zp.mono (by omega)) (PW.sz_1.mono (by omega))) fun u H5 e5 fu => ?_
      refine fin _ H5 u _ (e4.trans e5) fu ((PW.sz_add zp PW.sz_1).mono (by omega)) fun H6 y e6 => ⟨?_, _, _, rfl, xs ++ [y], upd_same, by simp [x2]⟩
      exact (((e23.trans e4).trans e5).trans e6).mut hF
    · refine fin _ H4 v _ e4 (fv.ex e4) (zp.mono (by omega)) fun H6 y e6 => ⟨?_, _, _, rfl, xs ++ [y], upd_same, by simp [x2]⟩
      exact ((e23.trans e4).trans e6).mut hF
  · rintro σ' H' ⟨e2, c4, c5, rfl, xs, x1, x2⟩
    refine s_retU (eu_tupleL (ev_var rfl) (sq_of x1)) fun t H3 ht e3 h3 => ?_
    exact q t H3 (e2.trans e3)
/-! ### standing -/
abbrev N_Work_standing : List Str := ["self", "found", "at", "column"]
theorem sc_Work_standing : FnScope N_Work_standing ["self"] (defScope s_Work_standing) := ⟨rfl, rfl, rfl, by decide +kernel, rfl, by decide +kernel, by decide +kernel⟩
def spStanding (K : PySem.W.Frag) (C : Addr) : Sp := fun vs H Q _ => ∃ (p Bs : Addr) (L : Nat → PW.Line) (m : Nat) (x : PW.St), vs = [.ref p] ∧ WrkB K H p C Bs L m x ∧ m ≤ 5 ∧ (∀ r q, r < m → q < m → x.B r = x.B q → r = q) ∧ ∀ d H', Ex H H' → DictF K H' d (PW.bas x.T m (PW.wid L m) x.B) → Q (.ref d) H'
/-- what stands, after some lines -/
def basK (T : PW.Tab) (n : Nat) (B : Nat → Nat) (k c : Nat) : Rat := PW.sumN k fun r => if B r = c then T r n else 0
theorem basK_succ {T : PW.Tab} {n : Nat} {B : Nat → Nat} {k c : Nat} (hi : ∀ r, r < k → B r ≠ B k) : (if c = B k then T k n else basK T n B k c) = basK T n B (k + 1) c := by
  show _ = basK T n B k c + (if B k = c then T k n else 0)
  by_cases e : c = B k
  · rw [if_pos e, if_pos e.symm, e]
    have : basK T n B k (B k) = 0 := PW.sumN_zero fun r hr => if_neg (hi r hr)
    rw [this, Rat.zero_add]
  · rw [if_neg e, if_neg fun z => e z.symm, Rat.add_zero]
theorem ok_Work_standing (T : Txt w K mg) : FnOk P w K mg base CX0 4 T.Work_standing.f T.Work_standing.fd ["self"] (spStanding K T.cW) := by
  refine T.Work_standing.F.ok sc_Work_standing (fun vs H Q E h => ?_) (fun cdv A outer s H vs Q E hr h => ?_)
  · obtain ⟨p, Bs, L, m, x, rfl, _⟩ := h
    rfl
  obtain ⟨p, Bs, L, m, x, rfl, ⟨lp, O, tv, N, sc, ⟨dx, h1⟩, h2, h3, h4, h5, h6, h7, h8, h9, h10, h11⟩, m5, inj, q⟩ := h
  refine ⟨_, PSs.nox (pss_cons (ps_set (i := 1) sc_Work_standing.nd rfl (Or.inl rfl) pe_dnewK)
 (pss_cons (ps_for PassesOwn.never rfl (pi_enum (by rfl) T.m_enumerate (pa_cons (pe_fldK (K := K) rfl (pv 0) rfl) pa_nil)) (pg_tupK (n := 2) (K := K) rfl rfl (pgs_cons (pg_name (i := 2) sc_Work_standing.nd rfl (Or.inl rfl)) (pgs_cons (pg_name (i := 3) sc_Work_standing.nd rfl (Or.inl rfl)) pgs_nil)))
 (pss_one (ps_dput (hu_of hr) (pv 1) (pv 3) (pe_call (ok_value T) (hr.mono (by decide)) rfl T.value.g T.value.F.kp (b_value T) .nil pass0 (pa_cons (pe_fldK (K := K) rfl (pv 0) rfl) (pa_cons (pv 2) (pa_cons (pe_fldK (K := K) rfl (pv 0) rfl) pa_nil)))) rfl)))
 (pss_one (ps_ret (pv 1))))), ?_⟩
  have w1 := wid_le L m
  intro d hd
  have i1 : Ex H (upd H d (.dK [])) := Ex.new hd
  refine q_forE (a := Bs) (xs := rowV (fun i => (x.B i : Nat)) m) (ea_cons (ev_fld (ev_var rfl) (i1 _ _ h1) T.clW T.nW_basis wf_basis) ea_nil) (sq_of (i1 _ _ h4)) (fun k σ' H' => Ex H H' ∧ DictL K H' d (basK x.T (PW.wid L m) x.B k) k ∧ ∃ c2 c3, σ' = [some (.ref p), some (.ref d), c2, c3])
    (fun H1 e1 => ⟨i1.trans e1, ((dictL_0 upd_same).ex e1).congr fun c => rfl, none, none, rfl⟩) (fun k σ' H' h => sq_of (h.1 _ _ h4)) ?_ ?_
  · rintro k v σ' H' t hv ⟨e1, dl, c2, c3, rfl⟩ ht
    obtain ⟨hk, rfl⟩ := rowV_get hv
    have e2 : Ex H (upd H' t (.tup [.int (k : Nat), .int (x.B k : Nat)])) := e1.trans (Ex.new ht)
    refine s_dputF (c := x.B k) (evf_value T (ev_fld (ev_var rfl) (e2 _ _ h1) T.clW T.nW_tableau wf_tab) (ev_var rfl) (ev_fld (ev_var rfl) (e2 _ _ h1) T.clW T.nW_end wf_end) (h7.ex e2) (by omega) (by omega) h8 h9) (ev_var rfl) (ev_var rfl) (dl.ex (Ex.new ht)) (by omega) fun H2 ex2 d2 => ?_
    refine ⟨ex2 H hd e2, d2.congr fun c => ?_, _, _, rfl⟩
    rw [← basK_succ fun r hr z => by have := inj r k (by omega) hk z; omega]
    have : fr (N k (PW.wid L m)) (sc : Nat) = x.T k (PW.wid L m) := by
      rw [PW.fr_div (by omega), h11 k (by omega) _ (by omega)]; rfl
    rw [this]
  · rintro σ' H' ⟨e1, dl, c2, c3, rfl⟩
    rw [rowV_len] at dl
    exact ⟨_, rfl, q d H' e1 dl.a⟩
end
end PX

/-! loose -/
namespace PX
open PySem PySem.Spec PyProof.Rows L2 Evl
open PW (Sz fr RchL turnS)
/-- pairs by unknowns 0 and 1, in order -/
def prs (a b : Option Rat) : List (Nat × Rat) := (match a with | some r => [(0, r)] | none => []) ++ (match b with | some r => [(1, r)] | none => [])
def Pr2 (ps : List (Nat × Rat)) : Prop := ∃ a b, ps = prs a b
theorem Pr2.len {ps : List (Nat × Rat)} (h : Pr2 ps) : ps.length ≤ 2 := by
  obtain ⟨a, b, rfl⟩ := h
  cases a <;> cases b <;> simp [prs]
theorem Pr2.lt {ps : List (Nat × Rat)} (h : Pr2 ps) : ∀ kr ∈ ps, kr.1 < 2 := by
  obtain ⟨a, b, rfl⟩ := h
  cases a <;> cases b <;> simp [prs]
theorem prs_num (a b : Option Rat) : numF (prs a b) 0 = a.getD 0 ∧ numF (prs a b) 1 = b.getD 0 := by
  cases a <;> cases b <;> simp [prs, numF]
theorem prs_at (a b : Option Rat) (x y : Rat) : atB [x, y] (prs a b) = a.getD 0 * x + b.getD 0 * y := by
  cases a <;> cases b <;> simp [prs, atB] <;> grind
theorem Pr2.at {ps : List (Nat × Rat)} (h : Pr2 ps) (x y : Rat) : atB [x, y] ps = numF ps 0 * x + numF ps 1 * y := by
  obtain ⟨a, b, rfl⟩ := h
  rw [prs_at, (prs_num a b).1, (prs_num a b).2]
theorem Pr2.sz {ps : List (Nat × Rat)} {k : Nat} (h : Pr2 ps) (hz : ∀ kr ∈ ps, Sz k kr.2) (hk : 1 ≤ k) : Sz k (numF ps 0) ∧ Sz k (numF ps 1) := by
  obtain ⟨a, b, rfl⟩ := h
  rw [(prs_num a b).1, (prs_num a b).2]
  have z0 := PW.sz_0.mono hk
  cases a <;> cases b <;> simp [prs] at hz ⊢
  · exact z0
  · exact ⟨z0, hz⟩
  · exact ⟨hz, z0⟩
  · exact hz
theorem Pr2.turn {ps : List (Nat × Rat)} {l : Bool} (h : Pr2 ps) : Pr2 (turnP l ps) := by
  obtain ⟨a, b, rfl⟩ := h
  refine ⟨a.map fun r => if l then r else 0 - r, b.map fun r => if l then r else 0 - r, ?_⟩
  unfold turnP
  cases l <;> cases a <;> cases b <;> simp [prs]
theorem turn_sz {ps : List (Nat × Rat)} {l : Bool} {k : Nat} (hz : ∀ kr ∈ ps, Sz k kr.2) : ∀ kr ∈ turnP l ps, Sz k kr.2 := by
  unfold turnP
  split
  · exact hz
  · intro kr h
    obtain ⟨a, h1, rfl⟩ := List.mem_map.mp h
    show Sz k (0 - a.2)
    have e : 0 - a.2 = -a.2 := by grind
    rw [e]
    exact PW.sz_neg (hz a h1)
def rowL (row : RowD) : PW.Line := ⟨numF row.pairs 0, numF row.pairs 1, row.mark, row.c⟩
/-- a plan's numbers -/
structure Pln where
  ls : List (Rat × Rat)
  rs : List RowD
  least : Bool
  ps : List (Nat × Rat)
def Pln.r (p : Pln) : PW.PlanR := ⟨(p.ls.getD 0 (0, 0)).1, (p.ls.getD 0 (0, 0)).2, (p.ls.getD 1 (0, 0)).1, (p.ls.getD 1 (0, 0)).2, p.rs.map rowL, numF (turnP p.least p.ps) 0, numF (turnP p.least p.ps) 1⟩
structure PlnA (K : PySem.W.Frag) (H : Hp) (pl U R G : Addr) (p : Pln) : Prop where
  o : SqT K H pl [.ref U, .ref R, .ref G]
  u : UnkA K H U p.ls
  r : RowsA K H R p.rs
  g : GoalA K H G p.least p.ps
structure PlnZ (p : Pln) : Prop where
  l2 : p.ls.length = 2
  r3 : p.rs.length ≤ 3
  zl : ∀ lh ∈ p.ls, Sz 500 lh.1 ∧ Sz 500 lh.2
  pr : ∀ row ∈ p.rs, Pr2 row.pairs ∧ (∀ kr ∈ row.pairs, Sz 500 kr.2) ∧ Sz 500 row.c
  pg : Pr2 p.ps
  zg : ∀ kr ∈ p.ps, Sz 500 kr.2
  siz : ∃ d B, Siz p.r.ln p.r.m p.r.g0 p.r.g1 d B
theorem PlnA.ex {K : PySem.W.Frag} {H H' : Hp} {pl U R G : Addr} {p : Pln} (e : Ex H H') (h : PlnA K H pl U R G p) : PlnA K H' pl U R G p :=
  ⟨ex_t e h.o, h.u.ex e, h.r.ex e, let ⟨q, c, a, b⟩ := h.g; ⟨q, c, ex_t e a, b.ex e⟩⟩
theorem ls_two {ls : List (Rat × Rat)} (h : ls.length = 2) : ls = [(ls.getD 0 (0, 0)), (ls.getD 1 (0, 0))] := by
  match ls, h with
  | [a, b], _ => rfl
theorem raw_lines {p : Pln} (Z : PlnZ p) : (rawL p.ls p.rs).map PW.upr = p.r.lines := by
  have e := ls_two Z.l2
  unfold rawL PW.PlanR.lines
  rw [List.map_append]
  congr 1
  · rw [List.map_map]
    show _ = (p.rs.map rowL).map _
    rw [List.map_map]
    refine List.map_congr_left fun row hrow => ?_
    show PW.upr (rawRow (p.ls.map (·.1)) row) = PW.upr ⟨(rowL row).a, (rowL row).b, (rowL row).mark, (rowL row).c - ((rowL row).a * p.r.lo0 + (rowL row).b * p.r.lo1)⟩
    have h := (Z.pr row hrow).1.at p.r.lo0 p.r.lo1
    have e2 : p.ls.map (·.1) = [p.r.lo0, p.r.lo1] := by
      rw [e]; rfl
    unfold rawRow
    rw [e2, h]
    rfl
  · have e3 : p.ls.mapIdx rawEnd = [rawEnd 0 (p.ls.getD 0 (0, 0)), rawEnd 1 (p.ls.getD 1 (0, 0))] := by
      conv => lhs; rw [e]
      rfl
    rw [e3]
    rfl
theorem raw_sz {p : Pln} (Z : PlnZ p) : ∀ l ∈ rawL p.ls p.rs, Sz 3000 l.a ∧ Sz 3000 l.b ∧ Sz 3000 l.c := by
  intro l h
  have e := ls_two Z.l2
  unfold rawL at h
  obtain h | h := List.mem_append.mp h
  · obtain ⟨row, hrow, rfl⟩ := List.mem_map.mp h
    obtain ⟨z1, z2, z3⟩ := Z.pr row hrow
    obtain ⟨s1, s2⟩ := z1.sz z2 (by omega)
    refine ⟨s1.mono (by omega), s2.mono (by omega), ?_⟩
    have l2 : (p.ls.map (·.1)).length = 2 := by simp [Z.l2]
    have := atB_sz (los := p.ls.map (·.1)) (ps := row.pairs) (fun kr h => ⟨by rw [l2]; exact z1.lt kr h, z2 kr h⟩) (fun lo h => by
      obtain ⟨lh, h1, rfl⟩ := List.mem_map.mp h
      exact (Z.zl lh h1).1) row.pairs.length (Nat.le_refl _)
    rw [List.take_length] at this
    have hl := z1.len
    exact (PW.sz_sub z3 this).mono (by omega)
  · obtain ⟨i, hi, rfl⟩ := List.mem_mapIdx.mp h
    obtain ⟨q1, q2⟩ := Z.zl _ (List.getElem_mem hi)
    unfold rawEnd
    refine ⟨?_, ?_, (PW.sz_sub q2 q1).mono (by omega)⟩
    · show Sz 3000 (if i = 0 then 1 else 0)
      split
      · exact PW.sz_1.mono (by omega)
      · exact PW.sz_0.mono (by omega)
    · show Sz 3000 (if i = 1 then 1 else 0)
      split
      · exact PW.sz_1.mono (by omega)
      · exact PW.sz_0.mono (by omega)
theorem ex_make {H H' : Hp} {x dx : Addr} {o o' : HO} (hx : H x = none) (hd : H dx = none) (f : Fx x (upd (upd H dx o) x o') H') : Ex H H' := fun a u h => by
  refine f a u (ne_of_none h hx) ?_
  rw [upd_ne (ne_of_none h hx), upd_ne (ne_of_none h hd)]
  exact h
theorem Fx2.ex {D E : Addr} {H H' : Hp} (f : Fx2 D E H H') (h1 : H D = none) (h2 : H E = none) : Ex H H' := fun a o h => f a o (ne_of_none h h1) (ne_of_none h h2) h
theorem TupF.congr2 {K : PySem.W.Frag} {H : Hp} {t : Addr} {a b : Rat} {f : Nat → Rat} (h : TupF K H t 2 (fun i => [a, b].getD i 0 + f i)) : TupF K H t 2 (fun i => if i = 0 then a + f 0 else b + f 1) := by
  obtain ⟨xs, t1, t2, t3⟩ := h
  refine ⟨xs, t1, t2, fun i v hv => ?_⟩
  have hi : i < 2 := by have := get_lt hv; rw [t2] at this; exact this
  have h3 := t3 i v hv
  have h01 : i = 0 ∨ i = 1 := by omega
  rcases h01 with rfl | rfl
  · exact h3
  · exact h3
/-- what loose answers -/
def LooseR (K : PySem.W.Frag) (H : Hp) (v : V) (P : PW.PlanR) : Prop := ∃ t, v = .ref t ∧ ((∃ u, SqT K H t [.str "none", u] ∧ ∀ x y, ¬ P.feas x y) ∨
  ∃ tv u x y, SqT K H t [.str "best", .ref tv, u] ∧ TupF K H tv 2 (fun i => if i = 0 then x else y) ∧ Sz 3600 x ∧ Sz 3600 y ∧ P.feas x y ∧ ∀ x' y', P.feas x' y' → P.goal x y ≤ P.goal x' y')
section
variable {P : Program} {w : World} {K : PySem.W.Frag} {mg : Str → Option Value} {base : Heap}
theorem q_at {σ : L2.St} {H : Hp} {D : Ends} {tz : TS} {te : TE} {i : Nat} (h : te σ H fun v H1 => tz D (σ.set i (some v)) H1) : tSeq (tAsg te (gName i)) tz D σ H := h
theorem q_at0 {σ : L2.St} {H : Hp} {D : Ends} {tz : TS} {te : TE} (h : te σ H fun _ H1 => tz D σ H1) : tSeq (tDrop te) tz D σ H := h
/-- x = C(..) -/
theorem q_make {σ : L2.St} {H : Hp} {D : Ends} {tz : TS} {C : Addr} {sp : Sp} {dvs : List V} {E : XK} {ta : TA} {i : Nat} (h : ta σ H fun vs H1 => ∀ x dx, H1 x = none → H1 dx = none → dx ≠ x → sp (.ref x :: (vs ++ dvs)) (upd (upd H1 dx (.own x)) x (.ins C dx [])) (fun v H2 => v = .non ∧ tz D (σ.set i (some (.ref x))) H2) E) :
    tSeq (tAsg (tMake C sp dvs E ta) (gName i)) tz D σ H := h
/-- over a list that is made just there -/
theorem lc_at {σ : L2.St} {H : Hp} {Q : VK} {tc te : TE} {g : TG} {tt : TT} {vs : List Nat} (h : tc σ H fun x H2 => tLc (iList K (tC x)) g tt te vs σ H2 Q) : tLc (iList K tc) g tt te vs σ H Q := h
theorem atI_neg1 {α : Type} {xs : List α} {n : Nat} {v : α} (h : xs.length = n + 1) (hv : xs[n]? = some v) : atI xs (-1) = some v := by
  have e : xs = xs.take n ++ [v] := by
    have t := List.take_add_one (l := xs) (i := n)
    rw [List.take_of_length_le (by omega), hv] at t
    exact t
  rw [e]
  exact atI_last _ _
theorem at_lower (T : Txt w K mg) {σ : L2.St} {H : Hp} {tp tg : TE} {E : XK} {Q : VK} {p Bs : Addr} {L : Nat → PW.Line} {m g d B : Nat} {g0 g1 : Rat} {x : PW.St} (hp : Ev tp σ H (.ref p)) (hg : Ev tg σ H (.int (g : Nat))) (W : WrkB K H p T.cW Bs L m x) (R : RchL L m g0 g1 x) (Z : Siz L m g0 g1 d B) (h1 : m ≤ g) (h2 : g < m + 2)
    (k : ∀ k H', Fx2 p Bs H H' → WrkB K H' p T.cW Bs L m (PW.go m (PW.wid L m) (PW.bord L m) g x k) → PW.pick m (PW.wid L m) (PW.bord L m) g (PW.go m (PW.wid L m) (PW.bord L m) g x k) = none → Q (optV (PW.ent (PW.go m (PW.wid L m) (PW.bord L m) g x k).T g (PW.bord L m))) H') :
    tMeth T.cW "lower" (spLower K T.cW) [] E tp (tCons tg tNil) σ H Q :=
  hp H (Ex.refl H) _ fun H1 e1 => by
    obtain ⟨dx, lp, O, tv, o⟩ := (W.ex e1).ob
    refine ⟨p, dx, _, rfl, o, wf_no (by decide +kernel) (by decide +kernel) (by decide +kernel) (by decide +kernel) (by decide +kernel) (by decide +kernel), hg H1 e1 _ fun H2 e2 => ?_⟩
    exact ⟨p, Bs, L, m, g0, g1, d, B, x, g, rfl, W.ex (e1.trans e2), R, Z, h1, h2, fun j H4 f W4 st => k j H4 ((Fx2.of (e1.trans e2)).trans f) W4 st⟩
theorem at_settle (T : Txt w K mg) {σ : L2.St} {H : Hp} {tp : TE} {E : XK} {Q : VK} {p Bs : Addr} {L : Nat → PW.Line} {m d B : Nat} {g0 g1 : Rat} {x : PW.St} (hp : Ev tp σ H (.ref p)) (W : WrkB K H p T.cW Bs L m x) (R : RchL L m g0 g1 x) (Z : Siz L m g0 g1 d B) (az : PW.ArtZ m (PW.wid L m) (PW.bord L m) x)
    (k : ∀ H', Fx2 p Bs H H' → WrkB K H' p T.cW Bs L m (PW.setl (PW.bord L m) x m) → Q .non H') : tMeth T.cW "settle" (spSettle K T.cW) [] E tp tNil σ H Q :=
  hp H (Ex.refl H) _ fun H1 e1 => by
    obtain ⟨dx, lp, O, tv, o⟩ := (W.ex e1).ob
    refine ⟨p, dx, _, rfl, o, wf_no (by decide +kernel) (by decide +kernel) (by decide +kernel) (by decide +kernel) (by decide +kernel) (by decide +kernel), ?_⟩
    exact ⟨p, Bs, L, m, g0, g1, d, B, x, rfl, W.ex e1, R, Z, az, fun H4 f W4 => k H4 ((Fx2.of e1).trans f) W4⟩
theorem at_prices (T : Txt w K mg) {σ : L2.St} {H : Hp} {tp tg tn : TE} {E : XK} {Q : VK} {p Bs : Addr} {L : Nat → PW.Line} {m g n : Nat} {x : PW.St} (hp : Ev tp σ H (.ref p)) (hg : Ev tg σ H (.int (g : Nat))) (hn : Ev tn σ H (.int (n : Nat))) (W : WrkB K H p T.cW Bs L m x) (m5 : m ≤ 5) (h2 : g < m + 2) (h3 : n ≤ m)
    (k : ∀ t H', Ex H H' → Q (.ref t) H') : tMeth T.cW "prices" (spPrices K T.cW) [] E tp (tCons tg (tCons tn tNil)) σ H Q :=
  hp H (Ex.refl H) _ fun H1 e1 => by
    obtain ⟨dx, lp, O, tv, o⟩ := (W.ex e1).ob
    refine ⟨p, dx, _, rfl, o, wf_no (by decide +kernel) (by decide +kernel) (by decide +kernel) (by decide +kernel) (by decide +kernel) (by decide +kernel), hg H1 e1 _ fun H2 e2 => hn H2 (e1.trans e2) _ fun H3 e3 => ?_⟩
    exact ⟨p, Bs, L, m, x, g, n, rfl, W.ex ((e1.trans e2).trans e3), m5, h2, h3, fun t H4 e4 => k t H4 (((e1.trans e2).trans e3).trans e4)⟩
theorem at_standing (T : Txt w K mg) {σ : L2.St} {H : Hp} {tp : TE} {E : XK} {Q : VK} {p Bs : Addr} {L : Nat → PW.Line} {m : Nat} {x : PW.St} (hp : Ev tp σ H (.ref p)) (W : WrkB K H p T.cW Bs L m x) (m5 : m ≤ 5) (inj : ∀ r q, r < m → q < m → x.B r = x.B q → r = q)
    (k : ∀ d H', Ex H H' → DictF K H' d (PW.bas x.T m (PW.wid L m) x.B) → Q (.ref d) H') : tMeth T.cW "standing" (spStanding K T.cW) [] E tp tNil σ H Q :=
  hp H (Ex.refl H) _ fun H1 e1 => by
    obtain ⟨dx, lp, O, tv, o⟩ := (W.ex e1).ob
    refine ⟨p, dx, _, rfl, o, wf_no (by decide +kernel) (by decide +kernel) (by decide +kernel) (by decide +kernel) (by decide +kernel) (by decide +kernel), ?_⟩
    exact ⟨p, Bs, L, m, x, rfl, W.ex e1, m5, inj, fun d H4 e4 hd => k d H4 (e1.trans e4) hd⟩
/-- what stands is not great -/
theorem bas_sz {H : Hp} {p C Bs : Addr} {L : Nat → PW.Line} {m : Nat} {x : PW.St} (W : WrkB K H p C Bs L m x) (inj : ∀ r q, r < m → q < m → x.B r = x.B q → r = q) (c : Nat) : Sz 3000 (PW.bas x.T m (PW.wid L m) x.B c) := by
  obtain ⟨lp, O, tv, N, sc, w⟩ := W
  show Sz 3000 (PW.sumN m fun r => if x.B r = c then x.T r (PW.wid L m) else 0)
  by_cases h : ∃ r, r < m ∧ x.B r = c
  · obtain ⟨r, hr, e⟩ := h
    rw [PW.sumN_one hr fun q hq ne => if_neg fun z => ne (inj q r hq hr (z.trans e.symm)), if_pos e, w.eq r (by omega) _ (by omega)]
    have : (N r (PW.wid L m) : Rat) / ((sc : Nat) : Rat) = fr (N r (PW.wid L m)) (sc : Nat) := by
      rw [PW.fr_div (by have := w.s0; omega)]; rfl
    rw [this]
    exact PW.sz_fr (by have := w.s0; omega) (w.z9 r (by omega) _ (by omega)) (by rw [Int.natAbs_natCast]; exact w.s9)
  · rw [PW.sumN_zero fun r hr => if_neg fun z => h ⟨r, hr, z⟩]
    exact PW.sz_0.mono (by omega)
/-- the table's last number -/
theorem ev_last (T : Txt w K mg) {σ : L2.St} {H : Hp} {tp : TE} {p Bs : Addr} {L : Nat → PW.Line} {m : Nat} {x : PW.St} (hp : Ev tp σ H (.ref p)) (W : WrkB K H p T.cW Bs L m x) : ∃ z : Int, (x.T (m + 1) (PW.wid L m) < 0 ↔ z < 0) ∧
    Ev (tOp (rIxL K) (tOp (rIxL K) (tOp (rIxT K) (tFld K tp "tableau") (tC (.int 0))) (tUn (rU fun i => .int (-i)) (tC (.int 1)))) (tUn (rU fun i => .int (-i)) (tC (.int 1)))) σ H (.int z) := by
  obtain ⟨lp, O, tv, N, sc, ⟨dx, h1⟩, h2, h3, h4, h5, h6, ⟨t, R, rfl, ht, _, ps, hR, hpl, hrow⟩, h8, h9, h10, h11⟩ := W
  obtain ⟨u, hu⟩ := get_of_lt (xs := ps) (i := m + 1) (by omega)
  refine ⟨N (m + 1) (PW.wid L m), (sg_lt (h11 (m + 1) (by omega) _ (by omega)) (PW.nat_pos h8)).1, ?_⟩
  exact ev_op (ev_op (ev_op (ev_fld hp h1 T.clW T.nW_tableau wf_tab) ev_c (rv_ixT ht rfl)) ev_neg1 (rv_ixL hR (atI_neg1 (n := m + 1) (by rw [List.length_map]; omega) (at_map_ref hu)))) ev_neg1 (rv_ixL (hrow _ u hu).1 (atI_rowlast _ _))
abbrev N_loose : List Str := ["plan", "frame", "work", "line", "many", "column", "values", "unknown"]
theorem sc_loose : FnScope N_loose ["plan"] (defScope s_loose) := ⟨rfl, rfl, rfl, by decide +kernel, rfl, by decide +kernel, by decide +kernel⟩
def spLoose (K : PySem.W.Frag) : Sp := fun vs H Q _ => ∃ pl U R G p, vs = [.ref pl] ∧ PlnA K H pl U R G p ∧ PlnZ p ∧ ∀ v H', Ex H H' → LooseR K H' v p.r → Q v H'
/-- [upright(line) for line in ..] -/
theorem at_uprights (T : Txt w K mg) {σ : L2.St} {H : Hp} {Q : VK} {E : XK} {D0 : Addr} {L : List PW.Line} {j : Nat} {vs : List Nat} (hL : LinesA K H D0 L) (hlen : L.length ≤ 1000) (hz : ∀ l ∈ L, Sz 3000 l.a ∧ Sz 3000 l.b ∧ Sz 3000 l.c) (hw : ∀ x, wipe ((wipe σ vs).set j (some x)) vs = wipe σ vs) (hj : ∀ x, ((wipe σ vs).set j (some x))[j]? = some (some x))
    (k : ∀ D H2, H D = none → Ex H H2 → LinesA K H2 D (L.map PW.upr) → Q (.ref D) H2) : tLc (iList K (tC (.ref D0))) (gName j) tYes (tCall (spUpright K) [] E (tCons (tVar j) tNil)) vs σ H Q := by
  obtain ⟨xs, x1, x2, x3⟩ := hL
  refine at_c (evc_list (K := K) (fun D i v H => ∃ l, L[i]? = some l ∧ LineN K D H v (PW.upr l)) ev_c (sq_of x1) (by omega) hw (fun D i x H1 hD e1 hl hx => ?_) (fun D i v H H' f hl h => ?_)) fun D H2 ys hD e2 h2 o => ?_
  · obtain ⟨l, hl'⟩ := get_of_lt (xs := L) (i := i) (by have := get_lt hx; omega)
    have ln := x3 i x l hx hl'
    have lnD : LineN K D H1 x l := by
      obtain ⟨t, p, f, wy, rfl, a, b, c, d, _⟩ := ln
      refine ⟨t, p, f, wy, rfl, ex_t e1 a, b.ex e1, c.ex e1, d, fun z => ?_⟩
      obtain ⟨zs, z1, _⟩ := b
      rw [z, hD] at z1
      cases z1
    obtain ⟨s1, s2, s3⟩ := hz l (List.mem_of_getElem? hl')
    intro H2 e2 Q' k'
    obtain ⟨ys, hy⟩ := hl
    refine ⟨_, hj x, x, l, rfl, (lnD.fx (Fx.of e2) hy).a, s1, s2, s3, fun v' H3 e3 hN hA => k' v' H3 e3 ⟨l, hl', hN D ⟨ys, e2 _ _ hy⟩ (lnD.fx (Fx.of e2) hy)⟩⟩
  · obtain ⟨ys, hl⟩ := hl
    obtain ⟨l, h1, h2⟩ := h
    exact ⟨l, h1, h2.fx f hl⟩
  · obtain ⟨o1, o2⟩ := outs_all o
    refine k D H2 hD e2 ⟨ys, h2, by rw [List.length_map]; omega, fun i v l hv hl => ?_⟩
    obtain ⟨l', h1, h3⟩ := o2 i v hv
    rw [List.getElem?_map, h1] at hl
    cases hl
    exact h3
theorem ok_loose (T : Txt w K mg) : FnOk P w K mg base CX0 7 T.loose.f T.loose.fd ["plan"] (spLoose K) := by
  refine T.loose.F.ok sc_loose (fun vs H Q E h => ?_) (fun cdv A outer s H vs Q E hr h => ?_)
  · obtain ⟨pl, U, R, G, pn, rfl, _⟩ := h
    rfl
  obtain ⟨pl, U, R, G, pn, rfl, PA, Z, q⟩ := h
  refine ⟨_, PSs.nox (pss_cons (ps_set (i := 1) sc_loose.nd rfl (Or.inl rfl) (pe_make T.Frame_init.m (ok_Frame_init T) (hr.mono (by decide)) (by rfl) T.gF (b_Frame_init T) .nil pass0 (pa_cons (pe_ix (ix_tupK (K := K) rfl) (pv 0) pe_int (fun _ _ => rfl)) pa_nil)))
 (pss_cons (ps_set (i := 2) sc_loose.nd rfl (Or.inl rfl) (pe_make T.Work_init.m (ok_Work_init T) (hr.mono (by decide)) (by rfl) T.gW (b_Work_init T) .nil pass0 (pa_cons (pe_lc (own := [("line", 3)]) (g := gName 3) (tt := tYes) rfl sc_loose.nd (pi_listK (K := K) rfl (pe_call (ok_lines_of T) (hr.mono (by decide)) rfl T.lines_of.g T.lines_of.F.kp (b_lines_of T) .nil pass0 (pa_cons (pv 0) (pa_cons (pv 1) pa_nil)))) (blkOk_by (N := N_loose) (sc := defScope s_loose) (by decide +kernel))
 (fun _ _ _ _ _ => (pg_name (i := 3) sc_loose.nd rfl (Or.inl rfl))) (fun _ _ _ _ _ => pts_nil) (fun _ _ _ _ _ => (pe_call (ok_upright T) (hr.mono (by decide)) rfl T.upright.g T.upright.F.kp (b_upright T) .nil pass0 (pa_cons (pv 3) pa_nil)))) (pa_cons (pe_meth (pv 1) T.clF T.Frame_numbers.m (ok_Frame_numbers T) (hr.mono (by decide)) (b_Frame_numbers T) .nil pass0 (pa_cons (pe_call (ok_turned T) (hr.mono (by decide)) rfl T.turned.g T.turned.F.kp (b_turned T) .nil pass0 (pa_cons (pv 0) pa_nil)) pa_nil)) pa_nil))))
 (pss_cons (ps_set (i := 4) sc_loose.nd rfl (Or.inl rfl) (pe_callB (call_lenK (K := K) rfl) (by rfl) T.m_len PySem.boot_len (pa_cons (pe_fldK (K := K) rfl (pv 2) rfl) pa_nil)))
 (pss_cons (ps_expr (pe_meth (pv 2) T.clW T.Work_lower.m (ok_Work_lower T) (hr.mono (by decide)) (b_Work_lower T) .nil pass0 (pa_cons (pe_op op_add (pv 4) pe_int) pa_nil)))
 (pss_cons (ps_if (pt_cmpR op_lt (pe_ix (ix_listK (K := K) rfl) (pe_ix (ix_listK (K := K) rfl) (pe_ix (ix_tupK (K := K) rfl) (pe_fldK (K := K) rfl (pv 2) rfl) pe_int (fun _ _ => rfl)) (pe_un un_neg pe_int) (fun _ _ => rfl)) (pe_un un_neg pe_int) (fun _ _ => rfl)) pe_int (nomark _)) (pss_one (ps_ret (pe_tup (pa_cons pe_str (pa_cons (pe_meth (pv 2) T.clW T.Work_prices.m (ok_Work_prices T) (hr.mono (by decide)) (b_Work_prices T) .nil pass0 (pa_cons (pe_op op_add (pv 4) pe_int) (pa_cons (pe_callB (call_lenK (K := K) rfl) (by rfl) T.m_len PySem.boot_len (pa_cons (pe_ix (ix_tupK (K := K) rfl) (pv 0) pe_int (fun _ _ => rfl)) pa_nil)) pa_nil))) pa_nil))))) pss_nil)
 (pss_cons (ps_expr (pe_meth0 (pv 2) T.clW T.Work_settle.m (ok_Work_settle T) (hr.mono (by decide)) (b_Work_settle T) .nil pass0))
 (pss_cons (ps_set (i := 5) sc_loose.nd rfl (Or.inl rfl) (pe_meth (pv 2) T.clW T.Work_lower.m (ok_Work_lower T) (hr.mono (by decide)) (b_Work_lower T) .nil pass0 (pa_cons (pv 4) pa_nil)))
 (pss_cons (ps_set (i := 6) sc_loose.nd rfl (Or.inl rfl) (pe_meth (pv 1) T.clF T.Frame_joined.m (ok_Frame_joined T) (hr.mono (by decide)) (b_Frame_joined T) .nil pass0 (pa_cons (pe_meth0 (pv 2) T.clW T.Work_standing.m (ok_Work_standing T) (hr.mono (by decide)) (b_Work_standing T) .nil pass0) (pa_cons (pe_fldK (K := K) rfl (pv 1) rfl) pa_nil))))
 (pss_cons (ps_if (pt_cmpR op_isNK (pv 5) pe_non (nomark _)) (pss_one (ps_ret (pe_tup (pa_cons pe_str (pa_cons (pv 6) (pa_cons (pe_meth (pv 2) T.clW T.Work_prices.m (ok_Work_prices T) (hr.mono (by decide)) (b_Work_prices T) .nil pass0 (pa_cons (pv 4) (pa_cons (pe_callB (call_lenK (K := K) rfl) (by rfl) T.m_len PySem.boot_len (pa_cons (pe_ix (ix_tupK (K := K) rfl) (pv 0) pe_int (fun _ _ => rfl)) pa_nil)) pa_nil))) pa_nil)))))) pss_nil)
 (pss_one ps_never)))))))))), ?_⟩
  obtain ⟨d, B, S⟩ := Z.siz
  have hm : pn.r.m = pn.rs.length + 2 := by show (pn.rs.map rowL).length + 2 = _; rw [List.length_map]
  have l2 : (pn.ls.map (·.1)).length = 2 := by simp [Z.l2]
  have hlos : pn.ls.map (·.1) = [pn.r.lo0, pn.r.lo1] := by
    have e := ls_two Z.l2
    conv => lhs; rw [e]
    rfl
  have zlo : ∀ lo ∈ pn.ls.map (·.1), Sz 500 lo := fun lo h => by
    obtain ⟨lh, h1, rfl⟩ := List.mem_map.mp h
    exact (Z.zl lh h1).1
  -- frame = Frame(plan[0])
  refine q_make (a_cons (at_v (ev_item (i := 0) (j := 0) (v := .ref U) rfl PA.o rfl) fun H1 e1 => ?_))
  intro fr dxf hfr hdxf nef
  refine ⟨fr, dxf, U, pn.ls, rfl, upd_same, PA.u.ex (e1.trans ((Ex.new hdxf).trans (Ex.new (by rw [upd_ne nef.symm]; exact hfr)))), by rw [Z.l2]; omega, fun H2 f2 FA => ⟨rfl, ?_⟩⟩
  have e12 : Ex H H2 := e1.trans (ex_make hfr hdxf f2)
  show tSeq _ _ _ [some (.ref pl), some (.ref fr), none, none, none, none, none, none] H2
  -- work = Work(..)
  refine q_make (a_cons (lc_at ?_))
  refine ⟨_, rfl, _, rfl, pl, fr, U, R, G, pn.ls, pn.rs, rfl, ex_t e12 PA.o, FA, PA.u.ex e12, PA.r.ex e12, Z.l2, by have := Z.r3; omega, fun row h => ?_, Z.zl, fun D0 H3 hD0 e3 LA => ?_⟩
  · obtain ⟨z1, z2, z3⟩ := Z.pr row h
    exact ⟨z1.len, fun kr hk => ⟨z1.lt kr hk, z2 kr hk⟩, z3⟩
  refine at_uprights T LA (by unfold rawL; rw [List.length_append, List.length_map, List.length_mapIdx, Z.l2]; have := Z.r3; omega) (raw_sz Z) (fun _ => rfl) (fun _ => rfl) fun D1 H4 hD1 e4 LA1 => ?_
  rw [raw_lines Z] at LA1
  have e14 := e12.trans (e3.trans e4)
  have zt : ∀ kr ∈ turnP pn.least pn.ps, Sz 500 kr.2 := turn_sz Z.zg
  refine a_cons (at_numbers T (ps := turnP pn.least pn.ps) (ev_var rfl) (FA.ex (e3.trans e4)) (fun H5 e5 Q' k' => ?_) (by rw [l2]; omega) (by have := Z.pg.turn (l := pn.least) |>.len; omega) (fun kr h => ⟨by rw [l2]; exact Z.pg.turn.lt kr h, (zt kr h).mono (by omega)⟩) fun g H5 hg e5 ng => ?_)
  · refine ⟨_, rfl, pl, U, R, G, pn.least, pn.ps, rfl, ex_t (e14.trans e5) PA.o, (PA.ex (e14.trans e5)).g, by have := Z.pg.len; omega, fun kr h => (Z.zg kr h).mono (by omega), fun p' H6 e6 hp' => ?_⟩
    exact k' p' H6 e6 (.inl hp')
  rw [l2] at ng
  have e15 := e14.trans e5
  intro wk dxw hwk hdxw new
  have ew : Ex H5 (upd (upd H5 dxw (.own wk)) wk (.ins T.cW dxw [])) := (Ex.new hdxw).trans (Ex.new (by rw [upd_ne new.symm]; exact hwk))
  have hln : (fun i => pn.r.lines.getD i PW.Line.nul) = pn.r.ln := rfl
  have hlm : pn.r.lines.length = pn.r.m := by
    unfold PW.PlanR.lines PW.PlanR.m
    simp
  refine ⟨wk, dxw, D1, g, pn.r.lines, pn.r.m, pn.r.g0, pn.r.g1, d, B, rfl, upd_same, LA1.ex (e5.trans ew), hlm, (ng.ex ew).congr fun c hc => ?_, S, fun H6 Bs f6 hBs W => ⟨rfl, ?_⟩⟩
  · match c, hc with
    | 0, _ => rfl
    | 1, _ => rfl
  have hBs5 : H5 Bs = none := fresh_back ew hBs
  have e56 : Ex H5 H6 := ex_make hwk hdxw f6
  rw [hln] at W
  have hm5 := S.m5
  have hL : ∀ {x y : Rat}, 0 ≤ x → 0 ≤ y → ((∀ i, i < pn.r.m → (pn.r.ln i).holds 1 x y) ↔ pn.r.feas (x + pn.r.lo0) (y + pn.r.lo1)) := fun hx hy => PW.lines_iff hx hy
  have hbox := PW.lines_box (P := pn.r)
  have R0 := PW.rchL0 (L := pn.r.ln) (m := pn.r.m) (g0 := pn.r.g0) (g1 := pn.r.g1) fun i hi => PW.ln_c hi
  have hrm : pn.rs.length ≤ pn.r.m := by omega
  have e16 := e15.trans e56
  have w3 := PW.wid_ge (L := pn.r.ln) pn.r.m
  -- many
  obtain ⟨lp6, O6, tv6, N6, sc6, wl6⟩ := id W
  obtain ⟨dx6, ob6⟩ := wl6.ob
  obtain ⟨lx, lx1, lx2, _⟩ := wl6.wy
  refine q_asg (v := .int (pn.r.m : Nat)) (ev_is (ev_lenL (ev_fld (ev_var rfl) ob6 T.clW T.nW_lines wf_lines) (sq_of lx1)) (by rw [lx2])) fun H7 e7 => ?_
  have e57 := e56.trans e7
  show tSeq (tDrop _) _ _ [some (.ref pl), some (.ref fr), some (.ref wk), none, some (.int (pn.r.m : Nat)), none, none, none] H7
  -- work.lower(many + 1)
  refine q_at0 (at_lower T (g := pn.r.m + 1) (ev_var rfl) (ev_op (ev_var rfl) ev_c rv_I0) (W.ex e7) R0 S (by omega) (by omega) fun k1 H8 f8 W8 st8 => ?_)
  have e58 : Ex H5 H8 := fun a o h => f8 a o (ne_of_none h hwk) (ne_of_none h hBs5) (e57 _ _ h)
  have R1 := PW.rch_go (border := PW.bord pn.r.ln pn.r.m) (g := pn.r.m + 1) R0 (by omega) w3 k1
  generalize PW.go pn.r.m (PW.wid pn.r.ln pn.r.m) (PW.bord pn.r.ln pn.r.m) (pn.r.m + 1) _ k1 = x1 at W8 st8 R1
  have he1 := PW.stop1 R1 st8
  obtain ⟨z, hz, evz⟩ := ev_last T (σ := [some (.ref pl), some (.ref fr), some (.ref wk), none, some (.int (pn.r.m : Nat)), none, none, none]) (tp := tVar 2) (ev_var rfl) W8
  obtain ⟨rt, rt1, rt2, _⟩ := PA.r
  have evn : ∀ {σ : L2.St} {H9 : Hp}, Ex H H9 → σ[0]? = some (some (.ref pl)) → Ev (tCB (rLenQ K) (tCons (tOp (rIxT K) (tVar 0) (tC (.int 1))) tNil)) σ H9 (.int (pn.rs.length : Nat)) := fun e h =>
    ev_is (ev_lenT (ev_item (v := .ref R) h (ex_t e PA.o) rfl) (ex_t e rt1)) (by rw [List.length_map, rt2])
  refine q_when (b := decide (z < 0)) (et_test (ev_op evz ev_c rv_I0)) (fun hb H9 e9 => ?_) (fun hb H9 e9 => ?_)
  · have hneg := hz.mpr (of_decide_eq_true hb)
    have e59 := e58.trans e9
    refine s_ret_tup (a_cons (at_v ev_c fun H10 e10 => a_cons (at_prices T (g := pn.r.m + 1) (n := pn.rs.length) (ev_var rfl) (ev_op (ev_var rfl) ev_c rv_I0) (evn ((e15.trans e59).trans e10) rfl) (W8.ex (e9.trans e10)) hm5 (by omega) hrm fun t H11 e11 => ⟨(by show 2 ≤ sizeLine; decide), fun u hu => ?_⟩)))
    refine q _ _ ((((e15.trans e59).trans e10).trans e11).trans (Ex.new hu)) ⟨u, rfl, .inl ⟨_, st_of upd_same, fun x y hf => ?_⟩⟩
    obtain ⟨h1, h2, h3⟩ := PW.feas_iff.mp hf
    refine PW.none_of_missing R1 he1 hneg (p := x - pn.r.lo0) (q := y - pn.r.lo1) (by grind) (by grind) ?_
    refine (hL (by grind) (by grind)).mpr ?_
    have ex : x - pn.r.lo0 + pn.r.lo0 = x := by grind
    have ey : y - pn.r.lo1 + pn.r.lo1 = y := by grind
    rw [ex, ey]; exact hf
  · have hnn : 0 ≤ x1.T (pn.r.m + 1) (PW.wid pn.r.ln pn.r.m) := by
      have : ¬ x1.T (pn.r.m + 1) (PW.wid pn.r.ln pn.r.m) < 0 := fun h => by
        rw [decide_eq_true (hz.mp h)] at hb; cases hb
      grind
    have e59 := e58.trans e9
    have az1 := PW.artz_of R1 hnn
    obtain ⟨R2, az2, ar2⟩ := PW.setl_ok R1 (by omega) w3 az1 pn.r.m (Nat.le_refl _)
    refine q_at0 (at_settle T (ev_var rfl) (W8.ex e9) R1 S az1 fun H10 f10 W10 => ?_)
    have e510 : Ex H5 H10 := fun a o h => f10 a o (ne_of_none h hwk) (ne_of_none h hBs5) (e59 _ _ h)
    generalize PW.setl (PW.bord pn.r.ln pn.r.m) x1 pn.r.m = x2 at W10 R2 az2 ar2
    refine q_at (at_lower T (g := pn.r.m) (ev_var rfl) (ev_var rfl) W10 R2 S (by omega) (by omega) fun k3 H11 f11 W11 st11 => ?_)
    have e511 : Ex H5 H11 := fun a o h => f11 a o (ne_of_none h hwk) (ne_of_none h hBs5) (e510 _ _ h)
    have R3 := PW.rch_go (border := PW.bord pn.r.ln pn.r.m) (g := pn.r.m) R2 (by omega) w3 k3
    obtain ⟨az3, ar3⟩ := PW.art_go (g := pn.r.m) (by omega) R2 w3 az2 ar2 k3
    generalize PW.go pn.r.m (PW.wid pn.r.ln pn.r.m) (PW.bord pn.r.ln pn.r.m) pn.r.m x2 k3 = x3 at W11 st11 R3 az3 ar3
    have en3 := PW.stop2 R3 ar3 hbox st11
    have he3 := PW.ent_none en3
    obtain ⟨b1, b2, b3, b4⟩ := PW.best_of R3 az3 he3
    rw [en3]
    have inj : ∀ r q, r < pn.r.m → q < pn.r.m → x3.B r = x3.B q → r = q := fun r q hr hq e => R3.good.u.inj (by omega) hr hq e
    have FA11 := FA.ex ((e3.trans (e4.trans e5)).trans e511)
    obtain ⟨bl, ql, FL⟩ := id FA11
    obtain ⟨dxf', obf⟩ := FL.ob
    refine q_at ?_
    refine ⟨_, rfl, fr, dxf', _, rfl, obf, ff_no _ _ _ (by decide +kernel) (by decide +kernel) (by decide +kernel), a_cons (at_standing T (ev_var rfl) W11 hm5 inj fun dd H12 e12' hdd => a_cons (at_v (ev_fld (ev_var rfl) (e12' _ _ obf) T.clF T.nF_bases (ff_b _ _ _)) fun H13 e13 => ?_))⟩
    have e1113 := e12'.trans e13
    have FL13 : FrmL K H13 fr bl ql T.cF (pn.ls.map (·.1)) := by
      obtain ⟨⟨dx, x1⟩, ⟨bs, x2, x3, x4⟩, ⟨qs, x5, x6, x7⟩, x8⟩ := FL
      exact ⟨⟨dx, e1113 _ _ x1⟩, ⟨bs, e1113 _ _ x2, x3, fun i v lo a b => (x4 i v lo a b).ex e1113⟩, ⟨qs, e1113 _ _ x5, x6, fun i q a => let ⟨t, n1, n2, n3, b, c⟩ := x7 i q a; ⟨t, n1, n2, n3, e1113 _ _ b, ex_t e1113 c⟩⟩, x8⟩
    refine ⟨fr, dd, bl, ql, pn.ls.map (·.1), _, rfl, FL13, hdd.ex e13, by omega, fun lo h => (zlo lo h).mono (by omega), fun i _ => (bas_sz W11 inj i).mono (by omega), fun tv H14 e14' TF => ?_⟩
    have e1114 := e1113.trans e14'
    have eH14 : Ex H H14 := e15.trans (e511.trans e1114)
    refine q_when (b := true) (et_test (ev_op (ev_var rfl) ev_c rv_isN)) (fun _ H15 e15' => ?_) (fun z => by cases z)
    refine s_ret_tup (a_cons (at_v ev_c fun H16 e16' => a_cons (at_v (ev_var rfl) fun H17 e17 => a_cons (at_prices T (g := pn.r.m) (n := pn.rs.length) (ev_var rfl) (ev_var rfl) (evn (((eH14.trans e15').trans e16').trans e17) rfl) (W11.ex (((e1114.trans e15').trans e16').trans e17)) hm5 (by omega) hrm fun t H18 e18 => ⟨(by show 3 ≤ sizeLine; decide), fun u hu => ?_⟩))))
    have e1418 := (((e15'.trans e16').trans e17).trans e18).trans (Ex.new hu : Ex H18 (upd H18 u (.tup [.str "best", .ref tv, .ref t])))
    have TF' := TF.ex e1418
    rw [hlos] at TF'
    rw [show [pn.r.lo0, pn.r.lo1].length = 2 from rfl] at TF'
    refine q _ _ (eH14.trans e1418) ⟨u, rfl, .inr ⟨tv, .ref t, pn.r.lo0 + PW.bas x3.T pn.r.m (PW.wid pn.r.ln pn.r.m) x3.B 0, pn.r.lo1 + PW.bas x3.T pn.r.m (PW.wid pn.r.ln pn.r.m) x3.B 1, st_of upd_same, ?_, ?_, ?_, ?_, fun x' y' hf => ?_⟩⟩
    · exact TF'.congr2
    · exact (PW.sz_add (zlo pn.r.lo0 (by rw [hlos]; simp)) (bas_sz W11 inj 0)).mono (by omega)
    · exact (PW.sz_add (zlo pn.r.lo1 (by rw [hlos]; simp)) (bas_sz W11 inj 1)).mono (by omega)
    · have := (hL b1 b2).mp b3
      rw [Rat.add_comm pn.r.lo0, Rat.add_comm pn.r.lo1]
      exact this
    · obtain ⟨h1, h2, h3⟩ := PW.feas_iff.mp hf
      have key := b4 (x' - pn.r.lo0) (y' - pn.r.lo1) (by grind) (by grind) ((hL (by grind) (by grind)).mpr (by
        have ex : x' - pn.r.lo0 + pn.r.lo0 = x' := by grind
        have ey : y' - pn.r.lo1 + pn.r.lo1 = y' := by grind
        rw [ex, ey]; exact hf))
      unfold PW.PlanR.goal
      grind
end
end PX

/-! the law's own fractions -/
namespace PX
open PySem PySem.Spec PyProof.Rows L2 Evl
open PW (Sz fr)
/-- top below 2 ^ a, bottom below 2 ^ b -/
def Q2 (a b : Nat) (r : Rat) : Prop := r.num.natAbs < 2 ^ a ∧ r.den < 2 ^ b
theorem Q2.mono {a b c d : Nat} {r : Rat} (h : Q2 a b r) (l : a ≤ c) (k : b ≤ d) : Q2 c d r :=
  ⟨Nat.lt_of_lt_of_le h.1 (Nat.pow_le_pow_right (by omega) l), Nat.lt_of_lt_of_le h.2 (Nat.pow_le_pow_right (by omega) k)⟩
theorem Q2.sz {a b k : Nat} {r : Rat} (h : Q2 a b r) (l : a ≤ k) (m : b ≤ k) : Sz k r := h.mono l m
theorem q2_fr {n d : Int} {a b : Nat} (h0 : 0 < d) (hn : n.natAbs < 2 ^ a) (hd : d.natAbs < 2 ^ b) : Q2 a b (fr n d) := by
  constructor
  · rw [PW.fr_num h0]
    exact Nat.lt_of_le_of_lt (Int.natAbs_ediv_le_natAbs _ _) hn
  · have e := PW.fr_den (n := n) h0
    have l : (d / (Nat.gcd n.natAbs d.natAbs : Nat)).natAbs ≤ d.natAbs := Int.natAbs_ediv_le_natAbs _ _
    rw [← e, Int.natAbs_natCast] at l
    omega
theorem pw_le {i : Int} {a b : Nat} (h : i.natAbs < 2 ^ a) (l : a ≤ b) : i.natAbs < 2 ^ b := Nat.lt_of_lt_of_le h (Nat.pow_le_pow_right (by omega) l)
/-- a fraction that need not be in lowest terms -/
def FrU (K : PySem.W.Frag) (H : Hp) (v : V) (r : Rat) (a b : Nat) : Prop := ∃ p n d, v = .ref p ∧ SqT K H p [.int n, .int d] ∧ 0 < d ∧ n.natAbs < 2 ^ a ∧ d.natAbs < 2 ^ b ∧ r = fr n d
theorem FrU.ex {K : PySem.W.Frag} {H H' : Hp} {v : V} {r : Rat} {a b : Nat} (e : Ex H H') (h : FrU K H v r a b) : FrU K H' v r a b :=
  let ⟨p, n, d, h1, h2, h3⟩ := h; ⟨p, n, d, h1, ex_t e h2, h3⟩
theorem FrU.mono {K : PySem.W.Frag} {H : Hp} {v : V} {r : Rat} {a b c d : Nat} (h : FrU K H v r a b) (l : a ≤ c) (k : b ≤ d) : FrU K H v r c d :=
  let ⟨p, n, m, h1, h2, h3, h4, h5, h6⟩ := h; ⟨p, n, m, h1, h2, h3, pw_le h4 l, pw_le h5 k, h6⟩
theorem FrA.u {K : PySem.W.Frag} {H : Hp} {v : V} {r : Rat} {a b : Nat} (h : FrA K H v r) (z : Q2 a b r) : FrU K H v r a b :=
  let ⟨p, h1, h2⟩ := h; ⟨p, r.num, (r.den : Int), h1, h2, by have := r.den_pos; omega, z.1, z.2, (PW.fr_self r).symm⟩
theorem fr_addU {n d m e : Int} (h1 : 0 < d) (h2 : 0 < e) : fr (n * e + m * d) (d * e) = fr n d + fr m e := by
  rw [PW.fr_div (Int.mul_pos h1 h2), PW.fr_div h1, PW.fr_div h2, Rat.intCast_add, Rat.intCast_mul, Rat.intCast_mul, Rat.intCast_mul]
  have a := PW.int_ne h1
  have b := PW.int_ne h2
  grind
theorem fr_subU {n d m e : Int} (h1 : 0 < d) (h2 : 0 < e) : fr (n * e - m * d) (d * e) = fr n d - fr m e := by
  rw [PW.fr_div (Int.mul_pos h1 h2), PW.fr_div h1, PW.fr_div h2, Rat.intCast_sub, Rat.intCast_mul, Rat.intCast_mul, Rat.intCast_mul]
  have a := PW.int_ne h1
  have b := PW.int_ne h2
  grind
theorem fr_mulU {n d m e : Int} (h1 : 0 < d) (h2 : 0 < e) : fr (n * m) (d * e) = fr n d * fr m e := by
  rw [PW.fr_div (Int.mul_pos h1 h2), PW.fr_div h1, PW.fr_div h2, Rat.intCast_mul, Rat.intCast_mul]
  have a := PW.int_ne h1
  have b := PW.int_ne h2
  grind
theorem fr_negU {n d : Int} (h : 0 < d) : fr (0 - n) d = - fr n d := by
  rw [PW.fr_div h, PW.fr_div h, Rat.intCast_sub]
  have c0 : ((0 : Int) : Rat) = 0 := rfl
  rw [c0]
  have a := PW.int_ne h
  grind
theorem add_lt2 {i j : Int} {k : Nat} (h1 : i.natAbs < 2 ^ k) (h2 : j.natAbs < 2 ^ k) : (i + j).natAbs < 2 ^ (k + 1) := PW.add_lt h1 h2
section
variable {K : PySem.W.Frag} {σ : L2.St} {H : Hp} {ta tb : TE}
/-! whole numbers from nought on -/
theorem ev_divN {a b : Nat} (ha : Ev ta σ H (.int (a : Nat))) (hb : Ev tb σ H (.int (b : Nat))) (h0 : 0 < b) (h9 : b < 2 ^ 100) : Ev (tOp (rI CDivW fun i j => .int (i / j)) ta tb) σ H (.int ((a / b : Nat) : Nat)) :=
  ev_is (ev_op ha hb (rv_I (cdivw (b := 100) (by omega) (by rw [Int.natAbs_natCast]; exact h9)))) (by rw [← Int.natCast_ediv])
theorem ev_modN {a b : Nat} (ha : Ev ta σ H (.int (a : Nat))) (hb : Ev tb σ H (.int (b : Nat))) (h0 : 0 < b) : Ev (tOp (rI (fun _ j => j ≠ 0) fun i j => .int (i.fmod j)) ta tb) σ H (.int ((a % b : Nat) : Nat)) :=
  ev_is (ev_op ha hb (rv_I (by omega))) (by rw [Int.fmod_eq_emod_of_nonneg _ (by omega), ← Int.natCast_emod])
theorem ev_addN {a b : Nat} (ha : Ev ta σ H (.int (a : Nat))) (hb : Ev tb σ H (.int (b : Nat))) : Ev (tOp (rI0 fun i j => .int (i + j)) ta tb) σ H (.int ((a + b : Nat) : Nat)) :=
  ev_is (ev_op ha hb rv_I0) (by rw [← Int.natCast_add])
theorem ev_mulN {a b : Nat} (ha : Ev ta σ H (.int (a : Nat))) (hb : Ev tb σ H (.int (b : Nat))) (h1 : a < 2 ^ 100) (h2 : b < 2 ^ 100) : Ev (tOp (rI CMulW fun i j => .int (i * j)) ta tb) σ H (.int ((a * b : Nat) : Nat)) :=
  ev_is (ev_op ha hb (rv_I (cmulw (a := 100) (b := 100) (by rw [Int.natAbs_natCast]; exact h1) (by rw [Int.natAbs_natCast]; exact h2)))) (by rw [← Int.natCast_mul])
/-- one of some values -/
theorem ev_pick {tl : TA} {xs : List V} {i : Nat} {v : V} (ha : EvA tl σ H xs) (hi : Ev tb σ H (.int (i : Nat))) (hl : xs.length ≤ 100000) (hv : xs[i]? = some v) : Ev (tOp (rIxL K) (tLst tl) tb) σ H v := fun H1 e Q k =>
  ha H1 e _ fun H2 e2 => ⟨Nat.le_trans hl (by decide), fun p hp => hi _ ((e.trans e2).trans (Ex.new hp)) _ fun H3 e3 => by
    have h3 : H3 p = some (.lst xs) := e3 _ _ upd_same
    exact rv_ixL (sq_of h3) (atI_nat hv) H3 (Ex.refl H3) Q fun H4 e4 => k H4 (((e2.trans (Ex.new hp)).trans e3).trans e4)⟩
end
section
variable {P : Program} {w : World} {K : PySem.W.Frag} {mg : Str → Option Value} {base : Heap}
abbrev N__law_at : List Str := ["_law_script", "_law_k"]
theorem sc__law_at : FnScope N__law_at ["_law_script", "_law_k"] (defScope s__law_at) := ⟨rfl, rfl, rfl, by decide +kernel, rfl, by decide +kernel, by decide +kernel⟩
def spLAt (K : PySem.W.Frag) : Sp := fun vs H Q _ => ∃ (a : Addr) (ns : List Int) (k : Nat), vs = [.ref a, .int (k : Nat)] ∧ SqL K H a (ns.map V.int) ∧ ∀ (c : Int) H', Ex H H' → Q (.int c) H'
theorem ok__law_at (T : Txt w K mg) : FnOk P w K mg base CX0 1 T._law_at.f T._law_at.fd ["_law_script", "_law_k"] (spLAt K) := by
  refine T._law_at.F.ok sc__law_at (fun vs H Q E h => ?_) (fun cdv A outer s H vs Q E hr h => ?_)
  · obtain ⟨a, ns, k, rfl, _⟩ := h
    rfl
  obtain ⟨a, ns, k, rfl, ha, q⟩ := h
  refine ⟨_, PSs.nox (pss_cons (ps_if (pt_cmpR op_lt (pv 1) (pe_callB (call_lenK (K := K) rfl) (by rfl) T.m_len PySem.boot_len (pa_cons (pv 0) pa_nil)) (nomark _)) (pss_one (ps_ret (pe_ix (ix_listK (K := K) rfl) (pv 0) (pv 1) (fun _ _ => rfl)))) pss_nil)
 (pss_one (ps_ret pe_int))), ?_⟩
  refine q_when (b := decide ((k : Int) < ((ns.map V.int).length : Nat))) (et_test (ev_op (ev_var rfl) (ev_lenL (ev_var rfl) ha) rv_I0)) (fun hb H1 e1 => ?_) (fun hb H1 e1 => ?_)
  · have hk : k < ns.length := by
      have := of_decide_eq_true hb
      rw [List.length_map] at this
      omega
    exact s_ret (ev_op (ev_var rfl) (ev_var rfl) (rv_ixL (ex_l e1 ha) (atI_nat (by rw [List.getElem?_map, List.getElem?_eq_getElem hk]; rfl)))) fun H2 e2 => q _ H2 (e1.trans e2)
  · exact s_ret ev_c fun H2 e2 => q _ H2 (e1.trans e2)
abbrev N__law_mixed : List Str := ["_law_cell", "_law_k", "_law_number"]
theorem sc__law_mixed : FnScope N__law_mixed ["_law_cell", "_law_k"] (defScope s__law_mixed) := ⟨rfl, rfl, rfl, by decide +kernel, rfl, by decide +kernel, by decide +kernel⟩
def spMixed : Sp := fun vs H Q _ => ∃ (c : Int) (k : Nat), vs = [.int c, .int (k : Nat)] ∧ k ≤ 1000 ∧ ∀ (n : Nat) H', n < 2 ^ 30 → Ex H H' → Q (.int (n : Nat)) H'
theorem ok__law_mixed (T : Txt w K mg) : FnOk P w K mg base CX0 1 T._law_mixed.f T._law_mixed.fd ["_law_cell", "_law_k"] spMixed := by
  refine T._law_mixed.F.ok sc__law_mixed (fun vs H Q E h => ?_) (fun cdv A outer s H vs Q E hr h => ?_)
  · obtain ⟨c, k, rfl, _⟩ := h
    rfl
  obtain ⟨c, k, rfl, hk, q⟩ := h
  refine ⟨_, PSs.nox (pss_cons (ps_set (i := 2) sc__law_mixed.nd rfl (Or.inl rfl) (pe_op op_modN (pe_op op_mulW (pe_op op_add (pe_op op_add (pe_op op_modN (pv 0) pe_int) (pe_op op_mulW (pe_op op_mulW pe_int (pv 1)) (pv 1))) pe_int) pe_int) pe_int))
 (pss_one (ps_ret (pe_op op_fdivW (pe_op op_modN (pe_op op_mulW (pv 2) (pv 2)) pe_int) pe_int)))), ?_⟩
  obtain ⟨c1, hc1, hc2⟩ : ∃ c1 : Nat, c.fmod 2147483647 = (c1 : Int) ∧ c1 < 2147483647 := by
    have h1 := Int.fmod_nonneg_of_pos c (show (0 : Int) < 2147483647 by omega)
    have h2 := Int.fmod_lt_of_pos c (show (0 : Int) < 2147483647 by omega)
    exact ⟨(c.fmod 2147483647).toNat, by omega, by omega⟩
  have hkk : k * k ≤ 1000 * 1000 := Nat.mul_le_mul hk hk
  have hm := Nat.mod_lt ((c1 + 7919 * k * k + 3) * 48271) (show 0 < 2147483647 by omega)
  have h79 : 7919 * k * k = 7919 * (k * k) := Nat.mul_assoc _ _ _
  refine q_asg (v := .int (((c1 + 7919 * k * k + 3) * 48271 % 2147483647 : Nat) : Nat)) (ev_modN (ev_mulN (ev_addN (ev_addN (ev_is (ev_op (ev_var rfl) ev_c (rv_I (by omega))) (by rw [hc1])) (ev_mulN (ev_mulN (a := 7919) ev_c (ev_var rfl) (by omega) (by omega)) (ev_var rfl) (by omega) (by omega))) (b := 3) ev_c) (b := 48271) ev_c (by omega) (by omega)) (b := 2147483647) ev_c (by omega)) fun H1 e1 => ?_
  generalize (c1 + 7919 * k * k + 3) * 48271 % 2147483647 = z at hm
  have hm2 := Nat.mod_lt (z * z) (show 0 < 2147483629 by omega)
  refine s_ret (v := .int ((z * z % 2147483629 / 4 : Nat) : Nat)) (ev_divN (ev_modN (ev_mulN (ev_var rfl) (ev_var rfl) (by omega) (by omega)) (b := 2147483629) ev_c (by omega)) (b := 4) ev_c (by omega) (by omega)) fun H2 e2 => q _ H2 (by omega) (e1.trans e2)
abbrev N__law_lowest : List Str := ["_law_top", "_law_bottom", "_law_one", "_law_other"]
theorem sc__law_lowest : FnScope N__law_lowest ["_law_top", "_law_bottom"] (defScope s__law_lowest) := ⟨rfl, rfl, rfl, by decide +kernel, rfl, by decide +kernel, by decide +kernel⟩
def spLowest (K : PySem.W.Frag) : Sp := fun vs H Q _ => ∃ (n d : Int) (a b : Nat), vs = [.int n, .int d] ∧ 0 < d ∧ n.natAbs < 2 ^ a ∧ d.natAbs < 2 ^ b ∧ b ≤ 8990 ∧ ∀ v H', Ex H H' → FrA K H' v (fr n d) → Q2 a b (fr n d) → Q v H'
theorem ok__law_lowest (T : Txt w K mg) : FnOk P w K mg base CX0 1 T._law_lowest.f T._law_lowest.fd ["_law_top", "_law_bottom"] (spLowest K) := by
  refine T._law_lowest.F.ok sc__law_lowest (fun vs H Q E h => ?_) (fun cdv A outer s H vs Q E hr h => ?_)
  · obtain ⟨n, d, a, b, rfl, _⟩ := h
    rfl
  obtain ⟨n, d, a, b, rfl, d0, hn, hd, hb, q⟩ := h
  refine ⟨_, PSs.nox (pss_cons (ps_par (i := 2) (j := 3) rfl sc__law_lowest.nd rfl rfl (by decide) rfl rfl (pa_cons (pv 1) (pa_cons (pe_callB call_abs (by rfl) T.m_abs (by decide +kernel) (pa_cons (pv 0) pa_nil)) pa_nil)) (by rfl))
 (pss_cons (ps_while PassesOwn.never (pt_cmpR op_gt (pv 3) pe_int (nomark _)) (pss_one (ps_par (i := 2) (j := 3) rfl sc__law_lowest.nd rfl rfl (by decide) rfl rfl (pa_cons (pv 3) (pa_cons (pe_op op_modN (pv 2) (pv 3)) pa_nil)) (by rfl))))
 (pss_one (ps_ret (pe_tup (pa_cons (pe_op op_fdivW (pv 0) (pv 2)) (pa_cons (pe_op op_fdivW (pv 1) (pv 2)) pa_nil))))))), ?_⟩
  have g0 : 0 < Nat.gcd n.natAbs d.natAbs := Nat.gcd_pos_of_pos_right _ (by omega)
  have gl : Nat.gcd n.natAbs d.natAbs ≤ d.natAbs := Nat.le_of_dvd (by omega) (Nat.gcd_dvd_right _ _)
  have a1 : (if n < 0 then -n else n) = (n.natAbs : Int) := by split <;> omega
  refine ⟨_, rfl, _, rfl, _, rfl, _, _, rfl, ?_⟩
  refine ⟨fun m σ H' => H' = H ∧ ∃ (x y : Nat), σ = [some (.int n), some (.int d), some (.int (x : Nat)), some (.int (y : Nat))] ∧ m = y ∧ Nat.gcd x y = Nat.gcd n.natAbs d.natAbs, ⟨n.natAbs, rfl, d.natAbs, n.natAbs, ?_, rfl, Nat.gcd_comm _ _⟩, ?_⟩
  · have a2 : d = (d.natAbs : Int) := by omega
    show [some (V.int n), some (V.int d), some (V.int d), some (V.int (if n < 0 then -n else n))] = _
    rw [a1, ← a2]
  rintro m σ H' ⟨rfl, x, y, rfl, rfl, e⟩
  refine ⟨_, rfl, _, _, rfl, rfl, _, rfl, ?_⟩
  by_cases hm : (0 : Int) < (m : Int)
  · rw [show decide ((0 : Int) < (m : Int)) = true from decide_eq_true hm]
    refine iteT ⟨fun σ' H'' => H'' = H' ∧ σ' = [some (.int n), some (.int d), some (.int (m : Nat)), some (.int (x % m : Nat))], fun σ' H'' hN => ?_, ?_⟩
    · obtain ⟨rfl, rfl⟩ := hN
      refine ⟨x % m, Nat.mod_lt _ (by omega), rfl, m, x % m, rfl, rfl, ?_⟩
      rw [← e, Nat.gcd_comm m, Nat.gcd_comm x, ← Nat.gcd_rec]
    · refine ⟨_, rfl, _, rfl, _, rfl, _, _, rfl, rfl, (by omega), _, _, rfl, rfl, ?_⟩
      have : ((x : Int).fmod (m : Int)) = ((x % m : Nat) : Int) := by
        rw [Int.fmod_eq_emod_of_nonneg _ (by omega)]; rfl
      show [some (V.int n), some (V.int d), some (V.int m), some (V.int ((x : Int).fmod (m : Int)))] = _
      rw [this]
  · rw [show decide ((0 : Int) < (m : Int)) = false from decide_eq_false hm]
    refine iteF ?_
    have : m = 0 := by omega
    subst this
    rw [Nat.gcd_zero_right] at e
    have hx : x = Nat.gcd n.natAbs d.natAbs := e
    subst hx
    have cw : ∀ i : Int, CDivW i (Nat.gcd n.natAbs d.natAbs : Nat) := fun i => cdivw (b := 8990) (by omega) (by
      rw [Int.natAbs_natCast]
      have := pw_le hd hb
      omega)
    refine ⟨_, rfl, _, rfl, _, _, rfl, rfl, cw n, _, rfl, _, rfl, _, _, rfl, rfl, cw d, (by show 2 ≤ sizeLine; decide), fun p np => ?_⟩
    refine q _ _ (Ex.new np) ⟨p, rfl, ?_⟩ (q2_fr d0 hn hd)
    rw [PW.fr_num d0, PW.fr_den d0]
    exact st_of upd_same
theorem evf_low {σ : L2.St} {H : Hp} {ta tb : TE} {E : XK} {n d : Int} {a b : Nat} (ha : Ev ta σ H (.int n)) (hb : Ev tb σ H (.int d)) (d0 : 0 < d) (hn : n.natAbs < 2 ^ a) (hd : d.natAbs < 2 ^ b) (h9 : b ≤ 8990) : EvF K (tCall (spLowest K) [] E (tCons ta (tCons tb tNil))) σ H (fr n d) :=
  evf_call (ea_cons ha (ea_cons hb ea_nil)) fun H1 e Q k E => ⟨n, d, a, b, rfl, d0, hn, hd, h9, fun v H2 e2 f _ => k v H2 e2 f⟩
/-! ### a drawn fraction -/
abbrev N__law_fraction : List Str := ["_law_number", "_law_most", "_law_bottom"]
theorem sc__law_fraction : FnScope N__law_fraction ["_law_number"] (defScope s__law_fraction) := ⟨rfl, rfl, rfl, by decide +kernel, rfl, by decide +kernel, by decide +kernel⟩
def spLFrac (K : PySem.W.Frag) : Sp := fun vs H Q _ => ∃ n : Nat, vs = [.int (n : Nat)] ∧ ∀ v r H', Ex H H' → FrA K H' v r → Q2 30 10 r → Q v H'
theorem ok__law_fraction (T : Txt w K mg) : FnOk P w K mg base CX0 2 T._law_fraction.f T._law_fraction.fd ["_law_number"] (spLFrac K) := by
  refine T._law_fraction.F.ok sc__law_fraction (fun vs H Q E h => ?_) (fun cdv A outer s H vs Q E hr h => ?_)
  · obtain ⟨n, rfl, _⟩ := h
    rfl
  obtain ⟨n, rfl, q⟩ := h
  refine ⟨_, PSs.nox (pss_cons (ps_set (i := 1) sc__law_fraction.nd rfl (Or.inl rfl) (pe_ix (ix_listK (K := K) rfl) (pe_lst (pa_cons pe_int (pa_cons pe_int (pa_cons pe_int (pa_cons pe_int (pa_cons pe_int pa_nil)))))) (pe_op op_modN (pv 0) pe_int) (fun _ _ => rfl)))
 (pss_cons (ps_set (i := 2) sc__law_fraction.nd rfl (Or.inl rfl) (pe_ix (ix_listK (K := K) rfl) (pe_lst (pa_cons pe_int (pa_cons pe_int (pa_cons (pe_op op_add pe_int (pe_op op_modN (pe_op op_fdivW (pv 0) pe_int) pe_int)) (pa_cons (pe_op op_add pe_int (pe_op op_modN (pe_op op_fdivW (pv 0) pe_int) pe_int)) pa_nil))))) (pe_op op_modN (pe_op op_fdivW (pv 0) pe_int) pe_int) (fun _ _ => rfl)))
 (pss_one (ps_ret (pe_call (ok__law_lowest T) (hr.mono (by decide)) rfl T._law_lowest.g T._law_lowest.F.kp (b__law_lowest T) .nil pass0 (pa_cons (pe_op op_sub (pe_op op_modN (pe_op op_fdivW (pv 0) pe_int) (pe_op op_add (pe_op op_mulW pe_int (pv 1)) pe_int)) (pv 1)) (pa_cons (pv 2) pa_nil))))))), ?_⟩
  have m5 := Nat.mod_lt n (show 0 < 5 by omega)
  obtain ⟨x, hx, hx9⟩ : ∃ x : Nat, [V.int 9, V.int 9, V.int 9, V.int 99, V.int 999999999][n % 5]? = some (V.int (x : Nat)) ∧ x ≤ 999999999 := by
    generalize n % 5 = i at m5
    have : i = 0 ∨ i = 1 ∨ i = 2 ∨ i = 3 ∨ i = 4 := by omega
    rcases this with rfl | rfl | rfl | rfl | rfl
    · exact ⟨9, rfl, by omega⟩
    · exact ⟨9, rfl, by omega⟩
    · exact ⟨9, rfl, by omega⟩
    · exact ⟨99, rfl, by omega⟩
    · exact ⟨999999999, rfl, by omega⟩
  refine q_asg (v := .int (x : Nat)) (ev_pick (ea_cons ev_c (ea_cons ev_c (ea_cons ev_c (ea_cons ev_c (ea_cons ev_c ea_nil))))) (ev_modN (ev_var rfl) (b := 5) ev_c (by omega)) (by decide) hx) fun H1 e1 => ?_
  have m4 := Nat.mod_lt (n / 5) (show 0 < 4 by omega)
  obtain ⟨y, hy, hy0, hy9⟩ : ∃ y : Nat, [V.int 1, V.int 1, V.int ((1 + n / 7 % 9 : Nat) : Nat), V.int ((1 + n / 11 % 999 : Nat) : Nat)][n / 5 % 4]? = some (V.int (y : Nat)) ∧ 0 < y ∧ y ≤ 999 := by
    generalize n / 5 % 4 = i at m4
    have a := Nat.mod_lt (n / 7) (show 0 < 9 by omega)
    have b := Nat.mod_lt (n / 11) (show 0 < 999 by omega)
    have : i = 0 ∨ i = 1 ∨ i = 2 ∨ i = 3 := by omega
    rcases this with rfl | rfl | rfl | rfl
    · exact ⟨1, rfl, by omega, by omega⟩
    · exact ⟨1, rfl, by omega, by omega⟩
    · exact ⟨_, rfl, by omega, by omega⟩
    · exact ⟨_, rfl, by omega, by omega⟩
  refine q_asg (v := .int (y : Nat)) (ev_pick (ea_cons ev_c (ea_cons ev_c (ea_cons (ev_addN (a := 1) ev_c (ev_modN (ev_divN (ev_var rfl) (b := 7) ev_c (by omega) (by omega)) (b := 9) ev_c (by omega))) (ea_cons (ev_addN (a := 1) ev_c (ev_modN (ev_divN (ev_var rfl) (b := 11) ev_c (by omega) (by omega)) (b := 999) ev_c (by omega))) ea_nil)))) (ev_modN (ev_divN (ev_var rfl) (b := 5) ev_c (by omega) (by omega)) (b := 4) ev_c (by omega)) (by show 4 ≤ 100000; decide) hy) fun H2 e2 => ?_
  have mz := Nat.mod_lt (n / 20) (show 0 < 2 * x + 1 by omega)
  generalize hzz : n / 20 % (2 * x + 1) = z at mz
  have hn : (((z : Nat) : Int) - (x : Nat)).natAbs < 2 ^ 30 := by omega
  have hd : ((y : Nat) : Int).natAbs < 2 ^ 10 := by omega
  have y0 : (0 : Int) < (y : Nat) := by omega
  refine s_retF (evf_low (n := ((z : Nat) : Int) - (x : Nat)) (d := (y : Nat)) (a := 30) (b := 10) (ev_op (ev_is (ev_modN (ev_divN (ev_var rfl) (b := 20) ev_c (by omega) (by omega)) (ev_addN (ev_mulN (a := 2) ev_c (ev_var rfl) (by omega) (by omega)) (b := 1) ev_c) (by omega)) (by rw [hzz])) (ev_var rfl) rv_I0) (ev_var rfl) y0 hn hd (by omega)) fun v H3 e3 f3 => q v _ H3 ((e1.trans e2).trans e3) f3 (q2_fr y0 hn hd)
/-! ### plus, times, minus, order, over -/
/-- what takes two fractions -/
def spU (K : PySem.W.Frag) (f : Rat → Rat → Rat) (na : Nat → Nat → Nat → Nat → Nat → Nat → Prop) : Sp := fun vs H Q _ => ∃ x y r s a b c d k l, vs = [x, y] ∧ FrU K H x r a b ∧ FrU K H y s c d ∧ a ≤ 100000 ∧ b ≤ 100000 ∧ c ≤ 100000 ∧ d ≤ 100000 ∧ na a b c d k l ∧ ∀ v H', Ex H H' → FrU K H' v (f r s) k l → Q v H'
abbrev spLPlus (K : PySem.W.Frag) : Sp := spU K (fun r s => r + s) fun a b c d k l => a + d + 1 ≤ k ∧ b + c + 1 ≤ k ∧ b + d ≤ l
abbrev spLMinus (K : PySem.W.Frag) : Sp := spU K (fun r s => r - s) fun a b c d k l => a + d + 1 ≤ k ∧ b + c + 1 ≤ k ∧ b + d ≤ l
abbrev spLTimes (K : PySem.W.Frag) : Sp := spU K (fun r s => r * s) fun a b c d k l => a + c ≤ k ∧ b + d ≤ l
theorem wm {i j : Int} {a b : Nat} (h1 : i.natAbs < 2 ^ a) (h2 : j.natAbs < 2 ^ b) (ha : a ≤ 100000) (hb : b ≤ 100000) : CMulW i j := cmulw h1 h2 (by omega)
abbrev N__law_plus : List Str := ["_law_one", "_law_other"]
theorem sc__law_plus : FnScope N__law_plus ["_law_one", "_law_other"] (defScope s__law_plus) := ⟨rfl, rfl, rfl, by decide +kernel, rfl, by decide +kernel, by decide +kernel⟩
theorem ok__law_plus (T : Txt w K mg) : FnOk P w K mg base CX0 1 T._law_plus.f T._law_plus.fd ["_law_one", "_law_other"] (spLPlus K) := by
  refine T._law_plus.F.ok sc__law_plus (fun vs H Q E h => ?_) (fun cdv A outer s H vs Q E hr h => ?_)
  · obtain ⟨x, y, r, s, a, b, c, d, k, l, rfl, _⟩ := h
    rfl
  obtain ⟨x, y, r, s, a, b, c, d, k, l, rfl, ⟨p, n, t, rfl, h1, h2, h3, h4, rfl⟩, ⟨p', n', t', rfl, g1, g2, g3, g4, rfl⟩, z1, z2, z3, z4, ⟨w1, w2, w3⟩, q⟩ := h
  refine ⟨_, PSs.nox (pss_one (ps_ret (pe_tup (pa_cons (pe_op op_add (pe_op op_mulW (pe_ix (ix_tupK (K := K) rfl) (pv 0) pe_int (fun _ _ => rfl)) (pe_ix (ix_tupK (K := K) rfl) (pv 1) pe_int (fun _ _ => rfl))) (pe_op op_mulW (pe_ix (ix_tupK (K := K) rfl) (pv 1) pe_int (fun _ _ => rfl)) (pe_ix (ix_tupK (K := K) rfl) (pv 0) pe_int (fun _ _ => rfl)))) (pa_cons (pe_op op_mulW (pe_ix (ix_tupK (K := K) rfl) (pv 0) pe_int (fun _ _ => rfl)) (pe_ix (ix_tupK (K := K) rfl) (pv 1) pe_int (fun _ _ => rfl))) pa_nil))))), ?_⟩
  refine s_ret_tup (a_cons (at_v (ev_op (ev_op (ev_item rfl h1 rfl) (ev_item rfl g1 rfl) (rv_I (wm h3 g4 z1 z4))) (ev_op (ev_item rfl g1 rfl) (ev_item rfl h1 rfl) (rv_I (wm g3 h4 z3 z2))) rv_I0) fun H1 e1 => a_cons (at_v (ev_op (ev_item rfl (ex_t e1 h1) rfl) (ev_item rfl (ex_t e1 g1) rfl) (rv_I (wm h4 g4 z2 z4))) fun H2 e2 => ⟨(by show 2 ≤ sizeLine; decide), fun u hu => ?_⟩)))
  refine q _ _ ((e1.trans e2).trans (Ex.new hu)) ⟨u, _, _, rfl, st_of upd_same, Int.mul_pos h2 g2, ?_, pw_le (PW.mul_lt h4 g4) (by omega), (fr_addU h2 g2).symm⟩
  exact pw_le (PW.add_lt (k := k - 1) (pw_le (PW.mul_lt h3 g4) (by omega)) (pw_le (PW.mul_lt g3 h4) (by omega))) (by omega)
abbrev N__law_minus : List Str := ["_law_one", "_law_other"]
theorem sc__law_minus : FnScope N__law_minus ["_law_one", "_law_other"] (defScope s__law_minus) := ⟨rfl, rfl, rfl, by decide +kernel, rfl, by decide +kernel, by decide +kernel⟩
theorem ok__law_minus (T : Txt w K mg) : FnOk P w K mg base CX0 1 T._law_minus.f T._law_minus.fd ["_law_one", "_law_other"] (spLMinus K) := by
  refine T._law_minus.F.ok sc__law_minus (fun vs H Q E h => ?_) (fun cdv A outer s H vs Q E hr h => ?_)
  · obtain ⟨x, y, r, s, a, b, c, d, k, l, rfl, _⟩ := h
    rfl
  obtain ⟨x, y, r, s, a, b, c, d, k, l, rfl, ⟨p, n, t, rfl, h1, h2, h3, h4, rfl⟩, ⟨p', n', t', rfl, g1, g2, g3, g4, rfl⟩, z1, z2, z3, z4, ⟨w1, w2, w3⟩, q⟩ := h
  refine ⟨_, PSs.nox (pss_one (ps_ret (pe_tup (pa_cons (pe_op op_sub (pe_op op_mulW (pe_ix (ix_tupK (K := K) rfl) (pv 0) pe_int (fun _ _ => rfl)) (pe_ix (ix_tupK (K := K) rfl) (pv 1) pe_int (fun _ _ => rfl))) (pe_op op_mulW (pe_ix (ix_tupK (K := K) rfl) (pv 1) pe_int (fun _ _ => rfl)) (pe_ix (ix_tupK (K := K) rfl) (pv 0) pe_int (fun _ _ => rfl)))) (pa_cons (pe_op op_mulW (pe_ix (ix_tupK (K := K) rfl) (pv 0) pe_int (fun _ _ => rfl)) (pe_ix (ix_tupK (K := K) rfl) (pv 1) pe_int (fun _ _ => rfl))) pa_nil))))), ?_⟩
  refine s_ret_tup (a_cons (at_v (ev_op (ev_op (ev_item rfl h1 rfl) (ev_item rfl g1 rfl) (rv_I (wm h3 g4 z1 z4))) (ev_op (ev_item rfl g1 rfl) (ev_item rfl h1 rfl) (rv_I (wm g3 h4 z3 z2))) rv_I0) fun H1 e1 => a_cons (at_v (ev_op (ev_item rfl (ex_t e1 h1) rfl) (ev_item rfl (ex_t e1 g1) rfl) (rv_I (wm h4 g4 z2 z4))) fun H2 e2 => ⟨(by show 2 ≤ sizeLine; decide), fun u hu => ?_⟩)))
  refine q _ _ ((e1.trans e2).trans (Ex.new hu)) ⟨u, _, _, rfl, st_of upd_same, Int.mul_pos h2 g2, ?_, pw_le (PW.mul_lt h4 g4) (by omega), (fr_subU h2 g2).symm⟩
  exact pw_le (PW.sub_lt (k := k - 1) (pw_le (PW.mul_lt h3 g4) (by omega)) (pw_le (PW.mul_lt g3 h4) (by omega))) (by omega)
abbrev N__law_times : List Str := ["_law_one", "_law_other"]
theorem sc__law_times : FnScope N__law_times ["_law_one", "_law_other"] (defScope s__law_times) := ⟨rfl, rfl, rfl, by decide +kernel, rfl, by decide +kernel, by decide +kernel⟩
theorem ok__law_times (T : Txt w K mg) : FnOk P w K mg base CX0 1 T._law_times.f T._law_times.fd ["_law_one", "_law_other"] (spLTimes K) := by
  refine T._law_times.F.ok sc__law_times (fun vs H Q E h => ?_) (fun cdv A outer s H vs Q E hr h => ?_)
  · obtain ⟨x, y, r, s, a, b, c, d, k, l, rfl, _⟩ := h
    rfl
  obtain ⟨x, y, r, s, a, b, c, d, k, l, rfl, ⟨p, n, t, rfl, h1, h2, h3, h4, rfl⟩, ⟨p', n', t', rfl, g1, g2, g3, g4, rfl⟩, z1, z2, z3, z4, ⟨w1, w2⟩, q⟩ := h
  refine ⟨_, PSs.nox (pss_one (ps_ret (pe_tup (pa_cons (pe_op op_mulW (pe_ix (ix_tupK (K := K) rfl) (pv 0) pe_int (fun _ _ => rfl)) (pe_ix (ix_tupK (K := K) rfl) (pv 1) pe_int (fun _ _ => rfl))) (pa_cons (pe_op op_mulW (pe_ix (ix_tupK (K := K) rfl) (pv 0) pe_int (fun _ _ => rfl)) (pe_ix (ix_tupK (K := K) rfl) (pv 1) pe_int (fun _ _ => rfl))) pa_nil))))), ?_⟩
  refine s_ret_tup (a_cons (at_v (ev_op (ev_item rfl h1 rfl) (ev_item rfl g1 rfl) (rv_I (wm h3 g3 z1 z3))) fun H1 e1 => a_cons (at_v (ev_op (ev_item rfl (ex_t e1 h1) rfl) (ev_item rfl (ex_t e1 g1) rfl) (rv_I (wm h4 g4 z2 z4))) fun H2 e2 => ⟨(by show 2 ≤ sizeLine; decide), fun u hu => ?_⟩)))
  exact q _ _ ((e1.trans e2).trans (Ex.new hu)) ⟨u, _, _, rfl, st_of upd_same, Int.mul_pos h2 g2, pw_le (PW.mul_lt h3 g3) (by omega), pw_le (PW.mul_lt h4 g4) (by omega), (fr_mulU h2 g2).symm⟩
abbrev N__law_order : List Str := ["_law_one", "_law_other"]
theorem sc__law_order : FnScope N__law_order ["_law_one", "_law_other"] (defScope s__law_order) := ⟨rfl, rfl, rfl, by decide +kernel, rfl, by decide +kernel, by decide +kernel⟩
def spLOrder (K : PySem.W.Frag) : Sp := fun vs H Q _ => ∃ x y r s a b c d, vs = [x, y] ∧ FrU K H x r a b ∧ FrU K H y s c d ∧ a ≤ 100000 ∧ b ≤ 100000 ∧ c ≤ 100000 ∧ d ≤ 100000 ∧ ∀ (z : Int) H', Ex H H' → (z < 0 ↔ r < s) → (z = 0 ↔ r = s) → Q (.int z) H'
theorem ord_iff {n t n' t' : Int} (h : 0 < t) (g : 0 < t') : (n * t' - n' * t < 0 ↔ fr n t < fr n' t') ∧ (n * t' - n' * t = 0 ↔ fr n t = fr n' t') := by
  have e : fr n t - fr n' t' = ((n * t' - n' * t : Int) : Rat) / ((t * t' : Int) : Rat) := by
    rw [← fr_subU h g, PW.fr_div (Int.mul_pos h g)]
  have hq : (0 : Rat) < ((t * t' : Int) : Rat) := PW.int_pos (Int.mul_pos h g)
  obtain ⟨h1, h2, _⟩ := sg_lt e hq
  rw [← h1, ← h2]
  constructor
  · constructor <;> intro z <;> grind
  · constructor <;> intro z <;> grind
theorem ok__law_order (T : Txt w K mg) : FnOk P w K mg base CX0 1 T._law_order.f T._law_order.fd ["_law_one", "_law_other"] (spLOrder K) := by
  refine T._law_order.F.ok sc__law_order (fun vs H Q E h => ?_) (fun cdv A outer s H vs Q E hr h => ?_)
  · obtain ⟨x, y, r, s, a, b, c, d, rfl, _⟩ := h
    rfl
  obtain ⟨x, y, r, s, a, b, c, d, rfl, ⟨p, n, t, rfl, h1, h2, h3, h4, rfl⟩, ⟨p', n', t', rfl, g1, g2, g3, g4, rfl⟩, z1, z2, z3, z4, q⟩ := h
  refine ⟨_, PSs.nox (pss_one (ps_ret (pe_op op_sub (pe_op op_mulW (pe_ix (ix_tupK (K := K) rfl) (pv 0) pe_int (fun _ _ => rfl)) (pe_ix (ix_tupK (K := K) rfl) (pv 1) pe_int (fun _ _ => rfl))) (pe_op op_mulW (pe_ix (ix_tupK (K := K) rfl) (pv 1) pe_int (fun _ _ => rfl)) (pe_ix (ix_tupK (K := K) rfl) (pv 0) pe_int (fun _ _ => rfl)))))), ?_⟩
  refine s_ret (ev_op (ev_op (ev_item rfl h1 rfl) (ev_item rfl g1 rfl) (rv_I (wm h3 g4 z1 z4))) (ev_op (ev_item rfl g1 rfl) (ev_item rfl h1 rfl) (rv_I (wm g3 h4 z3 z2))) rv_I0) fun H1 e1 => ?_
  exact q _ H1 e1 (ord_iff h2 g2).1 (ord_iff h2 g2).2
end
end PX

/-! the law's worth, pairs, bounds -/
namespace PX
open PySem PySem.Spec PyProof.Rows L2 Evl
open PW (Sz fr)
def EvU2 (K : PySem.W.Frag) (te : TE) (σ : L2.St) (H : Hp) (r : Rat) (a b : Nat) : Prop := ∀ H1, Ex H H1 → ∀ Q : VK, (∀ v H2, Ex H1 H2 → FrU K H2 v r a b → Q v H2) → te σ H1 Q
section
variable {K : PySem.W.Frag} {σ : L2.St} {H : Hp} {ta tb te : TE} {r s : Rat} {a b c d k l : Nat} {D : Ends} {tz : TS}
theorem eu_of {v : V} (h : Ev te σ H v) (f : FrU K H v r a b) : EvU2 K te σ H r a b := fun H1 e Q q => h H1 e Q fun H2 e2 => q v H2 e2 (f.ex (e.trans e2))
theorem eu_f (h : EvF K te σ H r) (z : Q2 a b r) : EvU2 K te σ H r a b := fun H1 e Q q => h H1 e Q fun v H2 e2 f => q v H2 e2 (f.u z)
theorem eu_var {i : Nat} {v : V} (h : σ[i]? = some (some v)) (f : FrU K H v r a b) : EvU2 K (tVar i) σ H r a b := eu_of (ev_var h) f
theorem eu_2 {f : Rat → Rat → Rat} {na : Nat → Nat → Nat → Nat → Nat → Nat → Prop} {E : XK} (ha : EvU2 K ta σ H r a b) (hb : EvU2 K tb σ H s c d) (n : na a b c d k l) (z1 : a ≤ 100000) (z2 : b ≤ 100000) (z3 : c ≤ 100000) (z4 : d ≤ 100000) :
    EvU2 K (tCall (spU K f na) [] E (tCons ta (tCons tb tNil))) σ H (f r s) k l := fun H1 e Q q =>
  ha H1 e _ fun x H2 e2 fx => hb H2 (e.trans e2) _ fun y H3 e3 fy => ⟨x, y, r, s, a, b, c, d, k, l, rfl, fx.ex e3, fy, z1, z2, z3, z4, n, fun v H4 e4 f => q v H4 ((e2.trans e3).trans e4) f⟩
theorem eu_tup {n m : Int} (ha : Ev ta σ H (.int n)) (hb : Ev tb σ H (.int m)) (h0 : 0 < m) (h1 : n.natAbs < 2 ^ a) (h2 : m.natAbs < 2 ^ b) : EvU2 K (tTup (tCons ta (tCons tb tNil))) σ H (fr n m) a b := fun H1 e Q q =>
  Evl.eu_tup (ea_cons ha (ea_cons hb ea_nil)) (by show 2 ≤ 100000; decide) H1 e Q fun p H2 hp e2 h => q (.ref p) H2 e2 ⟨p, n, m, rfl, st_of h, h0, h1, h2, rfl⟩
theorem q_asgU2 {i : Nat} (h : EvU2 K te σ H r a b) (q : ∀ v H1, Ex H H1 → FrU K H1 v r a b → tz D (σ.set i (some v)) H1) : tSeq (tAsg te (gName i)) tz D σ H := h H (Ex.refl H) _ q
theorem s_asgU2 {i : Nat} (h : EvU2 K te σ H r a b) (q : ∀ v H1, Ex H H1 → FrU K H1 v r a b → D.nx (σ.set i (some v)) H1) : tAsg te (gName i) D σ H := h H (Ex.refl H) _ q
theorem s_retU2 (h : EvU2 K te σ H r a b) (q : ∀ v H1, Ex H H1 → FrU K H1 v r a b → D.rt v H1) : tRet te D σ H := h H (Ex.refl H) _ q
/-- what an order tells -/
def OrdR (r s : Rat) (v : V) (_ : Hp) : Prop := ∃ z : Int, v = .int z ∧ (z < 0 ↔ r < s) ∧ (z = 0 ↔ r = s)
theorem er_order {E : XK} (ha : EvU2 K ta σ H r a b) (hb : EvU2 K tb σ H s c d) (z1 : a ≤ 100000) (z2 : b ≤ 100000) (z3 : c ≤ 100000) (z4 : d ≤ 100000) : EvR (tCall (spLOrder K) [] E (tCons ta (tCons tb tNil))) σ H (OrdR r s) := fun H1 e Q q =>
  ha H1 e _ fun x H2 e2 fx => hb H2 (e.trans e2) _ fun y H3 e3 fy => ⟨x, y, r, s, a, b, c, d, rfl, fx.ex e3, fy, z1, z2, z3, z4, fun z H4 e4 h1 h2 => q (.int z) H4 ((e2.trans e3).trans e4) ⟨z, rfl, h1, h2⟩⟩
end
/-- what pairs come to at values -/
def atF (ps : List (Nat × Rat)) (f : Nat → Rat) : Rat := ps.foldl (fun x kr => x + kr.2 * f kr.1) 0
theorem atF_take {ps : List (Nat × Rat)} {f : Nat → Rat} {i : Nat} {kr : Nat × Rat} (h : ps[i]? = some kr) : atF (ps.take (i + 1)) f = atF (ps.take i) f + kr.2 * f kr.1 := by
  unfold atF
  rw [List.take_add_one, h]
  simp
/-- two values -/
def ValsA (K : PySem.W.Frag) (H : Hp) (va : Addr) (f : Nat → Rat) (qa qb : Nat) : Prop := ∃ xs, (SqT K H va xs ∨ SqL K H va xs) ∧ xs.length = 2 ∧ ∀ (i : Nat) v, xs[i]? = some v → FrA K H v (f i) ∧ Q2 qa qb (f i)
theorem ValsA.ex {K : PySem.W.Frag} {H H' : Hp} {va : Addr} {f : Nat → Rat} {qa qb : Nat} (e : Ex H H') (h : ValsA K H va f qa qb) : ValsA K H' va f qa qb :=
  let ⟨xs, a, b, c⟩ := h; ⟨xs, a.elim (fun t => .inl (ex_t e t)) (fun t => .inr (ex_l e t)), b, fun i v hv => ⟨(c i v hv).1.ex e, (c i v hv).2⟩⟩
section
variable {P : Program} {w : World} {K : PySem.W.Frag} {mg : Str → Option Value} {base : Heap}
abbrev N__law_over : List Str := ["_law_one", "_law_other"]
theorem sc__law_over : FnScope N__law_over ["_law_one", "_law_other"] (defScope s__law_over) := ⟨rfl, rfl, rfl, by decide +kernel, rfl, by decide +kernel, by decide +kernel⟩
def spLOver (K : PySem.W.Frag) : Sp := fun vs H Q _ => ∃ x y r s a b c d, vs = [x, y] ∧ FrU K H x r a b ∧ FrU K H y s c d ∧ s ≠ 0 ∧ a ≤ 10000 ∧ b ≤ 10000 ∧ c ≤ 10000 ∧ d ≤ 10000 ∧ ∀ v H', Ex H H' → FrU K H' v (r / s) (a + d) (b + c) → Q v H'
theorem fr_neg2 {n d : Int} (h : 0 < -d) : fr (-n) (-d) = (n : Rat) / (d : Rat) := by
  rw [PW.fr_div h, Rat.intCast_neg, Rat.intCast_neg]
  have : (d : Rat) ≠ 0 := fun z => by
    have := Rat.intCast_inj.mp (z.trans (show (0 : Rat) = ((0 : Int) : Rat) from rfl))
    omega
  grind
theorem fr_zero {n d : Int} (h : 0 < d) (z : fr n d ≠ 0) : n ≠ 0 := fun e => z (by
  rw [e, PW.fr_div h]
  show ((0 : Int) : Rat) / _ = 0
  have : ((0 : Int) : Rat) = 0 := rfl
  rw [this]; grind)
theorem fr_divU {n d m e : Int} (h1 : 0 < d) (h2 : 0 < e) (hm : m ≠ 0) : fr n d / fr m e = ((n * e : Int) : Rat) / ((d * m : Int) : Rat) := by
  rw [PW.fr_div h1, PW.fr_div h2, Rat.intCast_mul, Rat.intCast_mul]
  have a := PW.int_ne h1
  have b := PW.int_ne h2
  have c : (m : Rat) ≠ 0 := fun z => hm (Rat.intCast_inj.mp (z.trans (show (0 : Rat) = ((0 : Int) : Rat) from rfl)))
  grind
theorem ok__law_over (T : Txt w K mg) : FnOk P w K mg base CX0 1 T._law_over.f T._law_over.fd ["_law_one", "_law_other"] (spLOver K) := by
  refine T._law_over.F.ok sc__law_over (fun vs H Q E h => ?_) (fun cdv A outer s H vs Q E hr h => ?_)
  · obtain ⟨x, y, r, s, a, b, c, d, rfl, _⟩ := h
    rfl
  obtain ⟨x, y, r, s, a, b, c, d, rfl, ⟨p, n, t, rfl, h1, h2, h3, h4, rfl⟩, ⟨p', n', t', rfl, g1, g2, g3, g4, rfl⟩, nz, z1, z2, z3, z4, q⟩ := h
  have n0 := fr_zero g2 nz
  refine ⟨_, PSs.nox (pss_cons (ps_if (pt_cmpR op_lt (pe_ix (ix_tupK (K := K) rfl) (pv 1) pe_int (fun _ _ => rfl)) pe_int (nomark _)) (pss_one (ps_ret (pe_tup (pa_cons (pe_op op_sub pe_int (pe_op op_mulW (pe_ix (ix_tupK (K := K) rfl) (pv 0) pe_int (fun _ _ => rfl)) (pe_ix (ix_tupK (K := K) rfl) (pv 1) pe_int (fun _ _ => rfl)))) (pa_cons (pe_op op_sub pe_int (pe_op op_mulW (pe_ix (ix_tupK (K := K) rfl) (pv 0) pe_int (fun _ _ => rfl)) (pe_ix (ix_tupK (K := K) rfl) (pv 1) pe_int (fun _ _ => rfl)))) pa_nil))))) pss_nil)
 (pss_one (ps_ret (pe_tup (pa_cons (pe_op op_mulW (pe_ix (ix_tupK (K := K) rfl) (pv 0) pe_int (fun _ _ => rfl)) (pe_ix (ix_tupK (K := K) rfl) (pv 1) pe_int (fun _ _ => rfl))) (pa_cons (pe_op op_mulW (pe_ix (ix_tupK (K := K) rfl) (pv 0) pe_int (fun _ _ => rfl)) (pe_ix (ix_tupK (K := K) rfl) (pv 1) pe_int (fun _ _ => rfl))) pa_nil)))))), ?_⟩
  refine q_when (b := decide (n' < 0)) (et_test (ev_op (ev_item rfl g1 rfl) ev_c rv_I0)) (fun hb H1 e1 => ?_) (fun hb H1 e1 => ?_)
  · have hneg := of_decide_eq_true hb
    have hp : 0 < -(t * n') := by
      have := Int.mul_pos h2 (show 0 < -n' by omega)
      rw [Int.mul_neg] at this
      exact this
    refine s_ret_tup (a_cons (at_v (ev_op ev_c (ev_op (ev_item rfl (ex_t e1 h1) rfl) (ev_item rfl (ex_t e1 g1) rfl) (rv_I (wm h3 g4 (by omega) (by omega)))) rv_I0) fun H2 e2 => a_cons (at_v (ev_op ev_c (ev_op (ev_item rfl (ex_t (e1.trans e2) h1) rfl) (ev_item rfl (ex_t (e1.trans e2) g1) rfl) (rv_I (wm h4 g3 (by omega) (by omega)))) rv_I0) fun H3 e3 => ⟨(by show 2 ≤ sizeLine; decide), fun u hu => ?_⟩)))
    refine q _ _ (((e1.trans e2).trans e3).trans (Ex.new hu)) ⟨u, _, _, rfl, st_of upd_same, by omega, ?_, ?_, ?_⟩
    · have := PW.mul_lt h3 g4
      omega
    · have := PW.mul_lt h4 g3
      omega
    · rw [fr_divU h2 g2 n0, Int.zero_sub, Int.zero_sub, fr_neg2 hp]
  · have hpos : 0 < n' := by
      by_cases z : n' < 0
      · rw [decide_eq_true z] at hb; cases hb
      · omega
    refine s_ret_tup (a_cons (at_v (ev_op (ev_item rfl (ex_t e1 h1) rfl) (ev_item rfl (ex_t e1 g1) rfl) (rv_I (wm h3 g4 (by omega) (by omega)))) fun H2 e2 => a_cons (at_v (ev_op (ev_item rfl (ex_t (e1.trans e2) h1) rfl) (ev_item rfl (ex_t (e1.trans e2) g1) rfl) (rv_I (wm h4 g3 (by omega) (by omega)))) fun H3 e3 => ⟨(by show 2 ≤ sizeLine; decide), fun u hu => ?_⟩)))
    refine q _ _ (((e1.trans e2).trans e3).trans (Ex.new hu)) ⟨u, _, _, rfl, st_of upd_same, Int.mul_pos h2 hpos, PW.mul_lt h3 g4, PW.mul_lt h4 g3, ?_⟩
    rw [fr_divU h2 g2 n0, PW.fr_div (Int.mul_pos h2 hpos)]
abbrev N__law_worth : List Str := ["_law_constant", "_law_pairs_here", "_law_values", "_law_found", "_law_number", "_law_part"]
theorem sc__law_worth : FnScope N__law_worth ["_law_constant", "_law_pairs_here", "_law_values"] (defScope s__law_worth) := ⟨rfl, rfl, rfl, by decide +kernel, rfl, by decide +kernel, by decide +kernel⟩
def spLWorth (K : PySem.W.Frag) : Sp := fun vs H Q _ => ∃ x pr va ps f pa pb qa qb, vs = [x, .ref pr, .ref va] ∧ FrU K H x 0 1 1 ∧ PairsT K H pr ps ∧ ps.length ≤ 2 ∧ (∀ kr ∈ ps, kr.1 < 2 ∧ Q2 pa pb kr.2) ∧ ValsA K H va f qa qb ∧ pa ≤ 10000 ∧ pb ≤ 10000 ∧ qa ≤ 10000 ∧ qb ≤ 10000 ∧
  ∀ v H', Ex H H' → FrU K H' v (atF ps f) (1 + (pa + qa) + 2 * (pb + qb + 1)) (1 + 2 * (pb + qb)) → Q v H'
/-- a turn of the loop -/
theorem worth_turn (T : Txt w K mg) {σ : L2.St} {H : Hp} {tv tp tx : TE} {E E' : XK} {v : V} {ps : List (Nat × Rat)} {i : Nat} {kr : Nat × Rat} {f : Nat → Rat} {g : V} {pa pb qa qb : Nat} (hk : ps[i]? = some kr) (hi : i < 2) (hv : Ev tv σ H v) (fv : FrU K H v (atF (ps.take i) f) (1 + (pa + qa) + i * (pb + qb + 1)) (1 + i * (pb + qb)))
    (hp : Ev tp σ H g) (fg : FrA K H g kr.2) (zg : Q2 pa pb kr.2) (hx : EvF K tx σ H (f kr.1)) (zx : Q2 qa qb (f kr.1)) (z1 : pa ≤ 10000) (z2 : pb ≤ 10000) (z3 : qa ≤ 10000) (z4 : qb ≤ 10000) :
    EvU2 K (tCall (spLPlus K) [] E (tCons tv (tCons (tCall (spLTimes K) [] E' (tCons tp (tCons tx tNil))) tNil))) σ H (atF (ps.take (i + 1)) f) (1 + (pa + qa) + (i + 1) * (pb + qb + 1)) (1 + (i + 1) * (pb + qb)) := by
  rw [atF_take hk]
  have h01 : i = 0 ∨ i = 1 := by omega
  refine eu_2 (f := fun r s => r + s) (a := 1 + (pa + qa) + i * (pb + qb + 1)) (b := 1 + i * (pb + qb)) (c := pa + qa) (d := pb + qb) (eu_of hv fv) (eu_2 (f := fun r s => r * s) (eu_of hp (fg.u zg)) (eu_f hx zx) ⟨by omega, by omega⟩ (by omega) (by omega) (by omega) (by omega)) ?_ ?_ ?_ (by omega) (by omega)
  · rcases h01 with rfl | rfl
    · refine ⟨by omega, by omega, by omega⟩
    · refine ⟨by omega, by omega, by omega⟩
  · rcases h01 with rfl | rfl <;> omega
  · rcases h01 with rfl | rfl <;> omega
theorem ok__law_worth (T : Txt w K mg) : FnOk P w K mg base CX0 2 T._law_worth.f T._law_worth.fd ["_law_constant", "_law_pairs_here", "_law_values"] (spLWorth K) := by
  refine T._law_worth.F.ok sc__law_worth (fun vs H Q E h => ?_) (fun cdv A outer s H vs Q E hr h => ?_)
  · obtain ⟨x, pr, va, ps, f, pa, pb, qa, qb, rfl, _⟩ := h
    rfl
  obtain ⟨x, pr, va, ps, f, pa, pb, qa, qb, rfl, hx, ⟨qs, hqs, hql, hq⟩, hl, hz, ⟨xs, hxs, hxl, hxv⟩, z1, z2, z3, z4, q⟩ := h
  have hx0 : FrU K H x (atF (ps.take 0) f) (1 + (pa + qa) + 0 * (pb + qb + 1)) (1 + 0 * (pb + qb)) := hx.mono (by omega) (by omega)
  rcases hxs with hxs | hxs
  · refine ⟨_, PSs.nox (pss_cons (ps_set (i := 3) sc__law_worth.nd rfl (Or.inl rfl) (pv 0))
 (pss_cons (ps_for PassesOwn.never rfl (pi_tupK (K := K) rfl (pv 1)) (pg_tupK (n := 2) (K := K) rfl rfl (pgs_cons (pg_name (i := 4) sc__law_worth.nd rfl (Or.inl rfl)) (pgs_cons (pg_name (i := 5) sc__law_worth.nd rfl (Or.inl rfl)) pgs_nil)))
 (pss_one (ps_set (i := 3) sc__law_worth.nd rfl (Or.inl rfl) (pe_call (ok__law_plus T) (hr.mono (by decide)) rfl T._law_plus.g T._law_plus.F.kp (b__law_plus T) .nil pass0 (pa_cons (pv 3) (pa_cons (pe_call (ok__law_times T) (hr.mono (by decide)) rfl T._law_times.g T._law_times.F.kp (b__law_times T) .nil pass0 (pa_cons (pv 5) (pa_cons (pe_ix (ix_tupK (K := K) rfl) (pv 2) (pv 4) (fun _ _ => rfl)) pa_nil))) pa_nil))))))
 (pss_one (ps_ret (pv 3))))), ?_⟩
    refine q_asg (v := x) (ev_var rfl) fun H1 e1 => ?_
    refine s_forT2 (D := { nx := _, rt := _ }) (a := pr) (qs := qs) (ev_var rfl) (ex_t e1 hqs) (fun i σ' H' => Ex H H' ∧ ∃ v c4 c5, σ' = [some x, some (.ref pr), some (.ref va), some v, c4, c5] ∧ FrU K H' v (atF (ps.take i) f) (1 + (pa + qa) + i * (pb + qb + 1)) (1 + i * (pb + qb)))
      (fun H2 e2 => ⟨e1.trans e2, x, none, none, rfl, hx0.ex (e1.trans e2)⟩) (fun i σ' H' _ h => ex_t h.1 hqs) ?_ ?_
    · rintro i t σ' H' ht ⟨e2, v, c4, c5, rfl, fv⟩
      have hi := get_lt ht
      obtain ⟨kr, hk⟩ := get_of_lt (xs := ps) (i := i) (by omega)
      obtain ⟨g, u1, u2⟩ := hq i t kr ht hk
      obtain ⟨y1, y2⟩ := hz kr (List.mem_of_getElem? hk)
      obtain ⟨b, hb⟩ := get_of_lt (xs := xs) (i := kr.1) (by omega)
      obtain ⟨b1, b2⟩ := hxv _ _ hb
      refine ⟨_, _, ex_t e2 u1, ?_⟩
      refine s_asgU2 (worth_turn T hk (by omega) (ev_var rfl) fv (ev_var rfl) (u2.ex e2) y2 (evf_of (ev_op (ev_var rfl) (ev_var rfl) (rv_ixT (ex_t e2 hxs) (atI_nat hb))) (b1.ex e2)) b2 z1 z2 z3 z4) fun v' H3 e3 f3 => ⟨e2.trans e3, v', _, _, rfl, f3⟩
    · rintro σ' H' ⟨e2, v, c4, c5, rfl, fv⟩
      rw [hql] at fv
      rw [List.take_length] at fv
      refine ⟨_, rfl, q v H' e2 (fv.mono ?_ ?_)⟩
      · have := Nat.mul_le_mul_right (pb + qb + 1) hl
        omega
      · have := Nat.mul_le_mul_right (pb + qb) hl
        omega
  · refine ⟨_, PSs.nox (pss_cons (ps_set (i := 3) sc__law_worth.nd rfl (Or.inl rfl) (pv 0))
 (pss_cons (ps_for PassesOwn.never rfl (pi_tupK (K := K) rfl (pv 1)) (pg_tupK (n := 2) (K := K) rfl rfl (pgs_cons (pg_name (i := 4) sc__law_worth.nd rfl (Or.inl rfl)) (pgs_cons (pg_name (i := 5) sc__law_worth.nd rfl (Or.inl rfl)) pgs_nil)))
 (pss_one (ps_set (i := 3) sc__law_worth.nd rfl (Or.inl rfl) (pe_call (ok__law_plus T) (hr.mono (by decide)) rfl T._law_plus.g T._law_plus.F.kp (b__law_plus T) .nil pass0 (pa_cons (pv 3) (pa_cons (pe_call (ok__law_times T) (hr.mono (by decide)) rfl T._law_times.g T._law_times.F.kp (b__law_times T) .nil pass0 (pa_cons (pv 5) (pa_cons (pe_ix (ix_listK (K := K) rfl) (pv 2) (pv 4) (fun _ _ => rfl)) pa_nil))) pa_nil))))))
 (pss_one (ps_ret (pv 3))))), ?_⟩
    refine q_asg (v := x) (ev_var rfl) fun H1 e1 => ?_
    refine s_forT2 (D := { nx := _, rt := _ }) (a := pr) (qs := qs) (ev_var rfl) (ex_t e1 hqs) (fun i σ' H' => Ex H H' ∧ ∃ v c4 c5, σ' = [some x, some (.ref pr), some (.ref va), some v, c4, c5] ∧ FrU K H' v (atF (ps.take i) f) (1 + (pa + qa) + i * (pb + qb + 1)) (1 + i * (pb + qb)))
      (fun H2 e2 => ⟨e1.trans e2, x, none, none, rfl, hx0.ex (e1.trans e2)⟩) (fun i σ' H' _ h => ex_t h.1 hqs) ?_ ?_
    · rintro i t σ' H' ht ⟨e2, v, c4, c5, rfl, fv⟩
      have hi := get_lt ht
      obtain ⟨kr, hk⟩ := get_of_lt (xs := ps) (i := i) (by omega)
      obtain ⟨g, u1, u2⟩ := hq i t kr ht hk
      obtain ⟨y1, y2⟩ := hz kr (List.mem_of_getElem? hk)
      obtain ⟨b, hb⟩ := get_of_lt (xs := xs) (i := kr.1) (by omega)
      obtain ⟨b1, b2⟩ := hxv _ _ hb
      refine ⟨_, _, ex_t e2 u1, ?_⟩
      refine s_asgU2 (worth_turn T hk (by omega) (ev_var rfl) fv (ev_var rfl) (u2.ex e2) y2 (evf_of (ev_op (ev_var rfl) (ev_var rfl) (rv_ixL (ex_l e2 hxs) (atI_nat hb))) (b1.ex e2)) b2 z1 z2 z3 z4) fun v' H3 e3 f3 => ⟨e2.trans e3, v', _, _, rfl, f3⟩
    · rintro σ' H' ⟨e2, v, c4, c5, rfl, fv⟩
      rw [hql] at fv
      rw [List.take_length] at fv
      refine ⟨_, rfl, q v H' e2 (fv.mono ?_ ?_)⟩
      · have := Nat.mul_le_mul_right (pb + qb + 1) hl
        omega
      · have := Nat.mul_le_mul_right (pb + qb) hl
        omega
end
end PX

/-! the law's pairs, bounds -/
namespace PX
open PySem PySem.Spec PyProof.Rows L2 Evl
open PW (Sz fr)
/-- pairs in a tuple whose object is known -/
def PairsF (K : PySem.W.Frag) (H : Hp) (p : Addr) (ps : List (Nat × Rat)) : Prop :=
  ∃ qs : List Addr, WX.Frz H p (qs.map V.ref) ∧ qs.length = ps.length ∧ ∀ (i : Nat) q (kr : Nat × Rat), qs[i]? = some q → ps[i]? = some kr → ∃ f, SqT K H q [.int (kr.1 : Nat), f] ∧ FrA K H f kr.2
theorem frz_ex {H H' : Hp} {p : Addr} {xs : List V} (e : Ex H H') (h : WX.Frz H p xs) : WX.Frz H' p xs := let ⟨o, a, b⟩ := h; ⟨o, e _ _ a, b⟩
theorem PairsF.ex {K : PySem.W.Frag} {H H' : Hp} {p : Addr} {ps : List (Nat × Rat)} (e : Ex H H') (h : PairsF K H p ps) : PairsF K H' p ps :=
  let ⟨qs, a, b, c⟩ := h; ⟨qs, frz_ex e a, b, fun i q kr h1 h2 => let ⟨f, u, v⟩ := c i q kr h1 h2; ⟨f, ex_t e u, v.ex e⟩⟩
theorem PairsF.t {K : PySem.W.Frag} {H : Hp} {p : Addr} {ps : List (Nat × Rat)} (h : PairsF K H p ps) : PairsT K H p ps :=
  let ⟨qs, a, b, c⟩ := h; ⟨qs, a.sq, b, c⟩
section
variable {P : Program} {w : World} {K : PySem.W.Frag} {mg : Str → Option Value} {base : Heap}
theorem er_frac {σ : L2.St} {H : Hp} {ta : TE} {E : XK} {n : Nat} (ha : Ev ta σ H (.int (n : Nat))) : EvR (tCall (spLFrac K) [] E (tCons ta tNil)) σ H (fun v H => ∃ r, FrA K H v r ∧ Q2 30 10 r) := fun H1 e Q q =>
  ha H1 e _ fun H2 e2 => ⟨n, rfl, fun v r H3 e3 f z => q v H3 (e2.trans e3) ⟨r, f, z⟩⟩
theorem er_mixed {σ : L2.St} {H : Hp} {ta tb : TE} {E : XK} {c : Int} {k : Nat} (ha : Ev ta σ H (.int c)) (hb : Ev tb σ H (.int (k : Nat))) (hk : k ≤ 1000) : EvR (tCall spMixed [] E (tCons ta (tCons tb tNil))) σ H (fun v _ => ∃ n : Nat, v = .int (n : Nat) ∧ n < 2 ^ 30) := fun H1 e Q q =>
  ha H1 e _ fun H2 e2 => hb H2 (e.trans e2) _ fun H3 e3 => ⟨c, k, rfl, hk, fun n H4 hn e4 => q _ H4 ((e2.trans e3).trans e4) ⟨n, rfl, hn⟩⟩
/-- pairs by the first so many unknowns -/
def PrK (i : Nat) (ps : List (Nat × Rat)) : Prop := ∃ a b, ps = prs a b ∧ (i = 0 → a = none) ∧ (i ≤ 1 → b = none)
theorem PrK.app {i : Nat} {ps : List (Nat × Rat)} (h : PrK i ps) (hi : i < 2) (r : Rat) : PrK (i + 1) (ps ++ [(i, r)]) := by
  obtain ⟨a, b, rfl, h1, h2⟩ := h
  have h01 : i = 0 ∨ i = 1 := by omega
  rcases h01 with rfl | rfl
  · rw [h1 rfl, h2 (by omega)]
    exact ⟨some r, none, rfl, fun z => by omega, fun _ => rfl⟩
  · rw [h2 (by omega)]
    refine ⟨a, some r, ?_, fun z => by omega, fun z => by omega⟩
    unfold prs
    simp
theorem PrK.skip {i : Nat} {ps : List (Nat × Rat)} (h : PrK i ps) : PrK (i + 1) ps := by
  obtain ⟨a, b, rfl, h1, h2⟩ := h
  exact ⟨a, b, rfl, fun z => by omega, fun z => h2 (by omega)⟩
theorem PrK.p {i : Nat} {ps : List (Nat × Rat)} (h : PrK i ps) : Pr2 ps := let ⟨a, b, e, _⟩ := h; ⟨a, b, e⟩
abbrev N__law_pairs : List Str := ["_law_cell", "_law_many", "_law_found", "_law_k", "_law_number", "_law_part"]
theorem sc__law_pairs : FnScope N__law_pairs ["_law_cell", "_law_many"] (defScope s__law_pairs) := ⟨rfl, rfl, rfl, by decide +kernel, rfl, by decide +kernel, by decide +kernel⟩
def spLPairs (K : PySem.W.Frag) : Sp := fun vs H Q _ => ∃ c : Int, vs = [.int c, .int 2] ∧ ∀ t ps H', Ex H H' → PairsF K H' t ps → Pr2 ps → (∀ kr ∈ ps, Q2 30 10 kr.2) → Q (.ref t) H'
theorem ok__law_pairs (T : Txt w K mg) : FnOk P w K mg base CX0 3 T._law_pairs.f T._law_pairs.fd ["_law_cell", "_law_many"] (spLPairs K) := by
  refine T._law_pairs.F.ok sc__law_pairs (fun vs H Q E h => ?_) (fun cdv A outer s H vs Q E hr h => ?_)
  · obtain ⟨c, rfl, _⟩ := h
    rfl
  obtain ⟨c, rfl, q⟩ := h
  refine ⟨_, PSs.nox (pss_cons (ps_set (i := 2) sc__law_pairs.nd rfl (Or.inl rfl) (pe_lst pa_nil))
 (pss_cons (ps_for PassesOwn.never rfl (pi_range1 (by rfl) T.m_range (pa_cons (pv 1) pa_nil)) (pg_name (i := 3) sc__law_pairs.nd rfl (Or.inl rfl))
 (pss_cons (ps_set (i := 4) sc__law_pairs.nd rfl (Or.inl rfl) (pe_call (ok__law_mixed T) (hr.mono (by decide)) rfl T._law_mixed.g T._law_mixed.F.kp (b__law_mixed T) .nil pass0 (pa_cons (pv 0) (pa_cons (pv 3) pa_nil))))
 (pss_cons (ps_set (i := 5) sc__law_pairs.nd rfl (Or.inl rfl) (pe_call (ok__law_fraction T) (hr.mono (by decide)) rfl T._law_fraction.g T._law_fraction.F.kp (b__law_fraction T) .nil pass0 (pa_cons (pe_op op_fdivW (pv 4) pe_int) pa_nil)))
 (pss_one (ps_if (PW.pt (pw_and (pt_cmpR op_gt (pe_op op_modN (pv 4) pe_int) pe_int (nomark _)) (pw_and1 (pt_cmpR op_ne (pe_ix (ix_tupK (K := K) rfl) (pv 5) pe_int (fun _ _ => rfl)) pe_int (nomark _))))) (pss_one (ps_expr (pe_bm PySem.F.plainAttrs_list PySem.F.slot_list_append PySem.F.type_list_append mt_append (pv 2) (pa_cons (pe_tup (pa_cons (pv 3) (pa_cons (pv 5) pa_nil))) pa_nil)))) pss_nil)))))
 (pss_one (ps_ret (pe_callTy WX.call_tupleF (by rfl) T.m_tuple (by decide +kernel) (pa_cons (pv 2) pa_nil)))))), ?_⟩
  refine q_asgL (el_lst ea_nil (Nat.zero_le _)) fun F H1 hF e1 h1 => ?_
  refine q_forR1 (n := 2) (ea_cons (ev_var rfl) ea_nil) (by omega) (fun i σ' H' => Ex H H' ∧ (∃ c3 c4 c5, σ' = [some (.int c), some (.int 2), some (.ref F), c3, c4, c5]) ∧ ∃ (qs : List Addr) (ps : List (Nat × Rat)), H' F = some (.lst (qs.map V.ref)) ∧ qs.length = ps.length ∧ (∀ (i : Nat) q (kr : Nat × Rat), qs[i]? = some q → ps[i]? = some kr → ∃ f, SqT K H' q [.int (kr.1 : Nat), f] ∧ FrA K H' f kr.2) ∧ PrK i ps ∧ ∀ kr ∈ ps, Q2 30 10 kr.2)
    (fun H2 e2 => ⟨e1.trans e2, ⟨none, none, none, rfl⟩, [], [], e2 _ _ h1, rfl, fun i q kr h => by simp at h, ⟨none, none, rfl, fun _ => rfl, fun _ => rfl⟩, fun kr h => by simp at h⟩) ?_ ?_
  · rintro i σ' H' hi ⟨e2, ⟨c3, c4, c5, rfl⟩, qs, ps, p1, p2, p3, p4, p5⟩
    refine q_asgR (er_mixed (k := i) (ev_var rfl) (ev_var rfl) (by omega)) fun v H3 e3 hv => ?_
    obtain ⟨n, rfl, hn⟩ := hv
    refine q_asgR (er_frac (n := n / 4) (ev_divN (ev_var rfl) (b := 4) ev_c (by omega) (by omega))) fun v H4 e4 hv => ?_
    obtain ⟨r, ⟨a, rfl, ha⟩, zr⟩ := hv
    have e34 := e3.trans e4
    refine s_when (b := decide ((0 : Int) < (n % 4 : Nat)) && !decide (V.int r.num = V.int 0)) (et_and (et_test (ev_op (ev_modN (ev_var rfl) (b := 4) ev_c (by omega)) ev_c rv_I0)) fun _ => et_test (ev_op (ev_item rfl ha rfl) ev_c (rv_ne rfl))) (fun _ H5 e5 => ?_) (fun _ H5 e5 => ?_)
    · have e35 := e34.trans e5
      refine s_appU (l := F) (xs := qs.map V.ref) (e35 _ _ p1) (ev_var rfl) (Evl.eu_tup (ea_cons (ev_var rfl) (ea_cons (ev_var rfl) ea_nil)) (by show 2 ≤ 100000; decide)) (by
        rw [List.length_map, p2]
        have := p4.p.len
        omega) fun t H6 ht e6 h6 => ?_
      have e36 := e35.trans e6
      have hF6 := e36 _ _ p1
      have fx : Fx F H6 (upd H6 F (.lst (qs.map V.ref ++ [V.ref t]))) := Fx.upd
      refine ⟨(e2.trans e36).mut hF, ⟨_, _, _, rfl⟩, qs ++ [t], ps ++ [(i, r)], by rw [upd_same]; simp, by simp [p2], fun j q kr hq hk => ?_, p4.app (by omega) r, fun kr h => ?_⟩
      · by_cases hj : j < qs.length
        · rw [List.getElem?_append_left hj] at hq
          rw [List.getElem?_append_left (by omega)] at hk
          obtain ⟨f, u, v⟩ := p3 j q kr hq hk
          exact ⟨f, fx_t fx hF6 (ex_t e36 u), (v.ex e36).fx fx hF6⟩
        · have : j = qs.length := by
            have := get_lt hq
            simp at this
            omega
          subst this
          rw [List.getElem?_append_right (Nat.le_refl _), Nat.sub_self] at hq
          rw [List.getElem?_append_right (by omega), p2, Nat.sub_self] at hk
          cases hq
          cases hk
          exact ⟨.ref a, fx_t fx hF6 (st_of h6), FrA.fx fx hF6 ⟨a, rfl, ex_t (e5.trans e6) ha⟩⟩
      · obtain h | h := List.mem_append.mp h
        · exact p5 kr h
        · rw [List.mem_singleton] at h
          rw [h]; exact zr
    · have e35 := e34.trans e5
      exact ⟨e2.trans e35, ⟨_, _, _, rfl⟩, qs, ps, e35 _ _ p1, p2, fun j q kr hq hk => let ⟨f, u, v⟩ := p3 j q kr hq hk; ⟨f, ex_t e35 u, v.ex e35⟩, p4.skip, p5⟩
  · rintro σ' H' ⟨e2, ⟨c3, c4, c5, rfl⟩, qs, ps, p1, p2, p3, p4, p5⟩
    refine ⟨_, rfl, F, qs.map V.ref, rfl, sq_of p1, fun l H'' hl ex _ hz => ?_⟩
    exact q l ps H'' (e2.trans ex) ⟨qs, hz, p2, fun j q kr hq hk => let ⟨f, u, v⟩ := p3 j q kr hq hk; ⟨f, ex_t ex u, v.ex ex⟩⟩ p4.p p5
abbrev N__law_bound : List Str := ["_law_left", "_law_mark", "_law_number", "_law_off", "_law_kind", "_law_way", "_law_whole"]
theorem sc__law_bound : FnScope N__law_bound ["_law_left", "_law_mark", "_law_number"] (defScope s__law_bound) := ⟨rfl, rfl, rfl, by decide +kernel, rfl, by decide +kernel, by decide +kernel⟩
def spLBound (K : PySem.W.Frag) : Sp := fun vs H Q _ => ∃ (x : V) (m : Str) (n : Nat) (l : Rat), vs = [x, .str m, .int (n : Nat)] ∧ FrU K H x l 187 95 ∧ ∀ v r H', Ex H H' → FrA K H' v r → Q2 198 105 r → Q v H'
theorem ev_intB {σ : L2.St} {H : Hp} {ta : TE} {b : Bool} (ha : Ev ta σ H (.bl b)) : Ev (tCB (fun xs H Q => (∃ i, xs = [V.int i] ∧ Q (.int i) H) ∨ ∃ k : Bool, xs = [V.bl k] ∧ Q (.int (if k then 1 else 0)) H) (tCons ta tNil)) σ H (.int (if b then 1 else 0)) :=
  ev_cb (ea_cons ha ea_nil) fun H1 _ Q k => Or.inr ⟨b, rfl, k H1 (Ex.refl H1)⟩
theorem ok__law_bound (T : Txt w K mg) : FnOk P w K mg base CX0 3 T._law_bound.f T._law_bound.fd ["_law_left", "_law_mark", "_law_number"] (spLBound K) := by
  refine T._law_bound.F.ok sc__law_bound (fun vs H Q E h => ?_) (fun cdv A outer s H vs Q E hr h => ?_)
  · obtain ⟨x, m, n, l, rfl, _⟩ := h
    rfl
  obtain ⟨x, m, n, l, rfl, hx, q⟩ := h
  refine ⟨_, PSs.nox (pss_cons (ps_set (i := 3) sc__law_bound.nd rfl (Or.inl rfl) (pe_call (ok__law_fraction T) (hr.mono (by decide)) rfl T._law_fraction.g T._law_fraction.F.kp (b__law_fraction T) .nil pass0 (pa_cons (pe_op op_fdivW (pv 2) pe_int) pa_nil)))
 (pss_cons (ps_set (i := 4) sc__law_bound.nd rfl (Or.inl rfl) (pe_op op_modN (pv 2) pe_int))
 (pss_cons (ps_if (pt_cmpR op_eq (pv 4) pe_int (nomark _)) (pss_one (ps_ret (pv 3))) pss_nil)
 (pss_cons (ps_if (PW.pt (pw_or (pt_cmpR op_eq (pv 4) pe_int (nomark _)) (pw_or1 (PW.pt (pw_and (pt_cmpR op_eq (pv 4) pe_int (nomark _)) (pw_and1 (pt_cmpR op_eq (pv 1) pe_str (nomark _)))))))) (pss_one (ps_ret (pe_call (ok__law_lowest T) (hr.mono (by decide)) rfl T._law_lowest.g T._law_lowest.F.kp (b__law_lowest T) .nil pass0 (pa_cons (pe_ix (ix_tupK (K := K) rfl) (pv 0) pe_int (fun _ _ => rfl)) (pa_cons (pe_ix (ix_tupK (K := K) rfl) (pv 0) pe_int (fun _ _ => rfl)) pa_nil))))) pss_nil)
 (pss_cons (ps_set (i := 5) sc__law_bound.nd rfl (Or.inl rfl) (pe_ifExp (pt_cmpR op_eq (pv 4) pe_int (nomark _)) (pe_op op_sub pe_int (pe_op op_mulW pe_int (pe_callTy call_int1 (by rfl) T.m_int (by decide +kernel) (pa_cons (pe_cmpR op_eq (pv 1) pe_str (nomark _)) pa_nil)))) (pe_op op_sub (pe_op op_mulW pe_int (pe_callTy call_int1 (by rfl) T.m_int (by decide +kernel) (pa_cons (pe_cmpR op_eq (pv 1) pe_str (nomark _)) pa_nil))) pe_int)))
 (pss_cons (ps_set (i := 6) sc__law_bound.nd rfl (Or.inl rfl) (pe_call (ok__law_plus T) (hr.mono (by decide)) rfl T._law_plus.g T._law_plus.F.kp (b__law_plus T) .nil pass0 (pa_cons (pv 0) (pa_cons (pe_tup (pa_cons (pe_op op_mulW (pv 5) (pe_callB call_abs (by rfl) T.m_abs (by decide +kernel) (pa_cons (pe_ix (ix_tupK (K := K) rfl) (pv 3) pe_int (fun _ _ => rfl)) pa_nil))) (pa_cons (pe_ix (ix_tupK (K := K) rfl) (pv 3) pe_int (fun _ _ => rfl)) pa_nil))) pa_nil))))
 (pss_one (ps_ret (pe_call (ok__law_lowest T) (hr.mono (by decide)) rfl T._law_lowest.g T._law_lowest.F.kp (b__law_lowest T) .nil pass0 (pa_cons (pe_ix (ix_tupK (K := K) rfl) (pv 6) pe_int (fun _ _ => rfl)) (pa_cons (pe_ix (ix_tupK (K := K) rfl) (pv 6) pe_int (fun _ _ => rfl)) pa_nil))))))))))), ?_⟩
  refine q_asgR (er_frac (n := n / 4) (ev_divN (ev_var rfl) (b := 4) ev_c (by omega) (by omega))) fun v H1 e1 hv => ?_
  obtain ⟨r, fr1, zr⟩ := hv
  obtain ⟨a, rfl, ha⟩ := id fr1
  refine q_asg (v := .int (n % 4 : Nat)) (ev_modN (ev_var rfl) (b := 4) ev_c (by omega)) fun H2 e2 => ?_
  have e12 := e1.trans e2
  refine q_when (b := decide (V.int (n % 4 : Nat) = V.int 3)) (et_test (ev_op (ev_var rfl) ev_c (rv_eq rfl))) (fun _ H3 e3 => ?_) (fun _ H3 e3 => ?_)
  · exact s_ret (ev_var rfl) fun H4 e4 => q _ r H4 ((e12.trans e3).trans e4) (fr1.ex ((e2.trans e3).trans e4)) (zr.mono (by omega) (by omega))
  have e13 := e12.trans e3
  obtain ⟨p, nn, dd, rfl, x1, x2, x3, x4, rfl⟩ := id hx
  refine q_when (b := decide (V.int (n % 4 : Nat) = V.int 0) || (decide (V.int (n % 4 : Nat) = V.int 1) && decide (V.str m = V.str "="))) (et_or (et_test (ev_op (ev_var rfl) ev_c (rv_eq rfl))) fun _ => et_and (et_test (ev_op (ev_var rfl) ev_c (rv_eq rfl))) fun _ => et_test (ev_op (ev_var rfl) ev_c (rv_eq rfl))) (fun _ H4 e4 => ?_) (fun _ H4 e4 => ?_)
  · have e14 := e13.trans e4
    exact s_retF (evf_low (ev_item rfl (ex_t e14 x1) rfl) (ev_item rfl (ex_t e14 x1) rfl) x2 x3 x4 (by omega)) fun v H5 e5 f5 => q v _ H5 (e14.trans e5) f5 ((q2_fr x2 x3 x4).mono (by omega) (by omega))
  have e14 := e13.trans e4
  refine q_asgR (R := fun v _ => ∃ z : Int, v = .int z ∧ z.natAbs = 1) (fun H5 e5 Q' k' => ?_) fun v H5 e5 hv => ?_
  · refine et_test (ev_op (ev_var (i := 4) rfl) ev_c (rv_eq rfl)) H5 (Ex.refl H5) _ fun H6 e6 => ?_
    have hint : ∀ b : Bool, ((1 : Int) - 2 * (if b then 1 else 0)).natAbs = 1 ∧ ((2 : Int) * (if b then 1 else 0) - 1).natAbs = 1 := fun b => by cases b <;> decide
    cases decide (V.int (n % 4 : Nat) = V.int 1) with
    | true =>
      refine iteT ?_
      refine at_v (ev_op ev_c (ev_op ev_c (ev_intB (ev_op (ev_var (i := 1) rfl) ev_c (rv_eq rfl))) (rv_I (cmulw (a := 2) (b := 1) (by decide) (by split <;> decide)))) rv_I0) fun H7 e7 => k' _ H7 (e6.trans e7) ⟨_, rfl, (hint _).1⟩
    | false =>
      refine iteF ?_
      refine at_v (ev_op (ev_op ev_c (ev_intB (ev_op (ev_var (i := 1) rfl) ev_c (rv_eq rfl))) (rv_I (cmulw (a := 2) (b := 1) (by decide) (by split <;> decide)))) ev_c rv_I0) fun H7 e7 => k' _ H7 (e6.trans e7) ⟨_, rfl, (hint _).2⟩
  obtain ⟨z, rfl, hz⟩ := hv
  have e15 := e14.trans e5
  have e25 : Ex H1 H5 := ((e2.trans e3).trans e4).trans e5
  have habs : (if r.num < 0 then -r.num else r.num) = (r.num.natAbs : Int) := by split <;> omega
  have zn : (z * (r.num.natAbs : Int)).natAbs < 2 ^ 30 := by
    rw [Int.natAbs_mul, hz, Nat.one_mul]
    exact zr.1
  have rd := r.den_pos
  refine q_asgU2 (a := 198) (b := 105) (eu_2 (f := fun r s => r + s) (a := 187) (b := 95) (c := 30) (d := 10) (eu_var rfl (hx.ex e15)) (eu_tup (n := z * (r.num.natAbs : Int)) (m := (r.den : Int)) (ev_op (ev_var rfl) (ev_is (ev_cb (z := .int (if r.num < 0 then -r.num else r.num)) (ea_cons (ev_item rfl (ex_t e25 ha) rfl) ea_nil) (fun H6 e6 Q k => ⟨r.num, rfl, k H6 (Ex.refl H6)⟩)) (by rw [habs])) (rv_I (cmulw (a := 1) (b := 30) (by rw [hz]; decide) (by rw [Int.natAbs_natCast]; exact zr.1)))) (ev_item rfl (ex_t e25 ha) rfl) (by omega) zn zr.2) ⟨by omega, by omega, by omega⟩ (by omega) (by omega) (by omega) (by omega)) fun v H6 e6 f6 => ?_
  obtain ⟨p6, n6, d6, rfl, y1, y2, y3, y4, y5⟩ := f6
  exact s_retF (evf_low (ev_item rfl y1 rfl) (ev_item rfl y1 rfl) y2 y3 y4 (by omega)) fun v H7 e7 f7 => q v _ H7 ((e15.trans e6).trans e7) f7 (q2_fr y2 y3 y4)
end
end PX

/-! the law's unknowns -/
namespace PX
open PySem PySem.Spec PyProof.Rows L2 Evl
open PW (Sz fr)
def UnkT (K : PySem.W.Frag) (H : Hp) (v : V) (lo hi : Rat) : Prop := ∃ (t : Addr) (a b : V) (f g : Addr), v = .ref t ∧ SqT K H t [a, b, .ref f, .ref g] ∧ FrA K H (.ref f) lo ∧ FrA K H (.ref g) hi
theorem UnkT.ex {K : PySem.W.Frag} {H H' : Hp} {v : V} {lo hi : Rat} (e : Ex H H') (h : UnkT K H v lo hi) : UnkT K H' v lo hi :=
  let ⟨t, a, b, f, g, h1, h2, h3, h4⟩ := h; ⟨t, a, b, f, g, h1, ex_t e h2, h3.ex e, h4.ex e⟩
section
variable {σ : L2.St} {H : Hp} {te : TE} {Q : VK}
theorem at_u {xs : List V} (h : EvU te σ H xs) (k : ∀ p H2, H p = none → Ex H H2 → H2 p = some (.tup xs) → Q (.ref p) H2) : te σ H Q := h H (Ex.refl H) Q k
end
theorem FrA.ref {K : PySem.W.Frag} {H : Hp} {v : V} {r : Rat} (h : FrA K H v r) : ∃ a, v = .ref a := let ⟨a, e, _⟩ := h; ⟨a, e⟩
theorem q2_int {z : Int} {a b : Nat} (h : z.natAbs < 2 ^ a) (hb : 1 ≤ b) : Q2 a b (z : Rat) := by
  refine ⟨h, ?_⟩
  show 1 < 2 ^ b
  exact Nat.lt_of_lt_of_le (show 1 < 2 ^ 1 by decide) (Nat.pow_le_pow_right (by omega) hb)
section
variable {P : Program} {w : World} {K : PySem.W.Frag} {mg : Str → Option Value} {base : Heap}
theorem q_unp3 {σ : L2.St} {H : Hp} {D : Ends} {tz : TS} {tp ti : TE} {l t : Addr} {j i1 i2 i3 : Nat} {xs : List V} {x1 x2 x3 : V} (hp : Ev tp σ H (.ref l)) (hi : Ev ti σ H (.int (j : Nat))) (hl : SqL K H l xs) (hv : xs[j]? = some (.ref t)) (ht : SqT K H t [x1, x2, x3])
    (k : ∀ H1, Ex H H1 → tz D (((σ.set i1 (some x1)).set i2 (some x2)).set i3 (some x3)) H1) : tSeq (tAsg (tOp (rIxL K) tp ti) (gTup K 3 (gCons (gName i1) (gCons (gName i2) (gCons (gName i3) gNil))))) tz D σ H :=
  (ev_op hp hi (rv_ixL hl (atI_nat hv)) : Ev (tOp (rIxL K) tp ti) σ H (.ref t)) H (Ex.refl H) _ fun H1 e1 => g_three (ex_t e1 ht) (k H1 e1)
abbrev N__law_unknown : List Str := ["_law_number", "_law_k", "_law_low", "_law_whole", "_law_most", "_law_off", "_law_ends", "_law_more", "_law_is_round", "_law_first", "_law_last"]
theorem sc__law_unknown : FnScope N__law_unknown ["_law_number", "_law_k"] (defScope s__law_unknown) := ⟨rfl, rfl, rfl, by decide +kernel, rfl, by decide +kernel, by decide +kernel⟩
def spLUnk (K : PySem.W.Frag) : Sp := fun vs H Q _ => ∃ n k : Nat, vs = [.int (n : Nat), .int (k : Nat)] ∧ 3 ≤ n % 8 ∧ k < 4 ∧ ∀ v lo hi H', Ex H H' → UnkT K H' v lo hi → Q2 30 10 lo → Q2 35 14 hi → Q v H'
theorem ok__law_unknown (T : Txt w K mg) : FnOk P w K mg base CX0 3 T._law_unknown.f T._law_unknown.fd ["_law_number", "_law_k"] (spLUnk K) := by
  refine T._law_unknown.F.ok sc__law_unknown (fun vs H Q E h => ?_) (fun cdv A outer s H vs Q E hr h => ?_)
  · obtain ⟨n, k, rfl, _⟩ := h
    rfl
  obtain ⟨n, k, rfl, hn, hk, q⟩ := h
  refine ⟨_, PSs.nox (pss_cons (ps_set (i := 2) sc__law_unknown.nd rfl (Or.inl rfl) (pe_call (ok__law_fraction T) (hr.mono (by decide)) rfl T._law_fraction.g T._law_fraction.F.kp (b__law_fraction T) .nil pass0 (pa_cons (pe_op op_fdivW (pv 0) pe_int) pa_nil)))
 (pss_cons (ps_set (i := 3) sc__law_unknown.nd rfl (Or.inl rfl) (pe_tup (pa_cons (pe_op op_fdivW (pe_ix (ix_tupK (K := K) rfl) (pv 2) pe_int (fun _ _ => rfl)) (pe_ix (ix_tupK (K := K) rfl) (pv 2) pe_int (fun _ _ => rfl))) (pa_cons pe_int pa_nil))))
 (pss_cons (ps_set (i := 4) sc__law_unknown.nd rfl (Or.inl rfl) (pe_tup (pa_cons (pe_op op_add (pe_ix (ix_tupK (K := K) rfl) (pv 3) pe_int (fun _ _ => rfl)) (pe_op op_modN (pe_op op_fdivW (pv 0) pe_int) pe_int)) (pa_cons pe_int pa_nil))))
 (pss_cons (ps_set (i := 5) sc__law_unknown.nd rfl (Or.inl rfl) (pe_ix (ix_listK (K := K) rfl) (pe_lst (pa_cons (pe_tup (pa_cons pe_int (pa_cons pe_int pa_nil))) (pa_cons (pe_tup (pa_cons (pe_op op_modN (pe_op op_fdivW (pv 0) pe_int) pe_int) (pa_cons pe_int pa_nil))) (pa_cons (pe_call (ok__law_lowest T) (hr.mono (by decide)) rfl T._law_lowest.g T._law_lowest.F.kp (b__law_lowest T) .nil pass0 (pa_cons (pe_op op_modN (pe_op op_fdivW (pv 0) pe_int) pe_int) (pa_cons (pe_op op_add pe_int (pe_op op_modN (pe_op op_fdivW (pv 0) pe_int) pe_int)) pa_nil))) pa_nil)))) (pe_op op_modN (pe_op op_fdivW (pv 0) pe_int) pe_int) (fun _ _ => rfl)))
 (pss_cons (ps_set (i := 6) sc__law_unknown.nd rfl (Or.inl rfl) (pe_lst (pa_cons (pe_tup (pa_cons pe_bl (pa_cons pe_non (pa_cons pe_non pa_nil)))) (pa_cons (pe_tup (pa_cons pe_bl (pa_cons (pv 2) (pa_cons pe_non pa_nil)))) (pa_cons (pe_tup (pa_cons pe_bl (pa_cons pe_non (pa_cons (pv 2) pa_nil)))) (pa_cons (pe_tup (pa_cons pe_bl (pa_cons (pv 3) (pa_cons (pv 4) pa_nil)))) (pa_cons (pe_tup (pa_cons pe_bl (pa_cons (pv 3) (pa_cons (pv 4) pa_nil)))) pa_nil)))))))
 (pss_cons (ps_set (i := 7) sc__law_unknown.nd rfl (Or.inl rfl) (pe_call (ok__law_plus T) (hr.mono (by decide)) rfl T._law_plus.g T._law_plus.F.kp (b__law_plus T) .nil pass0 (pa_cons (pv 2) (pa_cons (pv 5) pa_nil))))
 (pss_cons (ps_set (i := 6) sc__law_unknown.nd rfl (Or.inl rfl) (pe_op op_cat (pv 6) (pe_op op_rep (pe_lst (pa_cons (pe_tup (pa_cons pe_bl (pa_cons (pv 2) (pa_cons (pe_call (ok__law_lowest T) (hr.mono (by decide)) rfl T._law_lowest.g T._law_lowest.F.kp (b__law_lowest T) .nil pass0 (pa_cons (pe_ix (ix_tupK (K := K) rfl) (pv 7) pe_int (fun _ _ => rfl)) (pa_cons (pe_ix (ix_tupK (K := K) rfl) (pv 7) pe_int (fun _ _ => rfl)) pa_nil))) pa_nil)))) pa_nil)) pe_int)))
 (pss_cons (ps_asg (pe_ix (ix_listK (K := K) rfl) (pv 6) (pe_op op_modN (pv 0) pe_int) (fun _ _ => rfl)) (pg_tupK (n := 3) (K := K) rfl rfl (pgs_cons (pg_name (i := 8) sc__law_unknown.nd rfl (Or.inl rfl)) (pgs_cons (pg_name (i := 9) sc__law_unknown.nd rfl (Or.inl rfl)) (pgs_cons (pg_name (i := 10) sc__law_unknown.nd rfl (Or.inl rfl)) pgs_nil)))))
 (pss_one (ps_ret (pe_tup (pa_cons (pe_ix (ix_listK (K := K) rfl) (pe_lst (pa_cons pe_str (pa_cons pe_str (pa_cons pe_str (pa_cons pe_str pa_nil))))) (pv 1) (fun _ _ => rfl)) (pa_cons (pv 8) (pa_cons (pv 9) (pa_cons (pv 10) pa_nil))))))))))))))), ?_⟩
  refine q_asgR (er_frac (n := n / 8) (ev_divN (ev_var rfl) (b := 8) ev_c (by omega) (by omega))) fun v H1 e1 hv => ?_
  obtain ⟨r, fr1, zr⟩ := hv
  obtain ⟨a, rfl, ha⟩ := id fr1
  have rd := r.den_pos
  have zz : (r.num / (r.den : Int)).natAbs < 2 ^ 30 := Nat.lt_of_le_of_lt (Int.natAbs_ediv_le_natAbs _ _) zr.1
  generalize hzd : r.num / (r.den : Int) = z at zz
  -- whole
  refine q_asgF (K := K) (r := (z : Rat)) (evf_tup (r := (z : Rat)) (ev_is (ev_op (ev_item rfl ha rfl) (ev_item rfl ha rfl) (rv_I (cdivw (b := 10) (by omega) zr.2))) (by rw [hzd]; rfl)) ev_c) fun vw H2 e2 fw => ?_
  obtain ⟨aw, rfl, haw⟩ := id fw
  -- most
  have m101 := Nat.mod_lt (n / 640) (show 0 < 101 by omega)
  refine q_asgF (K := K) (r := ((z + (n / 640 % 101 : Nat) : Int) : Rat)) (evf_tup (r := ((z + (n / 640 % 101 : Nat) : Int) : Rat)) (ev_op (ev_item (v := .int z) rfl haw rfl) (ev_modN (ev_divN (ev_var rfl) (b := 640) ev_c (by omega) (by omega)) (b := 101) ev_c (by omega)) rv_I0) ev_c) fun vm H3 e3 fm => ?_
  obtain ⟨am, rfl, ham⟩ := id fm
  have e23 := e2.trans e3
  have e13 : Ex H H3 := (e1.trans e2).trans e3
  -- off
  refine q_asgR (R := fun v H => ∃ s, FrA K H v s ∧ Q2 10 4 s) (fun H4 e4 Q' k' => ?_) fun vo H4 e4 hv => ?_
  · have m10 := Nat.mod_lt (n / 640) (show 0 < 10 by omega)
    have m1000 := Nat.mod_lt (n / 640) (show 0 < 1000 by omega)
    have m9 := Nat.mod_lt (n / 64) (show 0 < 9 by omega)
    have m3 := Nat.mod_lt (n / 640) (show 0 < 3 by omega)
    refine e_lst (a_cons (at_f (K := K) (evf_tup (r := 0) ev_c ev_c) fun v0 H5 e5 f0 => a_cons (at_f (K := K) (evf_tup (r := (((n / 640 % 10 : Nat) : Int) : Rat)) (ev_modN (ev_divN (ev_var (i := 0) rfl) (b := 640) ev_c (by omega) (by omega)) (b := 10) ev_c (by omega)) ev_c) fun v1 H6 e6 f1 => a_cons (at_f (evf_low (n := ((n / 640 % 1000 : Nat) : Int)) (d := ((1 + n / 64 % 9 : Nat) : Int)) (a := 10) (b := 4) (ev_modN (ev_divN (ev_var (i := 0) rfl) (b := 640) ev_c (by omega) (by omega)) (b := 1000) ev_c (by omega)) (ev_addN (a := 1) ev_c (ev_modN (ev_divN (ev_var (i := 0) rfl) (b := 64) ev_c (by omega) (by omega)) (b := 9) ev_c (by omega))) (by omega) (by omega) (by omega) (by omega)) fun v2 H7 e7 f2 => ⟨(by show 3 ≤ sizeLine; decide), fun p hp => ?_⟩))))
    have eN : Ex H7 (upd H7 p (.lst [v0, v1, v2])) := Ex.new hp
    refine ev_modN (ev_divN (ev_var (i := 0) rfl) (b := 640) ev_c (by omega) (by omega)) (b := 3) ev_c (by omega) _ (Ex.refl _) _ fun H8 e8 => ?_
    have e48 := ((e5.trans e6).trans e7).trans (eN.trans e8)
    have hsq : SqL K H8 p [v0, v1, v2] := sq_of (e8 _ _ upd_same)
    generalize n / 640 % 3 = i at m3
    have h012 : i = 0 ∨ i = 1 ∨ i = 2 := by omega
    rcases h012 with rfl | rfl | rfl
    · exact rv_ixL hsq (atI_nat (j := 0) rfl) H8 (Ex.refl H8) _ fun H9 e9 => k' _ H9 (e48.trans e9) ⟨0, f0.ex (((e6.trans e7).trans (eN.trans e8)).trans e9), ⟨by decide, by decide⟩⟩
    · exact rv_ixL hsq (atI_nat (j := 1) rfl) H8 (Ex.refl H8) _ fun H9 e9 => k' _ H9 (e48.trans e9) ⟨_, f1.ex ((e7.trans (eN.trans e8)).trans e9), q2_int (by omega) (by omega)⟩
    · exact rv_ixL hsq (atI_nat (j := 2) rfl) H8 (Ex.refl H8) _ fun H9 e9 => k' _ H9 (e48.trans e9) ⟨_, f2.ex ((eN.trans e8).trans e9), q2_fr (by omega) (by omega) (by omega)⟩
  obtain ⟨so, fo, zo⟩ := hv
  have e14 := e13.trans e4
  -- ends
  refine q_asgR (R := fun v H => ∃ p t0 t1 t2 t3 t4, v = .ref p ∧ H p = some (.lst [.ref t0, .ref t1, .ref t2, .ref t3, .ref t4]) ∧ H t3 = some (.tup [.bl true, .ref aw, .ref am]) ∧ H t4 = some (.tup [.bl true, .ref aw, .ref am])) (fun H5 e5 Q' k' => ?_) fun ve H5 e5 hv => ?_
  · refine e_lst (a_cons (at_u (Evl.eu_tup (ea_cons ev_c (ea_cons ev_c (ea_cons ev_c ea_nil))) (by show 3 ≤ 100000; decide)) fun t0 H6 _ e6 h6 => a_cons (at_u (Evl.eu_tup (ea_cons ev_c (ea_cons (ev_var (i := 2) rfl) (ea_cons ev_c ea_nil))) (by show 3 ≤ 100000; decide)) fun t1 H7 _ e7 h7 => a_cons (at_u (Evl.eu_tup (ea_cons ev_c (ea_cons ev_c (ea_cons (ev_var (i := 2) rfl) ea_nil))) (by show 3 ≤ 100000; decide)) fun t2 H8 _ e8 h8 => a_cons (at_u (Evl.eu_tup (ea_cons ev_c (ea_cons (ev_var (i := 3) rfl) (ea_cons (ev_var (i := 4) rfl) ea_nil))) (by show 3 ≤ 100000; decide)) fun t3 H9 _ e9 h9 => a_cons (at_u (Evl.eu_tup (ea_cons ev_c (ea_cons (ev_var (i := 3) rfl) (ea_cons (ev_var (i := 4) rfl) ea_nil))) (by show 3 ≤ 100000; decide)) fun t4 H10 _ e10 h10 => ⟨(by show 5 ≤ sizeLine; decide), fun p hp => ?_⟩))))))
    have eN : Ex H10 (upd H10 p (.lst [.ref t0, .ref t1, .ref t2, .ref t3, .ref t4])) := Ex.new hp
    exact k' _ _ (((((e6.trans e7).trans e8).trans e9).trans e10).trans eN) ⟨p, t0, t1, t2, t3, t4, rfl, upd_same, eN _ _ (e10 _ _ h9), eN _ _ h10⟩
  obtain ⟨p5, t0, t1, t2, t3, t4, rfl, hp5, ht3, ht4⟩ := hv
  have e15 := e14.trans e5
  have e45 : Ex H1 H5 := (e2.trans e3).trans (e4.trans e5)
  -- more
  refine q_asgU2 (a := 35) (b := 14) (eu_2 (f := fun r s => r + s) (a := 30) (b := 10) (c := 10) (d := 4) (eu_var rfl ((fr1.ex e45).u zr)) (eu_var rfl ((fo.ex e5).u zo)) ⟨by omega, by omega, by omega⟩ (by omega) (by omega) (by omega) (by omega)) fun vmo H6 e6 fmo => ?_
  obtain ⟨pm, nm, dm, rfl, y1, y2, y3, y4, y5⟩ := fmo
  -- ends again
  refine q_asgR (R := fun v H => ∃ p t5 g, v = .ref p ∧ H p = some (.lst [.ref t0, .ref t1, .ref t2, .ref t3, .ref t4, .ref t5, .ref t5, .ref t5]) ∧ H t5 = some (.tup [.bl false, .ref a, .ref g]) ∧ FrA K H (.ref g) (fr nm dm)) (fun H7 e7 Q' k' => ?_) fun ve H7 e7 hv => ?_
  · have hp7 := e7 _ _ (e6 _ _ hp5)
    refine ⟨_, rfl, e_lst (a_cons (e_tup (a_cons (at_v ev_c fun H8 e8 => a_cons (at_v (ev_var (i := 2) rfl) fun H9 e9 => a_cons (at_f (evf_low (ev_item (i := 7) (j := 0) rfl (ex_t ((e7.trans e8).trans e9) y1) rfl) (ev_item (i := 7) (j := 1) rfl (ex_t ((e7.trans e8).trans e9) y1) rfl) y2 y3 y4 (by omega)) fun vh H10 e10 fh => ⟨(by show 3 ≤ sizeLine; decide), fun t5 ht5 => ⟨(by show 1 ≤ sizeLine; decide), fun l hl => ?_⟩⟩))))))⟩
    obtain ⟨g, rfl⟩ := fh.ref
    have eT : Ex H10 (upd H10 t5 (.tup [.bl false, .ref a, .ref g])) := Ex.new ht5
    have eL : Ex (upd H10 t5 (.tup [.bl false, .ref a, .ref g])) (upd (upd H10 t5 (.tup [.bl false, .ref a, .ref g])) l (.lst [.ref t5])) := Ex.new hl
    have e7L := (((e8.trans e9).trans e10).trans eT).trans eL
    refine ⟨l, 3, [.ref t5], rfl, rfl, upd_same, by decide, by decide, (by show 3 ≤ sizeLine; decide), fun rp hrp => ?_⟩
    have eR := (Ex.new hrp : Ex _ (upd (upd (upd H10 t5 (.tup [.bl false, .ref a, .ref g])) l (.lst [.ref t5])) rp (.lst (List.replicate (3 : Int).toNat [V.ref t5]).flatten)))
    refine ⟨p5, rp, _, _, rfl, rfl, (e7L.trans eR) _ _ hp7, upd_same, (by show 8 ≤ sizeLine; decide), fun cp hcp => ?_⟩
    refine k' _ _ ((e7L.trans eR).trans (Ex.new hcp)) ⟨cp, t5, g, rfl, upd_same, ?_, fh.ex (((eT.trans eL).trans eR).trans (Ex.new hcp))⟩
    exact Ex.new hcp _ _ (eR _ _ (eL _ _ upd_same))
  obtain ⟨p7, t5, g, rfl, hp7, ht5, fg⟩ := hv
  have e57 := e6.trans e7
  have e17 := e15.trans e57
  have e47 : Ex H1 H7 := e45.trans e57
  -- the ends taken
  have fin : ∀ (b : Bool) (f' g' : Addr) (lo hi : Rat) (σ : L2.St) (H8 : Hp), Ex H7 H8 → FrA K H8 (.ref f') lo → FrA K H8 (.ref g') hi → Q2 30 10 lo → Q2 35 14 hi → σ[1]? = some (some (.int (k : Nat))) → σ[8]? = some (some (.bl b)) → σ[9]? = some (some (.ref f')) → σ[10]? = some (some (.ref g')) →
      tRet (tTup (tCons (tOp (rIxL K) (tLst (tCons (tC (.str "x")) (tCons (tC (.str "y(a)")) (tCons (tC (.str "y(b)")) (tCons (tC (.str "z(a, b)")) tNil))))) (tVar 1)) (tCons (tVar 8) (tCons (tVar 9) (tCons (tVar 10) tNil))))) { nx := fun _ H' => Q .non H', rt := Q } σ H8 := by
    intro b f' g' lo hi σ H8 e8 hf hg zl zh s1 s8 s9 s10
    obtain ⟨nm, hnm⟩ := get_of_lt (xs := [V.str "x", V.str "y(a)", V.str "y(b)", V.str "z(a, b)"]) (i := k) hk
    refine s_ret_tup (a_cons (at_v (ev_pick (ea_cons ev_c (ea_cons ev_c (ea_cons ev_c (ea_cons ev_c ea_nil)))) (ev_var s1) (by show 4 ≤ 100000; decide) hnm) fun H9 e9 => a_cons (at_v (ev_var s8) fun H10 e10 => a_cons (at_v (ev_var s9) fun H11 e11 => a_cons (at_v (ev_var s10) fun H12 e12 => ⟨(by show 4 ≤ sizeLine; decide), fun u hu => ?_⟩)))))
    have e912 := (((e9.trans e10).trans e11).trans e12).trans (Ex.new hu : Ex H12 (upd H12 u (.tup [nm, .bl b, .ref f', .ref g'])))
    exact q _ lo hi _ (e17.trans (e8.trans e912)) ⟨u, nm, .bl b, f', g', rfl, st_of upd_same, hf.ex e912, hg.ex e912⟩ zl zh
  have m8 := Nat.mod_lt n (show 0 < 8 by omega)
  obtain ⟨t, b, f', g', lo, hi, ht, hh, h1, h2, h3, h4⟩ : ∃ (t : Addr) (b : Bool) (f' g' : Addr) (lo hi : Rat), [V.ref t0, .ref t1, .ref t2, .ref t3, .ref t4, .ref t5, .ref t5, .ref t5][n % 8]? = some (.ref t) ∧ H7 t = some (.tup [.bl b, .ref f', .ref g']) ∧ FrA K H7 (.ref f') lo ∧ FrA K H7 (.ref g') hi ∧ Q2 30 10 lo ∧ Q2 35 14 hi := by
    have w1 : FrA K H7 (.ref aw) (z : Rat) := fw.ex ((e3.trans e4).trans (e5.trans e57))
    have w2 := fm.ex (e4.trans (e5.trans e57))
    have w3 : Q2 30 10 (z : Rat) := q2_int zz (by omega)
    have w4 : Q2 35 14 ((z + (n / 640 % 101 : Nat) : Int) : Rat) := q2_int (by omega) (by omega)
    have h37 : n % 8 = 3 ∨ n % 8 = 4 ∨ n % 8 = 5 ∨ n % 8 = 6 ∨ n % 8 = 7 := by omega
    rcases h37 with h | h | h | h | h <;> rw [h]
    · exact ⟨t3, true, aw, am, _, _, rfl, e57 _ _ ht3, w1, w2, w3, w4⟩
    · exact ⟨t4, true, aw, am, _, _, rfl, e57 _ _ ht4, w1, w2, w3, w4⟩
    · exact ⟨t5, false, a, g, _, _, rfl, ht5, fr1.ex e47, fg, zr, q2_fr y2 y3 y4⟩
    · exact ⟨t5, false, a, g, _, _, rfl, ht5, fr1.ex e47, fg, zr, q2_fr y2 y3 y4⟩
    · exact ⟨t5, false, a, g, _, _, rfl, ht5, fr1.ex e47, fg, zr, q2_fr y2 y3 y4⟩
  refine q_unp3 (ev_var rfl) (ev_modN (ev_var (i := 0) rfl) (b := 8) ev_c (by omega)) (sq_of hp7) ht (st_of hh) fun H8 e8 => ?_
  exact fin b f' g' lo hi _ H8 e8 (h1.ex e8) (h2.ex e8) h3 h4 rfl rfl rfl rfl
end
end PX

/-! the law's values -/
namespace PX
open PySem PySem.Spec PyProof.Rows L2 Evl
open PW (Sz fr)
section
variable {K : PySem.W.Frag} {σ : L2.St} {H : Hp} {te tv tc : TE} {tl th : TO} {Q : VK} {g : TG} {tt : TT} {vs : List Nat}
theorem eu_slT {a : Addr} {xs : List V} {lo hi : Option Int} (h : Ev te σ H (.ref a)) (h1 : EvO tl σ H lo) (h2 : EvO th σ H hi) (hs : SqT K H a xs) (hw : ¬ (HT.sIx xs.length 0 lo = 0 ∧ HT.sIx xs.length xs.length hi = xs.length)) : EvU (tSl (rSlT K) te tl th) σ H (cutV xs lo hi) := fun H1 e Q q =>
  h H1 e _ fun G2 x2 => by
    refine h1 G2 (e.trans x2) _ fun G3 x3 => ?_
    refine h2 G3 (e.trans (x2.trans x3)) _ fun G4 x4 => ?_
    have since : Ex H1 G4 := x2.trans (x3.trans x4)
    refine ⟨a, xs, rfl, ex_t (e.trans since) hs, hw, fun p free => ?_⟩
    exact q p _ (fresh_back since free) (since.trans (Ex.new free)) upd_same
theorem lc_atT (h : tc σ H fun x H2 => tLc (iTup K (tC x)) g tt te vs σ H2 Q) : tLc (iTup K tc) g tt te vs σ H Q := h
/-- two fractions in a list aren't none -/
theorem et_ends {D f g : Addr} {r s : Rat} (h : Ev tv σ H (.ref D)) (hD : SqL K H D [.ref f, .ref g]) (hf : FrA K H (.ref f) r) (hg : FrA K H (.ref g) s) : EvT (tTest (tOp (rNeD K) tv (tLst tNil))) σ H true := fun H1 e1 Q q =>
  h H1 e1 _ fun H2 e2 => ⟨Nat.zero_le _, fun p hp => by
    have e3 : Ex H2 (upd H2 p (.lst [])) := Ex.new hp
    have e13 := (e1.trans e2).trans e3
    obtain ⟨a, ea, ha⟩ := hf.ex e13
    cases ea
    obtain ⟨b, eb, hb⟩ := hg.ex e13
    cases eb
    refine ⟨.list [.tuple [.int r.num, .int (r.den : Int)], .tuple [.int s.num, .int (s.den : Int)]], .list [], .lst (ex_l e13 hD) (.cons (.tup ha (.cons (.int _) (.cons (.int _) .nil))) (.cons (.tup hb (.cons (.int _) (.cons (.int _) .nil))) .nil)), .lst (sq_of upd_same) .nil, ?_, ints_shaped [], ?_⟩
    · unfold SeqAt.shaped
      simp [PyData.canLay0, PyData.canLayAll0, PyData.depth, PyData.depthAll]
    · have e : PyData.eqv (.list [.tuple [.int r.num, .int (r.den : Int)], .tuple [.int s.num, .int (s.den : Int)]]) (.list []) = false := by
        simp [PyData.eqv, PyData.eqvAll]
      rw [e]
      exact ⟨_, rfl, q _ (e2.trans e3)⟩⟩
end
section
variable {P : Program} {w : World} {K : PySem.W.Frag} {mg : Str → Option Value} {base : Heap}
abbrev N__law_value : List Str := ["_law_unknown_here", "_law_number", "_law_ends", "_law_end", "_law_kind", "_law_off", "_law_whole"]
theorem sc__law_value : FnScope N__law_value ["_law_unknown_here", "_law_number"] (defScope s__law_value) := ⟨rfl, rfl, rfl, by decide +kernel, rfl, by decide +kernel, by decide +kernel⟩
def spLVal (K : PySem.W.Frag) : Sp := fun vs H Q _ => ∃ (u : V) (n : Nat) (lo hi : Rat), vs = [u, .int (n : Nat)] ∧ UnkT K H u lo hi ∧ Q2 30 10 lo ∧ Q2 35 14 hi ∧ ∀ v r H', Ex H H' → FrA K H' v r → Q2 60 37 r → Q v H'
theorem ok__law_value (T : Txt w K mg) : FnOk P w K mg base CX0 3 T._law_value.f T._law_value.fd ["_law_unknown_here", "_law_number"] (spLVal K) := by
  refine T._law_value.F.ok sc__law_value (fun vs H Q E h => ?_) (fun cdv A outer s H vs Q E hr h => ?_)
  · obtain ⟨u, n, lo, hi, rfl, _⟩ := h
    rfl
  obtain ⟨u, n, lo, hi, rfl, ⟨t, a, b, f, g, rfl, ht, hf, hg⟩, z1, z2, q⟩ := h
  refine ⟨_, PSs.nox (pss_cons (ps_setLc (i := 2) (own := [("_law_end", 3)]) (g := gName 3) rfl sc__law_value.nd rfl rfl (sw_true rfl rfl rfl (by decide +kernel)) (pi_tupK (K := K) rfl (pe_slice (sl_tupK (K := K) rfl) (pv 0) (po_some pe_int) po_none)) (blkOk_by (N := N__law_value) (sc := defScope s__law_value) (by decide +kernel))
 (fun _ _ _ _ _ => (pg_name (i := 3) sc__law_value.nd rfl (Or.inl rfl))) (fun _ _ _ _ _ => (pts_one (pt_cmpR op_notNK (pv 3) pe_non (nomark _)))) (fun _ _ _ _ _ => (pv 3)))
 (pss_cons (ps_set (i := 4) sc__law_value.nd rfl (Or.inl rfl) (pe_op op_modN (pv 1) pe_int))
 (pss_cons (ps_if (PW.pt (pw_and (pt_cmpR (op_neD hr.units) (pv 2) (pe_lst pa_nil) (nomark _)) (pw_and1 (pt_cmpR op_lt (pv 4) pe_int (nomark _))))) (pss_one (ps_ret (pe_ix (ix_listK (K := K) rfl) (pv 2) (pe_op op_modN (pe_op op_fdivW (pv 1) pe_int) (pe_callB (call_lenK (K := K) rfl) (by rfl) T.m_len PySem.boot_len (pa_cons (pv 2) pa_nil))) (fun _ _ => rfl)))) pss_nil)
 (pss_cons (ps_if (PW.pt (pw_and (pt_cmpR op_eq (pe_callB (call_lenK (K := K) rfl) (by rfl) T.m_len PySem.boot_len (pa_cons (pv 2) pa_nil)) pe_int (nomark _)) (pw_and1 (pt_cmpR op_lt (pv 4) pe_int (nomark _))))) (pss_cons (ps_set (i := 5) sc__law_value.nd rfl (Or.inl rfl) (pe_call (ok__law_plus T) (hr.mono (by decide)) rfl T._law_plus.g T._law_plus.F.kp (b__law_plus T) .nil pass0 (pa_cons (pe_ix (ix_listK (K := K) rfl) (pv 2) pe_int (fun _ _ => rfl)) (pa_cons (pe_tup (pa_cons (pe_op op_sub pe_int (pe_ix (ix_tupK (K := K) rfl) (pe_ix (ix_listK (K := K) rfl) (pv 2) pe_int (fun _ _ => rfl)) pe_int (fun _ _ => rfl))) (pa_cons (pe_ix (ix_tupK (K := K) rfl) (pe_ix (ix_listK (K := K) rfl) (pv 2) pe_int (fun _ _ => rfl)) pe_int (fun _ _ => rfl)) pa_nil))) pa_nil))))
 (pss_cons (ps_set (i := 6) sc__law_value.nd rfl (Or.inl rfl) (pe_call (ok__law_plus T) (hr.mono (by decide)) rfl T._law_plus.g T._law_plus.F.kp (b__law_plus T) .nil pass0 (pa_cons (pe_ix (ix_listK (K := K) rfl) (pv 2) pe_int (fun _ _ => rfl)) (pa_cons (pe_call (ok__law_times T) (hr.mono (by decide)) rfl T._law_times.g T._law_times.F.kp (b__law_times T) .nil pass0 (pa_cons (pv 5) (pa_cons (pe_tup (pa_cons (pe_op op_modN (pe_op op_fdivW (pv 1) pe_int) pe_int) (pa_cons pe_int pa_nil))) pa_nil))) pa_nil))))
 (pss_one (ps_ret (pe_call (ok__law_lowest T) (hr.mono (by decide)) rfl T._law_lowest.g T._law_lowest.F.kp (b__law_lowest T) .nil pass0 (pa_cons (pe_ix (ix_tupK (K := K) rfl) (pv 6) pe_int (fun _ _ => rfl)) (pa_cons (pe_ix (ix_tupK (K := K) rfl) (pv 6) pe_int (fun _ _ => rfl)) pa_nil))))))) pss_nil)
 (pss_cons (ps_set (i := 5) sc__law_value.nd rfl (Or.inl rfl) (pe_tup (pa_cons (pe_op op_modN (pe_op op_fdivW (pv 1) pe_int) pe_int) (pa_cons (pe_op op_add pe_int (pe_op op_modN (pe_op op_fdivW (pv 1) pe_int) pe_int)) pa_nil))))
 (pss_cons (ps_if (PW.pt (pw_and (pt_cmpR (op_neD hr.units) (pv 2) (pe_lst pa_nil) (nomark _)) (pw_and1 (pt_cmpR op_lt (pv 4) pe_int (nomark _))))) (pss_cons (ps_set (i := 6) sc__law_value.nd rfl (Or.inl rfl) (pe_call (ok__law_plus T) (hr.mono (by decide)) rfl T._law_plus.g T._law_plus.F.kp (b__law_plus T) .nil pass0 (pa_cons (pe_ix (ix_listK (K := K) rfl) (pv 2) pe_int (fun _ _ => rfl)) (pa_cons (pe_tup (pa_cons (pe_ix (ix_listK (K := K) rfl) (pe_lst (pa_cons (pe_ix (ix_tupK (K := K) rfl) (pv 5) pe_int (fun _ _ => rfl)) (pa_cons (pe_op op_sub pe_int (pe_ix (ix_tupK (K := K) rfl) (pv 5) pe_int (fun _ _ => rfl))) pa_nil))) (pe_callTy call_int1 (by rfl) T.m_int (by decide +kernel) (pa_cons (pe_cmpR op_isNK (pe_ix (ix_tupK (K := K) rfl) (pv 0) pe_int (fun _ _ => rfl)) pe_non (nomark _)) pa_nil)) (fun _ _ => rfl)) (pa_cons (pe_ix (ix_tupK (K := K) rfl) (pv 5) pe_int (fun _ _ => rfl)) pa_nil))) pa_nil))))
 (pss_one (ps_ret (pe_call (ok__law_lowest T) (hr.mono (by decide)) rfl T._law_lowest.g T._law_lowest.F.kp (b__law_lowest T) .nil pass0 (pa_cons (pe_ix (ix_tupK (K := K) rfl) (pv 6) pe_int (fun _ _ => rfl)) (pa_cons (pe_ix (ix_tupK (K := K) rfl) (pv 6) pe_int (fun _ _ => rfl)) pa_nil)))))) pss_nil)
 (pss_one (ps_ret (pe_call (ok__law_fraction T) (hr.mono (by decide)) rfl T._law_fraction.g T._law_fraction.F.kp (b__law_fraction T) .nil pass0 (pa_cons (pe_op op_fdivW (pv 1) pe_int) pa_nil)))))))))), ?_⟩
  -- the ends
  refine q_asgR (R := fun v H => ∃ E, v = .ref E ∧ H E = some (.lst [.ref f, .ref g])) (fun H1 e1 Q' k' => ?_) fun v H1 e1 hv => ?_
  · refine lc_atT (at_u (eu_slT (ev_var (i := 0) rfl) (eo_some (i := 2) ev_c) eo_none (ex_t e1 ht) (show ¬ (HT.sIx 4 0 (some 2) = 0 ∧ HT.sIx 4 4 none = 4) by decide)) fun p H2 hp e2 h2 => ?_)
    have hcut : cutV [a, b, .ref f, .ref g] (some 2) none = [.ref f, .ref g] := rfl
    rw [hcut] at h2
    refine at_c (evc_tupF (K := K) (xs := [.ref f, .ref g]) (j := 3) (vs := [3]) (fun _ => true) (fun _ i v _ => [V.ref f, .ref g][i]? = some v) ev_c (st_of h2) (by show 2 ≤ 90000; omega) (fun _ => rfl)
      (fun D i x H3 hD e3 hl hx => ?_) (fun D i x H3 hD e3 hl hx _ => evr_ev (ev_var rfl) fun _ _ => hx) (fun _ _ _ _ _ _ _ h => h)) fun D H3 ys hD e3 h3 o => ?_
    · have : ∃ r, x = V.ref r := by
        match i, hx with
        | 0, hx => exact ⟨f, (Option.some.inj hx).symm⟩
        | 1, hx => exact ⟨g, (Option.some.inj hx).symm⟩
        | i + 2, hx => simp at hx
      obtain ⟨r, rfl⟩ := this
      exact et_ref_notN (ev_var rfl)
    · obtain ⟨o1, o2⟩ := outs_all o
      have : ys = [.ref f, .ref g] := List.ext_getElem? fun i => by
        by_cases hi : i < ys.length
        · rw [List.getElem?_eq_getElem hi]
          exact (o2 i ys[i] (List.getElem?_eq_getElem hi)).symm
        · rw [List.getElem?_eq_none (by omega), List.getElem?_eq_none (by rw [← o1]; omega)]
      subst this
      exact k' _ H3 (e2.trans e3) ⟨D, rfl, h3⟩
  obtain ⟨EE, rfl, hE⟩ := hv
  have hf1 := hf.ex e1
  have hg1 := hg.ex e1
  refine q_asg (v := .int (n % 6 : Nat)) (ev_modN (ev_var rfl) (b := 6) ev_c (by omega)) fun H2 e2 => ?_
  have e12 := e1.trans e2
  have hE2 := e2 _ _ hE
  obtain ⟨ff, eff, hff⟩ := id hf
  cases eff
  refine q_when (b := true && decide (((n % 6 : Nat) : Int) < 2)) (et_and (et_ends (ev_var rfl) (sq_of hE2) (hf.ex e12) (hg.ex e12)) fun _ => et_test (ev_op (ev_var rfl) ev_c rv_I0)) (fun hb H3 e3 => ?_) (fun hb H3 e3 => ?_)
  · have m2 := Nat.mod_lt (n / 6) (show 0 < 2 by omega)
    have e13 := e12.trans e3
    have hE3 := e3 _ _ hE2
    have evi : Ev (tOp (rI (fun _ j => j ≠ 0) fun i j => V.int (i.fmod j)) (tOp (rI CDivW fun i j => V.int (i / j)) (tVar 1) (tC (.int 6))) (tCB (rLenQ K) (tCons (tVar 2) tNil))) [some (.ref t), some (.int (n : Nat)), some (.ref EE), none, some (.int (n % 6 : Nat)), none, none] H3 (.int ((n / 6 % 2 : Nat) : Nat)) :=
      ev_modN (ev_divN (ev_var rfl) (b := 6) ev_c (by omega) (by omega)) (b := 2) (ev_lenL (ev_var rfl) (sq_of hE3)) (by omega)
    have h01 : n / 6 % 2 = 0 ∨ n / 6 % 2 = 1 := by omega
    rcases h01 with h | h
    · refine s_ret (v := .ref f) (ev_op (ev_var rfl) evi (rv_ixL (sq_of hE3) (atI_nat (by rw [h]; rfl)))) fun H4 e4 => q _ lo H4 (e13.trans e4) (hf.ex (e13.trans e4)) (z1.mono (by omega) (by omega))
    · refine s_ret (v := .ref g) (ev_op (ev_var rfl) evi (rv_ixL (sq_of hE3) (atI_nat (by rw [h]; rfl)))) fun H4 e4 => q _ hi H4 (e13.trans e4) (hg.ex (e13.trans e4)) (z2.mono (by omega) (by omega))
  have e13 := e12.trans e3
  have hE3 := e3 _ _ hE2
  have ld := lo.den_pos
  have ev0 : ∀ {σ : L2.St} {H4 : Hp}, Ex H3 H4 → σ[2]? = some (some (.ref EE)) → Ev (tOp (rIxL K) (tVar 2) (tC (.int 0))) σ H4 (.ref f) := fun e h => ev_op (ev_var h) ev_c (rv_ixL (sq_of (e _ _ hE3)) (atI_nat (j := 0) rfl))
  have ev1 : ∀ {σ : L2.St} {H4 : Hp}, Ex H3 H4 → σ[2]? = some (some (.ref EE)) → Ev (tOp (rIxL K) (tVar 2) (tC (.int 1))) σ H4 (.ref g) := fun e h => ev_op (ev_var h) ev_c (rv_ixL (sq_of (e _ _ hE3)) (atI_nat (j := 1) rfl))
  refine q_when (b := decide (V.int (([V.ref f, V.ref g].length : Nat) : Int) = V.int 2) && decide (((n % 6 : Nat) : Int) < 5)) (et_and (et_test (ev_op (ev_lenL (ev_var rfl) (sq_of hE3)) ev_c (rv_eq rfl))) fun _ => et_test (ev_op (ev_var rfl) ev_c rv_I0)) (fun hb H4 e4 => ?_) (fun hb H4 e4 => ?_)
  · have e14 := e13.trans e4
    have m5 := Nat.mod_lt (n / 6) (show 0 < 5 by omega)
    have ha4 := ex_t e14 hff
    refine q_asgU2 (a := 46) (b := 24) (eu_2 (f := fun r s => r + s) (a := 35) (b := 14) (c := 30) (d := 10) (eu_of (ev1 e4 rfl) ((hg.ex e14).u z2)) (eu_tup (n := 0 - lo.num) (m := (lo.den : Int)) (ev_op ev_c (ev_op (ev0 e4 rfl) ev_c (rv_ixT ha4 rfl)) rv_I0) (ev_op (ev0 e4 rfl) ev_c (rv_ixT ha4 rfl)) (by omega) (by have := z1.1; omega) z1.2) ⟨by omega, by omega, by omega⟩ (by omega) (by omega) (by omega) (by omega)) fun vo H5 e5 fo => ?_
    have e15 := e14.trans e5
    refine q_asgU2 (a := 60) (b := 37) (eu_2 (f := fun r s => r + s) (a := 30) (b := 10) (c := 49) (d := 27) (eu_of (ev0 (e4.trans e5) rfl) ((hf.ex e15).u z1)) (eu_2 (f := fun r s => r * s) (a := 46) (b := 24) (c := 3) (d := 3) (eu_var rfl fo) (eu_tup (n := ((n / 6 % 5 : Nat) : Int)) (m := 4) (ev_modN (ev_divN (ev_var rfl) (b := 6) ev_c (by omega) (by omega)) (b := 5) ev_c (by omega)) ev_c (by omega) (by omega) (by omega)) ⟨by omega, by omega⟩ (by omega) (by omega) (by omega) (by omega)) ⟨by omega, by omega, by omega⟩ (by omega) (by omega) (by omega) (by omega)) fun vw H6 e6 fw => ?_
    obtain ⟨p6, n6, d6, rfl, y1, y2, y3, y4, y5⟩ := fw
    exact s_retF (evf_low (ev_item rfl y1 rfl) (ev_item rfl y1 rfl) y2 y3 y4 (by omega)) fun v H7 e7 f7 => q v _ H7 ((e15.trans e6).trans e7) f7 (q2_fr y2 y3 y4)
  have e14 := e13.trans e4
  have hk5 : ¬ ((n % 6 : Nat) : Int) < 5 := fun h => by
    rw [decide_eq_true h] at hb
    cases hb
  refine q_asgR (R := fun _ _ => True) (fun H5 e5 Q' k' => ?_) fun vo H5 e5 _ => ?_
  · refine e_tup (a_cons (at_v (ev_modN (ev_divN (ev_var (i := 1) rfl) (b := 6) ev_c (by omega) (by omega)) (b := 10) ev_c (by omega)) fun H6 e6 => a_cons (at_v (ev_addN (a := 1) ev_c (ev_modN (ev_divN (ev_var (i := 1) rfl) (b := 60) ev_c (by omega) (by omega)) (b := 3) ev_c (by omega))) fun H7 e7 => ⟨(by show 2 ≤ sizeLine; decide), fun p hp => k' _ _ ((e6.trans e7).trans (Ex.new hp)) trivial⟩)))
  have e15 := e14.trans e5
  refine q_when (b := true && decide (((n % 6 : Nat) : Int) < 5)) (et_and (et_ends (ev_var rfl) (sq_of ((e4.trans e5) _ _ hE3)) (hf.ex e15) (hg.ex e15)) fun _ => et_test (ev_op (ev_var rfl) ev_c rv_I0)) (fun hb H6 e6 => ?_) (fun hb H6 e6 => ?_)
  · rw [decide_eq_false hk5] at hb
    cases hb
  · refine s_retR (er_frac (n := n / 6) (ev_divN (ev_var rfl) (b := 6) ev_c (by omega) (by omega))) fun v H7 e7 hv => ?_
    obtain ⟨r, f7, z7⟩ := hv
    exact q v r H7 ((e15.trans e6).trans e7) f7 (z7.mono (by omega) (by omega))
end
end PX

/-! the law's rows, goal -/
namespace PX
open PySem PySem.Spec PyProof.Rows L2 Evl
open PW (Sz fr)
section
variable {K : PySem.W.Frag} {σ : L2.St} {H : Hp} {ta tb ti : TE} {E : XK}
def IntR (m : Nat) (v : V) (_ : Hp) : Prop := ∃ i : Nat, v = .int (i : Nat) ∧ i < m
theorem er_mod {n m : Nat} (ha : EvR ta σ H (IntR n)) (hb : Ev tb σ H (.int (m : Nat))) (hm : 0 < m) : EvR (tOp (rI (fun _ j => j ≠ 0) fun i j => V.int (i.fmod j)) ta tb) σ H (IntR m) := fun H1 e Q k =>
  ha H1 e _ fun v H2 e2 ⟨i, ev, hi⟩ => by
    subst ev
    exact ev_modN (ev_c (v := .int (i : Nat))) (hb.mono (e.trans e2)) hm H2 (Ex.refl H2) Q fun H3 e3 => k _ H3 (e2.trans e3) ⟨_, rfl, Nat.mod_lt _ hm⟩
theorem er_mix {c : Int} {k : Nat} (ha : Ev ta σ H (.int c)) (hb : Ev tb σ H (.int (k : Nat))) (hk : k ≤ 1000) : EvR (tCall spMixed [] E (tCons ta (tCons tb tNil))) σ H (IntR (2 ^ 30)) := er_mixed ha hb hk
theorem er_fracR {n : Nat} (ha : EvR ta σ H (IntR n)) : EvR (tCall (spLFrac K) [] E (tCons ta tNil)) σ H (fun v H => ∃ r, FrA K H v r ∧ Q2 30 10 r) := fun H1 e Q q =>
  ha H1 e _ fun v H2 e2 ⟨i, ev, hi⟩ => by
    subst ev
    exact ⟨i, rfl, fun v r H3 e3 f z => q v H3 (e2.trans e3) ⟨r, f, z⟩⟩
theorem er_pick {tl : TA} {xs : List V} (ha : EvA tl σ H xs) (hi : EvR ti σ H (IntR xs.length)) (hl : xs.length ≤ 100000) : EvR (tOp (rIxL K) (tLst tl) ti) σ H (fun v _ => ∃ i : Nat, xs[i]? = some v) := fun H1 e Q k =>
  ha H1 e _ fun H2 e2 => ⟨Nat.le_trans hl (by decide), fun p hp => hi _ ((e.trans e2).trans (Ex.new hp)) _ fun v H3 e3 ⟨i, ev, hlt⟩ => by
    subst ev
    have h3 : H3 p = some (.lst xs) := e3 _ _ upd_same
    obtain ⟨x, hx⟩ := get_of_lt hlt
    exact rv_ixL (sq_of h3) (atI_nat hx) H3 (Ex.refl H3) Q fun H4 e4 => k x H4 (((e2.trans (Ex.new hp)).trans e3).trans e4) ⟨i, hx⟩⟩
end
theorem at_U2 {K : PySem.W.Frag} {te : TE} {σ : L2.St} {H : Hp} {r : Rat} {a b : Nat} {Q : VK} (h : EvU2 K te σ H r a b) (k : ∀ v H2, Ex H H2 → FrU K H2 v r a b → Q v H2) : te σ H Q := h H (Ex.refl H) Q k
theorem PairsF.fx {K : PySem.W.Frag} {D p : Addr} {H H' : Hp} {ys : List V} {ps : List (Nat × Rat)} (x : Fx D H H') (hD : H D = some (.lst ys)) (h : PairsF K H p ps) : PairsF K H' p ps :=
  let ⟨qs, ⟨o, a, a2⟩, b, c⟩ := h; ⟨qs, ⟨o, x _ _ (fun z => by rw [z, hD] at a; cases a) a, a2⟩, b, fun i q kr h1 h2 => let ⟨f, u, v⟩ := c i q kr h1 h2; ⟨f, fx_t x hD u, v.fx x hD⟩⟩
/-- a row -/
def RowT (K : PySem.W.Frag) (H : Hp) (v : V) (row : RowD) : Prop := ∃ (t : Addr) (a : V) (p : Addr) (f : V), v = .ref t ∧ SqT K H t [a, .ref p, .str (mkS row.mark), f] ∧ PairsF K H p row.pairs ∧ FrA K H f row.c
theorem RowT.ex {K : PySem.W.Frag} {H H' : Hp} {v : V} {row : RowD} (e : Ex H H') (h : RowT K H v row) : RowT K H' v row :=
  let ⟨t, a, p, f, h1, h2, h3, h4⟩ := h; ⟨t, a, p, f, h1, ex_t e h2, h3.ex e, h4.ex e⟩
theorem RowT.fx {K : PySem.W.Frag} {D : Addr} {H H' : Hp} {ys : List V} {v : V} {row : RowD} (x : Fx D H H') (hD : H D = some (.lst ys)) (h : RowT K H v row) : RowT K H' v row :=
  let ⟨t, a, p, f, h1, h2, h3, h4⟩ := h; ⟨t, a, p, f, h1, fx_t x hD h2, h3.fx x hD, h4.fx x hD⟩
/-- rows in a tuple -/
def RowsF (K : PySem.W.Frag) (H : Hp) (R : Addr) (rs : List RowD) : Prop := ∃ xs, SqT K H R xs ∧ xs.length = rs.length ∧ ∀ (i : Nat) v row, xs[i]? = some v → rs[i]? = some row → RowT K H v row
theorem RowsF.ex {K : PySem.W.Frag} {H H' : Hp} {R : Addr} {rs : List RowD} (e : Ex H H') (h : RowsF K H R rs) : RowsF K H' R rs :=
  let ⟨xs, a, b, c⟩ := h; ⟨xs, ex_t e a, b, fun i v row h1 h2 => (c i v row h1 h2).ex e⟩
theorem RowsF.a {K : PySem.W.Frag} {H : Hp} {R : Addr} {rs : List RowD} (h : RowsF K H R rs) : RowsA K H R rs := by
  obtain ⟨xs, a, b, c⟩ := h
  obtain ⟨ts, rfl⟩ := refs_of (xs := xs) fun i v hv => by
    obtain ⟨row, hrow⟩ := get_of_lt (xs := rs) (i := i) (by have := get_lt hv; omega)
    obtain ⟨t, _, _, _, e, _⟩ := c i v row hv hrow
    exact ⟨t, e⟩
  refine ⟨ts, a, by rw [← b, List.length_map], fun i t row ht hrow => ?_⟩
  obtain ⟨t', x, p, f, e, h2, h3, h4⟩ := c i (.ref t) row (at_map_ref ht) hrow
  cases e
  exact ⟨x, p, f, h2, h3.t, h4⟩
/-- how great a row may be -/
def RowZ (row : RowD) : Prop := Pr2 row.pairs ∧ (∀ kr ∈ row.pairs, Q2 30 10 kr.2) ∧ Q2 198 105 row.c
section
variable {P : Program} {w : World} {K : PySem.W.Frag} {mg : Str → Option Value} {base : Heap}
abbrev N__law_goal : List Str := ["_law_cell", "_law_many", "_law_pairs_here"]
theorem sc__law_goal : FnScope N__law_goal ["_law_cell", "_law_many"] (defScope s__law_goal) := ⟨rfl, rfl, rfl, by decide +kernel, rfl, by decide +kernel, by decide +kernel⟩
def spLGoal (K : PySem.W.Frag) : Sp := fun vs H Q _ => ∃ c : Int, vs = [.int c, .int 2] ∧ ∀ g least ps H', Ex H H' → GoalA K H' g least ps → Pr2 ps → (∀ kr ∈ ps, Q2 30 10 kr.2) → Q (.ref g) H'
theorem at_pairs (T : Txt w K mg) {σ : L2.St} {H : Hp} {Q : VK} {ta tb : TE} {E : XK} {c : Int} (ha : EvR ta σ H (fun v _ => ∃ c : Int, v = .int c)) (hb : Ev tb σ H (.int 2)) (k : ∀ t ps H', Ex H H' → PairsF K H' t ps → Pr2 ps → (∀ kr ∈ ps, Q2 30 10 kr.2) → Q (.ref t) H') :
    tCall (spLPairs K) [] E (tCons ta (tCons tb tNil)) σ H Q :=
  ha H (Ex.refl H) _ fun v H1 e1 ⟨c, ev⟩ => hb H1 e1 _ fun H2 e2 => by
    subst ev
    exact ⟨c, rfl, fun t ps H3 e3 h1 h2 h3 => k t ps H3 ((e1.trans e2).trans e3) h1 h2 h3⟩
theorem ok__law_goal (T : Txt w K mg) : FnOk P w K mg base CX0 4 T._law_goal.f T._law_goal.fd ["_law_cell", "_law_many"] (spLGoal K) := by
  refine T._law_goal.F.ok sc__law_goal (fun vs H Q E h => ?_) (fun cdv A outer s H vs Q E hr h => ?_)
  · obtain ⟨c, rfl, _⟩ := h
    rfl
  obtain ⟨c, rfl, q⟩ := h
  refine ⟨_, PSs.nox (pss_cons (ps_set (i := 2) sc__law_goal.nd rfl (Or.inl rfl) (pe_call (ok__law_pairs T) (hr.mono (by decide)) rfl T._law_pairs.g T._law_pairs.F.kp (b__law_pairs T) .nil pass0 (pa_cons (pe_call (ok__law_mixed T) (hr.mono (by decide)) rfl T._law_mixed.g T._law_mixed.F.kp (b__law_mixed T) .nil pass0 (pa_cons (pv 0) (pa_cons pe_int pa_nil))) (pa_cons (pv 1) pa_nil))))
 (pss_one (ps_ret (pe_tup (pa_cons (pe_ix (ix_listK (K := K) rfl) (pe_lst (pa_cons pe_str (pa_cons pe_str pa_nil))) (pe_op op_modN (pe_call (ok__law_mixed T) (hr.mono (by decide)) rfl T._law_mixed.g T._law_mixed.F.kp (b__law_mixed T) .nil pass0 (pa_cons (pv 0) (pa_cons pe_int pa_nil))) pe_int) (fun _ _ => rfl)) (pa_cons (pv 2) (pa_cons (pe_call (ok__law_fraction T) (hr.mono (by decide)) rfl T._law_fraction.g T._law_fraction.F.kp (b__law_fraction T) .nil pass0 (pa_cons (pe_call (ok__law_mixed T) (hr.mono (by decide)) rfl T._law_mixed.g T._law_mixed.F.kp (b__law_mixed T) .nil pass0 (pa_cons (pv 0) (pa_cons pe_int pa_nil))) pa_nil)) pa_nil))))))), ?_⟩
  refine q_at (at_pairs T (c := 0) (fun H1 e Q' k' => er_mix (ev_var rfl) (k := 40) ev_c (by omega) H1 e Q' fun v H2 e2 ⟨i, hv, _⟩ => k' v H2 e2 ⟨_, hv⟩) (ev_var rfl) fun t ps H1 e1 hp h2 hz => ?_)
  refine s_ret_tup (a_cons (at_r (er_pick (ea_cons ev_c (ea_cons ev_c ea_nil)) (er_mod (er_mix (ev_var (i := 0) rfl) (k := 41) ev_c (by omega)) (m := 2) ev_c (by omega)) (by show 2 ≤ 100000; decide)) fun v H2 e2 hv => a_cons (at_v (ev_var rfl) fun H3 e3 => a_cons (at_r (er_fracR (er_mix (ev_var (i := 0) rfl) (k := 42) ev_c (by omega))) fun v3 H4 e4 _ => ⟨(by show 3 ≤ sizeLine; decide), fun u hu => ?_⟩))))
  obtain ⟨i, hi⟩ := hv
  have e14 : Ex H1 (upd H4 u (.tup [v, .ref t, v3])) := ((e2.trans e3).trans e4).trans (Ex.new hu)
  have hi2 := get_lt hi
  match i, hi with
  | 0, hi =>
    cases hi
    exact q u true ps _ (e1.trans e14) ⟨t, v3, st_of upd_same, (hp.ex e14).t⟩ h2 hz
  | 1, hi =>
    cases hi
    exact q u false ps _ (e1.trans e14) ⟨t, v3, st_of upd_same, (hp.ex e14).t⟩ h2 hz
abbrev N__law_rows : List Str := ["_law_script", "_law_first", "_law_size", "_law_values", "_law_rows_here", "_law_k", "_law_cell", "_law_pairs_here", "_law_mark", "_law_left", "_law_name"]
theorem sc__law_rows : FnScope N__law_rows ["_law_script", "_law_first", "_law_size", "_law_values"] (defScope s__law_rows) := ⟨rfl, rfl, rfl, by decide +kernel, rfl, by decide +kernel, by decide +kernel⟩
def spLRows (K : PySem.W.Frag) : Sp := fun vs H Q _ => ∃ (a va : Addr) (ns : List Int) (n : Nat) (f : Nat → Rat), vs = [.ref a, .int 5, .int (n : Nat), .ref va] ∧ SqL K H a (ns.map V.int) ∧ n ≤ 3 ∧ ValsA K H va f 60 37 ∧ (∃ xs, SqL K H va xs ∧ xs.length = 2) ∧
  ∀ R rs H', Ex H H' → RowsF K H' R rs → rs.length = n → (∀ row ∈ rs, RowZ row) → Q (.ref R) H'
theorem ok__law_rows (T : Txt w K mg) : FnOk P w K mg base CX0 4 T._law_rows.f T._law_rows.fd ["_law_script", "_law_first", "_law_size", "_law_values"] (spLRows K) := by
  refine T._law_rows.F.ok sc__law_rows (fun vs H Q E h => ?_) (fun cdv A outer s H vs Q E hr h => ?_)
  · obtain ⟨a, va, ns, n, f, rfl, _⟩ := h
    rfl
  obtain ⟨a, va, ns, n, f, rfl, ha, hn, hv, ⟨vx, vx1, vx2⟩, q⟩ := h
  refine ⟨_, PSs.nox (pss_cons (ps_set (i := 4) sc__law_rows.nd rfl (Or.inl rfl) (pe_lst pa_nil))
 (pss_cons (ps_for PassesOwn.never rfl (pi_range1 (by rfl) T.m_range (pa_cons (pv 2) pa_nil)) (pg_name (i := 5) sc__law_rows.nd rfl (Or.inl rfl))
 (pss_cons (ps_set (i := 6) sc__law_rows.nd rfl (Or.inl rfl) (pe_call (ok__law_at T) (hr.mono (by decide)) rfl T._law_at.g T._law_at.F.kp (b__law_at T) .nil pass0 (pa_cons (pv 0) (pa_cons (pe_op op_add (pv 1) (pv 5)) pa_nil))))
 (pss_cons (ps_set (i := 7) sc__law_rows.nd rfl (Or.inl rfl) (pe_call (ok__law_pairs T) (hr.mono (by decide)) rfl T._law_pairs.g T._law_pairs.F.kp (b__law_pairs T) .nil pass0 (pa_cons (pv 6) (pa_cons (pe_callB (call_lenK (K := K) rfl) (by rfl) T.m_len PySem.boot_len (pa_cons (pv 3) pa_nil)) pa_nil))))
 (pss_cons (ps_set (i := 8) sc__law_rows.nd rfl (Or.inl rfl) (pe_ix (ix_listK (K := K) rfl) (pe_lst (pa_cons pe_str (pa_cons pe_str (pa_cons pe_str pa_nil)))) (pe_op op_modN (pe_call (ok__law_mixed T) (hr.mono (by decide)) rfl T._law_mixed.g T._law_mixed.F.kp (b__law_mixed T) .nil pass0 (pa_cons (pv 6) (pa_cons (pe_op op_add pe_int (pv 5)) pa_nil))) pe_int) (fun _ _ => rfl)))
 (pss_cons (ps_set (i := 9) sc__law_rows.nd rfl (Or.inl rfl) (pe_call (ok__law_worth T) (hr.mono (by decide)) rfl T._law_worth.g T._law_worth.F.kp (b__law_worth T) .nil pass0 (pa_cons (pe_tup (pa_cons pe_int (pa_cons pe_int pa_nil))) (pa_cons (pv 7) (pa_cons (pv 3) pa_nil)))))
 (pss_cons (ps_set (i := 10) sc__law_rows.nd rfl (Or.inl rfl) (pe_ix (ix_listK (K := K) rfl) (pe_lst (pa_cons pe_str (pa_cons pe_str (pa_cons pe_str (pa_cons pe_str (pa_cons pe_str pa_nil)))))) (pv 5) (fun _ _ => rfl)))
 (pss_one (ps_expr (pe_bm PySem.F.plainAttrs_list PySem.F.slot_list_append PySem.F.type_list_append mt_append (pv 4) (pa_cons (pe_tup (pa_cons (pv 10) (pa_cons (pv 7) (pa_cons (pv 8) (pa_cons (pe_call (ok__law_bound T) (hr.mono (by decide)) rfl T._law_bound.g T._law_bound.F.kp (b__law_bound T) .nil pass0 (pa_cons (pv 9) (pa_cons (pv 8) (pa_cons (pe_call (ok__law_mixed T) (hr.mono (by decide)) rfl T._law_mixed.g T._law_mixed.F.kp (b__law_mixed T) .nil pass0 (pa_cons (pv 6) (pa_cons (pe_op op_add pe_int (pv 5)) pa_nil))) pa_nil)))) pa_nil))))) pa_nil))))))))))
 (pss_one (ps_ret (pe_callTy (call_tupleK (K := K) rfl) (by rfl) T.m_tuple (by decide +kernel) (pa_cons (pv 4) pa_nil)))))), ?_⟩
  refine q_asgL (el_lst ea_nil (Nat.zero_le _)) fun F H1 hF e1 h1 => ?_
  refine q_forR1 (n := (n : Nat)) (ea_cons (ev_var rfl) ea_nil) (by omega) (fun k σ' H' => Ex H H' ∧ (∃ c5 c6 c7 c8 c9 c10, σ' = [some (.ref a), some (.int 5), some (.int (n : Nat)), some (.ref va), some (.ref F), c5, c6, c7, c8, c9, c10]) ∧ ∃ (xs : List V) (rs : List RowD), H' F = some (.lst xs) ∧ xs.length = k ∧ rs.length = k ∧ (∀ (i : Nat) v row, xs[i]? = some v → rs[i]? = some row → RowT K H' v row) ∧ ∀ row ∈ rs, RowZ row)
    (fun H2 e2 => ⟨e1.trans e2, ⟨none, none, none, none, none, none, rfl⟩, [], [], e2 _ _ h1, rfl, rfl, fun i v row h => by simp at h, fun row h => by simp at h⟩) ?_ ?_
  · rintro k σ' H' hk ⟨e2, ⟨c5, c6, c7, c8, c9, c10, rfl⟩, xs, rs, p1, p2, p3, p4, p5⟩
    have hk3 : k < 3 := by omega
    -- the cell
    refine q_asgR (R := fun v _ => ∃ c : Int, v = .int c) (fun H3 e3 Q' k' => ?_) fun v H3 e3 hc => ?_
    · refine ⟨_, rfl, ?_⟩
      exact ev_addN (a := 5) (b := k) (ev_var (i := 1) rfl) (ev_var (i := 5) rfl) H3 (Ex.refl H3) _ fun H4 e4 => ⟨a, ns, 5 + k, rfl, ex_l ((e2.trans e3).trans e4) ha, fun c H5 e5 => k' _ H5 (e4.trans e5) ⟨c, rfl⟩⟩
    obtain ⟨cell, rfl⟩ := hc
    have e23 := e2.trans e3
    -- the pairs
    refine q_at (at_pairs T (c := 0) (evr_ev (ev_var rfl) fun _ _ => ⟨cell, rfl⟩) (ev_is (ev_lenL (ev_var rfl) (ex_l e23 vx1)) (by rw [vx2]; rfl)) fun pr ps H4 e4 hp h2 hz => ?_)
    have e34 := e3.trans e4
    -- the mark
    refine q_asgR (er_pick (ea_cons ev_c (ea_cons ev_c (ea_cons ev_c ea_nil))) (er_mod (er_mix (ev_var rfl) (k := 20 + k) (ev_addN (a := 20) ev_c (ev_var rfl)) (by omega)) (m := 3) ev_c (by omega)) (by show 3 ≤ 100000; decide)) fun vm H5 e5 hm => ?_
    obtain ⟨mk, rfl⟩ : ∃ mk : PW.Mark, vm = .str (mkS mk) := by
      obtain ⟨i, hi⟩ := hm
      have hl := get_lt hi
      match i, hi with
      | 0, hi => exact ⟨.le, (Option.some.inj hi).symm⟩
      | 1, hi => exact ⟨.ge, (Option.some.inj hi).symm⟩
      | 2, hi => exact ⟨.eq, (Option.some.inj hi).symm⟩
    have e35 := e34.trans e5
    have e25 := e2.trans e35
    -- what is left
    refine q_asgU2 (K := K) (r := atF ps f) (a := 187) (b := 95) (fun H6 e6 Q' k' => ?_) fun vl H6 e6 fl => ?_
    · refine a_cons (at_U2 (K := K) (eu_tup (n := 0) (m := 1) (a := 1) (b := 1) ev_c ev_c (by omega) (by omega) (by omega)) fun v0 H7 e7 f0 => ⟨_, rfl, _, rfl, ?_⟩)
      have f00 : FrU K H7 v0 0 1 1 := by
        have : fr 0 1 = 0 := by decide
        rw [← this]; exact f0
      refine ⟨v0, pr, va, ps, f, 30, 10, 60, 37, rfl, f00, ((hp.ex e5).ex (e6.trans e7)).t, h2.len, fun kr h => ⟨h2.lt kr h, hz kr h⟩, hv.ex ((e25.trans e6).trans e7), by omega, by omega, by omega, by omega, fun v H8 e8 f8 => k' v H8 (e7.trans e8) (f8.mono (by omega) (by omega))⟩
    have e36 := e35.trans e6
    -- the name
    obtain ⟨nm, hnm⟩ := get_of_lt (xs := [V.str "flour", V.str "r(a)", V.str "r(b)", V.str "s(a, b)", V.str "t"]) (i := k) (by show k < 5; omega)
    refine q_asg (v := nm) (ev_pick (ea_cons ev_c (ea_cons ev_c (ea_cons ev_c (ea_cons ev_c (ea_cons ev_c ea_nil))))) (ev_var rfl) (by show 5 ≤ 100000; decide) hnm) fun H7 e7 => ?_
    have e37 := e36.trans e7
    -- the row
    refine s_appR (l := F) (xs := xs) (R := fun v H => ∃ row, RowT K H v row ∧ RowZ row) (e37 _ _ p1) (ev_var rfl) (fun H8 e8 Q' k' => ?_) (by omega) fun v H8 e8 hrow => ?_
    · refine e_tup (a_cons (at_v (ev_var (i := 10) rfl) fun H9 e9 => a_cons (at_v (ev_var (i := 7) rfl) fun H10 e10 => a_cons (at_v (ev_var (i := 8) rfl) fun H11 e11 => a_cons ?_))))
      refine ⟨_, rfl, _, rfl, ?_⟩
      refine er_mix (ev_var (i := 6) rfl) (k := 30 + k) (ev_addN (a := 30) ev_c (ev_var (i := 5) rfl)) (by omega) H11 (Ex.refl H11) _ fun v H12 e12 ⟨nn, hv, _⟩ => ?_
      subst hv
      have e812 := ((e9.trans e10).trans e11).trans e12
      refine ⟨vl, mkS mk, nn, atF ps f, rfl, fl.ex ((e7.trans e8).trans e812), fun vb rb H13 e13 fb zb => ⟨(by show 4 ≤ sizeLine; decide), fun t ht => ?_⟩⟩
      have eN : Ex H13 (upd H13 t (.tup [nm, .ref pr, .str (mkS mk), vb])) := Ex.new ht
      exact k' (.ref t) _ ((e812.trans e13).trans eN) ⟨⟨ps, mk, rb⟩, ⟨t, nm, pr, vb, rfl, st_of upd_same, (hp.ex (((e5.trans e6).trans e7).trans (e8.trans ((e812.trans e13).trans eN)))), fb.ex eN⟩, h2, hz, zb⟩
    · obtain ⟨row, rt, rz⟩ := hrow
      have e38 := e37.trans e8
      have hF8 := e38 _ _ p1
      have fx : Fx F H8 (upd H8 F (.lst (xs ++ [v]))) := Fx.upd
      refine ⟨(e2.trans e38).mut hF, ⟨_, _, _, _, _, _, rfl⟩, xs ++ [v], rs ++ [row], upd_same, by simp [p2], by simp [p3], fun i u r hu hr => ?_, fun r h => ?_⟩
      · by_cases hi : i < xs.length
        · rw [List.getElem?_append_left hi] at hu
          rw [List.getElem?_append_left (by omega)] at hr
          exact ((p4 i u r hu hr).ex e38).fx fx hF8
        · have : i = xs.length := by
            have := get_lt hu
            simp at this
            omega
          subst this
          rw [List.getElem?_append_right (Nat.le_refl _), Nat.sub_self] at hu
          rw [List.getElem?_append_right (by omega), p2, p3, Nat.sub_self] at hr
          cases hu
          cases hr
          exact rt.fx fx hF8
      · obtain h | h := List.mem_append.mp h
        · exact p5 r h
        · rw [List.mem_singleton] at h
          rw [h]; exact rz
  · rintro σ' H' ⟨e2, ⟨c5, c6, c7, c8, c9, c10, rfl⟩, xs, rs, p1, p2, p3, p4, p5⟩
    rw [Int.toNat_natCast] at p2 p3
    refine s_retU (eu_tupleL (ev_var rfl) (sq_of p1)) fun t H3 ht e3 h3 => ?_
    exact q t rs H3 (e2.trans e3) ⟨xs, st_of h3, by omega, fun i v row h1 h2 => (p4 i v row h1 h2).ex e3⟩ p3 p5
end
end PX

/-! the law's tests, crossings -/
namespace PX
open PySem PySem.Spec PyProof.Rows L2 Evl
open PW (Sz fr)
theorem Pr2.atF {ps : List (Nat × Rat)} (h : Pr2 ps) (f : Nat → Rat) : PX.atF ps f = numF ps 0 * f 0 + numF ps 1 * f 1 := by
  obtain ⟨a, b, rfl⟩ := h
  rw [(prs_num a b).1, (prs_num a b).2]
  cases a <;> cases b <;> simp [prs, PX.atF] <;> grind
/-- a line of the plan, as the law lays it -/
def LineE (K : PySem.W.Frag) (H : Hp) (v : V) (l : PW.Line) : Prop := ∃ (t : Addr) (x y z : V), v = .ref t ∧ SqT K H t [x, y, z] ∧ FrU K H x l.a 30 10 ∧ FrU K H y l.b 30 10 ∧ FrU K H z l.c 198 105
theorem LineE.ex {K : PySem.W.Frag} {H H' : Hp} {v : V} {l : PW.Line} (e : Ex H H') (h : LineE K H v l) : LineE K H' v l :=
  let ⟨t, x, y, z, h1, h2, h3, h4, h5⟩ := h; ⟨t, x, y, z, h1, ex_t e h2, h3.ex e, h4.ex e, h5.ex e⟩
theorem fr_eq_zero {n d : Int} (h : 0 < d) : fr n d = 0 ↔ n = 0 := by
  constructor
  · intro z
    have e := PW.fr_div (n := n) h
    rw [z] at e
    have := PW.int_ne h
    have e2 : (n : Rat) = 0 := by grind
    exact Rat.intCast_inj.mp (e2.trans rfl)
  · intro z
    rw [z, PW.fr_div h]
    have : ((0 : Int) : Rat) = 0 := rfl
    rw [this]; grind
section
variable {P : Program} {w : World} {K : PySem.W.Frag} {mg : Str → Option Value} {base : Heap}
abbrev N__law_crossing : List Str := ["_law_one", "_law_other", "_law_whole", "_law_across", "_law_high"]
theorem sc__law_crossing : FnScope N__law_crossing ["_law_one", "_law_other"] (defScope s__law_crossing) := ⟨rfl, rfl, rfl, by decide +kernel, rfl, by decide +kernel, by decide +kernel⟩
def spLCross (K : PySem.W.Frag) : Sp := fun vs H Q _ => ∃ u v l k, vs = [u, v] ∧ LineE K H u l ∧ LineE K H v k ∧ (∀ H', Ex H H' → PW.det l k = 0 → Q .non H') ∧
  ∀ t H', Ex H H' → PW.det l k ≠ 0 → (∃ xs, SqT K H' t xs ∧ xs.length = 2 ∧ ∀ (i : Nat) v, xs[i]? = some v → FrA K H' v (if i = 0 then PW.crx l k else PW.cry l k) ∧ Q2 384 311 (if i = 0 then PW.crx l k else PW.cry l k)) → Q (.ref t) H'
theorem ok__law_crossing (T : Txt w K mg) : FnOk P w K mg base CX0 2 T._law_crossing.f T._law_crossing.fd ["_law_one", "_law_other"] (spLCross K) := by
  refine T._law_crossing.F.ok sc__law_crossing (fun vs H Q E h => ?_) (fun cdv A outer s H vs Q E hr h => ?_)
  · obtain ⟨u, v, l, k, rfl, _⟩ := h
    rfl
  obtain ⟨u, v, l, k, rfl, ⟨t, x, y, z, rfl, ht, hx, hy, hz⟩, ⟨t', x', y', z', rfl, ht', hx', hy', hz'⟩, q1, q2⟩ := h
  refine ⟨_, PSs.nox (pss_cons (ps_set (i := 2) sc__law_crossing.nd rfl (Or.inl rfl) (pe_call (ok__law_minus T) (hr.mono (by decide)) rfl T._law_minus.g T._law_minus.F.kp (b__law_minus T) .nil pass0 (pa_cons (pe_call (ok__law_times T) (hr.mono (by decide)) rfl T._law_times.g T._law_times.F.kp (b__law_times T) .nil pass0 (pa_cons (pe_ix (ix_tupK (K := K) rfl) (pv 0) pe_int (fun _ _ => rfl)) (pa_cons (pe_ix (ix_tupK (K := K) rfl) (pv 1) pe_int (fun _ _ => rfl)) pa_nil))) (pa_cons (pe_call (ok__law_times T) (hr.mono (by decide)) rfl T._law_times.g T._law_times.F.kp (b__law_times T) .nil pass0 (pa_cons (pe_ix (ix_tupK (K := K) rfl) (pv 1) pe_int (fun _ _ => rfl)) (pa_cons (pe_ix (ix_tupK (K := K) rfl) (pv 0) pe_int (fun _ _ => rfl)) pa_nil))) pa_nil))))
 (pss_cons (ps_if (pt_cmpR op_eq (pe_ix (ix_tupK (K := K) rfl) (pv 2) pe_int (fun _ _ => rfl)) pe_int (nomark _)) (pss_one (ps_ret pe_non)) pss_nil)
 (pss_cons (ps_set (i := 3) sc__law_crossing.nd rfl (Or.inl rfl) (pe_call (ok__law_minus T) (hr.mono (by decide)) rfl T._law_minus.g T._law_minus.F.kp (b__law_minus T) .nil pass0 (pa_cons (pe_call (ok__law_times T) (hr.mono (by decide)) rfl T._law_times.g T._law_times.F.kp (b__law_times T) .nil pass0 (pa_cons (pe_ix (ix_tupK (K := K) rfl) (pv 0) pe_int (fun _ _ => rfl)) (pa_cons (pe_ix (ix_tupK (K := K) rfl) (pv 1) pe_int (fun _ _ => rfl)) pa_nil))) (pa_cons (pe_call (ok__law_times T) (hr.mono (by decide)) rfl T._law_times.g T._law_times.F.kp (b__law_times T) .nil pass0 (pa_cons (pe_ix (ix_tupK (K := K) rfl) (pv 1) pe_int (fun _ _ => rfl)) (pa_cons (pe_ix (ix_tupK (K := K) rfl) (pv 0) pe_int (fun _ _ => rfl)) pa_nil))) pa_nil))))
 (pss_cons (ps_set (i := 4) sc__law_crossing.nd rfl (Or.inl rfl) (pe_call (ok__law_minus T) (hr.mono (by decide)) rfl T._law_minus.g T._law_minus.F.kp (b__law_minus T) .nil pass0 (pa_cons (pe_call (ok__law_times T) (hr.mono (by decide)) rfl T._law_times.g T._law_times.F.kp (b__law_times T) .nil pass0 (pa_cons (pe_ix (ix_tupK (K := K) rfl) (pv 0) pe_int (fun _ _ => rfl)) (pa_cons (pe_ix (ix_tupK (K := K) rfl) (pv 1) pe_int (fun _ _ => rfl)) pa_nil))) (pa_cons (pe_call (ok__law_times T) (hr.mono (by decide)) rfl T._law_times.g T._law_times.F.kp (b__law_times T) .nil pass0 (pa_cons (pe_ix (ix_tupK (K := K) rfl) (pv 1) pe_int (fun _ _ => rfl)) (pa_cons (pe_ix (ix_tupK (K := K) rfl) (pv 0) pe_int (fun _ _ => rfl)) pa_nil))) pa_nil))))
 (pss_cons (ps_set (i := 3) sc__law_crossing.nd rfl (Or.inl rfl) (pe_call (ok__law_over T) (hr.mono (by decide)) rfl T._law_over.g T._law_over.F.kp (b__law_over T) .nil pass0 (pa_cons (pv 3) (pa_cons (pv 2) pa_nil))))
 (pss_cons (ps_set (i := 4) sc__law_crossing.nd rfl (Or.inl rfl) (pe_call (ok__law_over T) (hr.mono (by decide)) rfl T._law_over.g T._law_over.F.kp (b__law_over T) .nil pass0 (pa_cons (pv 4) (pa_cons (pv 2) pa_nil))))
 (pss_one (ps_ret (pe_tup (pa_cons (pe_call (ok__law_lowest T) (hr.mono (by decide)) rfl T._law_lowest.g T._law_lowest.F.kp (b__law_lowest T) .nil pass0 (pa_cons (pe_ix (ix_tupK (K := K) rfl) (pv 3) pe_int (fun _ _ => rfl)) (pa_cons (pe_ix (ix_tupK (K := K) rfl) (pv 3) pe_int (fun _ _ => rfl)) pa_nil))) (pa_cons (pe_call (ok__law_lowest T) (hr.mono (by decide)) rfl T._law_lowest.g T._law_lowest.F.kp (b__law_lowest T) .nil pass0 (pa_cons (pe_ix (ix_tupK (K := K) rfl) (pv 4) pe_int (fun _ _ => rfl)) (pa_cons (pe_ix (ix_tupK (K := K) rfl) (pv 4) pe_int (fun _ _ => rfl)) pa_nil))) pa_nil))))))))))), ?_⟩
  have tm : ∀ {σ : L2.St} {H1 : Hp} {ta tb : TE} {E : XK} {r s : Rat} {a b c d : Nat}, EvU2 K ta σ H1 r a b → EvU2 K tb σ H1 s c d → a ≤ 1000 → b ≤ 1000 → c ≤ 1000 → d ≤ 1000 → EvU2 K (tCall (spLTimes K) [] E (tCons ta (tCons tb tNil))) σ H1 (r * s) (a + c) (b + d) := fun ha hb h1 h2 h3 h4 =>
    eu_2 (f := fun r s => r * s) ha hb ⟨by omega, by omega⟩ (by omega) (by omega) (by omega) (by omega)
  have it : ∀ {σ : L2.St} {H1 : Hp} {r : Rat} {a b : Nat} {i : Nat} {j : Int} {p : Addr} {xs : List V} {w : V}, Ex H H1 → σ[i]? = some (some (.ref p)) → SqT K H p xs → atI xs j = some w → FrU K H w r a b → EvU2 K (tOp (rIxT K) (tVar i) (tC (.int j))) σ H1 r a b := fun e h hs hw f => eu_of (ev_item h (ex_t e hs) hw) (f.ex e)
  -- whole
  refine q_asgU2 (a := 81) (b := 40) (eu_2 (f := fun r s => r - s) (tm (it (Ex.refl H) rfl ht rfl hx) (it (Ex.refl H) rfl ht' rfl hy') (by omega) (by omega) (by omega) (by omega)) (tm (it (Ex.refl H) rfl ht' rfl hx') (it (Ex.refl H) rfl ht rfl hy) (by omega) (by omega) (by omega) (by omega)) ⟨by omega, by omega, by omega⟩ (by omega) (by omega) (by omega) (by omega)) fun vw H1 e1 fw => ?_
  have fw' : FrU K H1 vw (PW.det l k) 81 40 := fw
  obtain ⟨p1, n1, d1, rfl, w1, w2, w3, w4, w5⟩ := id fw'
  refine q_when (b := decide (V.int n1 = V.int 0)) (et_test (ev_op (ev_item rfl w1 rfl) ev_c (rv_eq rfl))) (fun hb H2 e2 => ?_) (fun hb H2 e2 => ?_)
  · have hn : n1 = 0 := V.int.inj (of_decide_eq_true hb)
    exact s_ret ev_c fun H3 e3 => q1 H3 ((e1.trans e2).trans e3) (by rw [w5]; exact (fr_eq_zero w2).mpr hn)
  have dn : PW.det l k ≠ 0 := fun zz => by
    rw [w5] at zz
    rw [(fr_eq_zero w2).mp zz, decide_eq_true rfl] at hb
    cases hb
  have e12 := e1.trans e2
  refine q_asgU2 (a := 344) (b := 230) (eu_2 (f := fun r s => r - s) (tm (it e12 rfl ht rfl hz) (it e12 rfl ht' rfl hy') (by omega) (by omega) (by omega) (by omega)) (tm (it e12 rfl ht' rfl hz') (it e12 rfl ht rfl hy) (by omega) (by omega) (by omega) (by omega)) ⟨by omega, by omega, by omega⟩ (by omega) (by omega) (by omega) (by omega)) fun va H3 e3 fa => ?_
  have e13 := e12.trans e3
  refine q_asgU2 (a := 344) (b := 230) (eu_2 (f := fun r s => r - s) (tm (it e13 rfl ht rfl hx) (it e13 rfl ht' rfl hz') (by omega) (by omega) (by omega) (by omega)) (tm (it e13 rfl ht' rfl hx') (it e13 rfl ht rfl hz) (by omega) (by omega) (by omega) (by omega)) ⟨by omega, by omega, by omega⟩ (by omega) (by omega) (by omega) (by omega)) fun vh H4 e4 fh => ?_
  have e14 := e13.trans e4
  have ov : ∀ {σ : L2.St} {H5 : Hp} {E : XK} {i : Nat} {v : V} {r : Rat}, Ex H1 H5 → σ[i]? = some (some v) → FrU K H5 v r 344 230 → σ[2]? = some (some (.ref p1)) → EvU2 K (tCall (spLOver K) [] E (tCons (tVar i) (tCons (tVar 2) tNil))) σ H5 (r / PW.det l k) 384 311 := fun {σ H5 E i v r} e hi hf h2 => fun H6 e6 Q q =>
    ⟨_, hi, _, h2, v, .ref p1, r, PW.det l k, 344, 230, 81, 40, rfl, hf.ex e6, fw'.ex (e.trans e6), dn, by omega, by omega, by omega, by omega, fun v H7 e7 f7 => q v H7 e7 f7⟩
  refine q_asgU2 (ov ((e2.trans e3).trans e4) (i := 3) rfl (fa.ex e4) rfl) fun vx H5 e5 fx => ?_
  refine q_asgU2 (ov (((e2.trans e3).trans e4).trans e5) (i := 4) rfl (fh.ex e5) rfl) fun vy H6 e6 fy => ?_
  obtain ⟨px, nx, dx, rfl, x1, x2, x3, x4, x5⟩ := fx.ex e6
  obtain ⟨py, ny, dy, rfl, y1, y2, y3, y4, y5⟩ := fy
  refine s_ret_tup (a_cons (at_f (evf_low (ev_item (i := 3) (j := 0) rfl x1 rfl) (ev_item (i := 3) (j := 1) rfl x1 rfl) x2 x3 x4 (by omega)) fun v1 H7 e7 f1 => a_cons (at_f (evf_low (ev_item (i := 4) (j := 0) rfl (ex_t e7 y1) rfl) (ev_item (i := 4) (j := 1) rfl (ex_t e7 y1) rfl) y2 y3 y4 (by omega)) fun v2 H8 e8 f2 => ⟨(by show 2 ≤ sizeLine; decide), fun t ht => ?_⟩)))
  have eN : Ex H8 (upd H8 t (.tup [v1, v2])) := Ex.new ht
  have ex : PW.crx l k = fr nx dx := x5
  have ey : PW.cry l k = fr ny dy := y5
  refine q2 t _ ((((e14.trans e5).trans e6).trans (e7.trans e8)).trans eN) dn ⟨[v1, v2], st_of upd_same, rfl, fun i v hv => ?_⟩
  match i, hv with
  | 0, hv =>
    cases hv
    rw [if_pos rfl, ex]
    exact ⟨(f1.ex e8).ex eN, q2_fr x2 x3 x4⟩
  | 1, hv =>
    cases hv
    rw [if_neg (by omega), ey]
    exact ⟨f2.ex eN, q2_fr y2 y3 y4⟩
abbrev N__law_stands : List Str := ["_law_left", "_law_mark", "_law_bound_here", "_law_order_here"]
theorem sc__law_stands : FnScope N__law_stands ["_law_left", "_law_mark", "_law_bound_here"] (defScope s__law_stands) := ⟨rfl, rfl, rfl, by decide +kernel, rfl, by decide +kernel, by decide +kernel⟩
def spLStands (K : PySem.W.Frag) : Sp := fun vs H Q _ => ∃ (x y : V) (mk : PW.Mark) (r s : Rat) (a b c d : Nat), vs = [x, .str (mkS mk), y] ∧ FrU K H x r a b ∧ FrU K H y s c d ∧ a ≤ 10000 ∧ b ≤ 10000 ∧ c ≤ 10000 ∧ d ≤ 10000 ∧ ∀ (t : Bool) H', Ex H H' → (t = true ↔ PW.holdsM mk r s) → Q (.bl t) H'
theorem ok__law_stands (T : Txt w K mg) : FnOk P w K mg base CX0 2 T._law_stands.f T._law_stands.fd ["_law_left", "_law_mark", "_law_bound_here"] (spLStands K) := by
  refine T._law_stands.F.ok sc__law_stands (fun vs H Q E h => ?_) (fun cdv A outer s H vs Q E hr h => ?_)
  · obtain ⟨x, y, mk, r, t, a, b, c, d, rfl, _⟩ := h
    rfl
  obtain ⟨x, y, mk, r, t, a, b, c, d, rfl, hx, hy, z1, z2, z3, z4, q⟩ := h
  refine ⟨_, PSs.nox (pss_cons (ps_set (i := 3) sc__law_stands.nd rfl (Or.inl rfl) (pe_call (ok__law_order T) (hr.mono (by decide)) rfl T._law_order.g T._law_order.F.kp (b__law_order T) .nil pass0 (pa_cons (pv 0) (pa_cons (pv 2) pa_nil))))
 (pss_cons (ps_if (pt_cmpR op_eq (pv 1) pe_str (nomark _)) (pss_one (ps_ret (pe_cmpR op_le (pv 3) pe_int (nomark _)))) pss_nil)
 (pss_cons (ps_if (pt_cmpR op_eq (pv 1) pe_str (nomark _)) (pss_one (ps_ret (pe_cmpR op_ge (pv 3) pe_int (nomark _)))) pss_nil)
 (pss_one (ps_ret (pe_cmpR op_eq (pv 3) pe_int (nomark _))))))), ?_⟩
  refine q_asgR (er_order (eu_var rfl hx) (eu_var rfl hy) (by omega) (by omega) (by omega) (by omega)) fun v H1 e1 hv => ?_
  obtain ⟨z, rfl, o1, o2⟩ := hv
  have hge : decide (V.str (mkS mk) = V.str ">=") = decide (mk = .ge) := by cases mk <;> decide +kernel
  refine q_when (b := decide (mk = .le)) (et_is (et_test (ev_op (ev_var rfl) ev_c (rv_eq rfl))) (mkS_inj mk).2) (fun hb H2 e2 => ?_) (fun hb H2 e2 => ?_)
  · have hm := of_decide_eq_true hb
    refine s_ret (ev_op (ev_var rfl) ev_c rv_I0) fun H3 e3 => q _ H3 ((e1.trans e2).trans e3) ?_
    rw [decide_eq_true_iff, hm]
    show z ≤ 0 ↔ r ≤ t
    constructor
    · intro h
      by_cases k : z < 0
      · exact Rat.le_of_lt (o1.mp k)
      · rw [o2.mp (by omega)]; exact Rat.le_refl
    · intro h
      by_cases k : r = t
      · have := o2.mpr k; omega
      · have := o1.mpr (by grind); omega
  refine q_when (b := decide (mk = .ge)) (et_is (et_test (ev_op (ev_var rfl) ev_c (rv_eq rfl))) hge) (fun hb2 H3 e3 => ?_) (fun hb2 H3 e3 => ?_)
  · have hm := of_decide_eq_true hb2
    refine s_ret (ev_op (ev_var rfl) ev_c rv_I0) fun H4 e4 => q _ H4 (((e1.trans e2).trans e3).trans e4) ?_
    rw [decide_eq_true_iff, hm]
    show 0 ≤ z ↔ t ≤ r
    constructor
    · intro h
      by_cases k : r < t
      · have := o1.mpr k; omega
      · grind
    · intro h
      by_cases k : z < 0
      · have := o1.mp k; grind
      · omega
  · have hm : mk = .eq := by
      cases mk with
      | le => cases hb
      | ge => cases hb2
      | eq => rfl
    refine s_ret (ev_op (ev_var rfl) ev_c (rv_eq rfl)) fun H4 e4 => q _ H4 (((e1.trans e2).trans e3).trans e4) ?_
    rw [decide_eq_true_iff, hm]
    show V.int z = V.int 0 ↔ r = t
    rw [← o2]
    exact ⟨fun h => V.int.inj h, fun h => by rw [h]⟩
end
end PX

/-! the law's meeting, turned goal -/
namespace PX
open PySem PySem.Spec PyProof.Rows L2 Evl
open PW (Sz fr)
/-- a plan, its rows' pairs in known tuples -/
structure PlnF (K : PySem.W.Frag) (H : Hp) (pl U R G : Addr) (p : Pln) : Prop where
  o : SqT K H pl [.ref U, .ref R, .ref G]
  u : UnkA K H U p.ls
  r : RowsF K H R p.rs
  g : GoalA K H G p.least p.ps
theorem PlnF.ex {K : PySem.W.Frag} {H H' : Hp} {pl U R G : Addr} {p : Pln} (e : Ex H H') (h : PlnF K H pl U R G p) : PlnF K H' pl U R G p :=
  ⟨ex_t e h.o, h.u.ex e, h.r.ex e, let ⟨q, c, a, b⟩ := h.g; ⟨q, c, ex_t e a, b.ex e⟩⟩
theorem PlnF.a {K : PySem.W.Frag} {H : Hp} {pl U R G : Addr} {p : Pln} (h : PlnF K H pl U R G p) : PlnA K H pl U R G p := ⟨h.o, h.u, h.r.a, h.g⟩
structure PlnQ (p : Pln) : Prop where
  l2 : p.ls.length = 2
  r3 : p.rs.length ≤ 3
  zl : ∀ lh ∈ p.ls, Q2 30 10 lh.1 ∧ Q2 35 14 lh.2
  pr : ∀ row ∈ p.rs, RowZ row
  pg : Pr2 p.ps
  zg : ∀ kr ∈ p.ps, Q2 30 10 kr.2
/-- a tuple of two values -/
def VT (K : PySem.W.Frag) (H : Hp) (va : Addr) (f : Nat → Rat) (qa qb : Nat) : Prop := ∃ xs, SqT K H va xs ∧ xs.length = 2 ∧ ∀ (i : Nat) v, xs[i]? = some v → FrA K H v (f i) ∧ Q2 qa qb (f i)
theorem VT.ex {K : PySem.W.Frag} {H H' : Hp} {va : Addr} {f : Nat → Rat} {qa qb : Nat} (e : Ex H H') (h : VT K H va f qa qb) : VT K H' va f qa qb :=
  let ⟨xs, a, b, c⟩ := h; ⟨xs, ex_t e a, b, fun i v hv => ⟨(c i v hv).1.ex e, (c i v hv).2⟩⟩
theorem VT.a {K : PySem.W.Frag} {H : Hp} {va : Addr} {f : Nat → Rat} {qa qb : Nat} (h : VT K H va f qa qb) : ValsA K H va f qa qb := let ⟨xs, a, b, c⟩ := h; ⟨xs, .inl a, b, c⟩
section
variable {K : PySem.W.Frag} {σ : L2.St} {H : Hp} {ta tb : TE} {r s : Rat} {a b c d : Nat} {E : XK}
theorem et_ordlt (ha : EvU2 K ta σ H r a b) (hb : EvU2 K tb σ H s c d) (z1 : a ≤ 100000) (z2 : b ≤ 100000) (z3 : c ≤ 100000) (z4 : d ≤ 100000) : EvT (tTest (tOp (rI0 fun i j => V.bl (decide (i < j))) (tCall (spLOrder K) [] E (tCons ta (tCons tb tNil))) (tC (.int 0)))) σ H (decide (r < s)) := fun H1 e Q q =>
  er_order ha hb z1 z2 z3 z4 H1 e _ fun v H2 e2 ⟨z, ev, o1, o2⟩ => by
    subst ev
    exact (et_is (et_test (ev_op (ev_c (v := .int z)) (ev_c (v := .int 0)) rv_I0)) (decide_eq_decide.mpr o1) : EvT (tTest (tOp (rI0 fun i j => V.bl (decide (i < j))) (tC (.int z)) (tC (.int 0)))) σ H2 (decide (r < s))) H2 (Ex.refl H2) Q fun H3 e3 => q H3 (e2.trans e3)
theorem et_ordgt (ha : EvU2 K ta σ H r a b) (hb : EvU2 K tb σ H s c d) (z1 : a ≤ 100000) (z2 : b ≤ 100000) (z3 : c ≤ 100000) (z4 : d ≤ 100000) : EvT (tTest (tOp (rI0 fun i j => V.bl (decide (j < i))) (tCall (spLOrder K) [] E (tCons ta (tCons tb tNil))) (tC (.int 0)))) σ H (decide (s < r)) := fun H1 e Q q =>
  er_order ha hb z1 z2 z3 z4 H1 e _ fun v H2 e2 ⟨z, ev, o1, o2⟩ => by
    subst ev
    have o3 : 0 < z ↔ s < r := by
      constructor
      · intro h
        have n1 : ¬ r < s := fun k => by have := o1.mpr k; omega
        have n2 : ¬ r = s := fun k => by have := o2.mpr k; omega
        grind
      · intro h
        have n1 : ¬ z < 0 := fun k => by have := o1.mp k; grind
        have n2 : ¬ z = 0 := fun k => by have := o2.mp k; grind
        omega
    exact (et_is (et_test (ev_op (ev_c (v := .int z)) (ev_c (v := .int 0)) rv_I0)) (decide_eq_decide.mpr o3) : EvT (tTest (tOp (rI0 fun i j => V.bl (decide (j < i))) (tC (.int z)) (tC (.int 0)))) σ H2 (decide (s < r))) H2 (Ex.refl H2) Q fun H3 e3 => q H3 (e2.trans e3)
theorem eu_worth {tp tv : TE} {pr va : Addr} {ps : List (Nat × Rat)} {f : Nat → Rat} {pa pb qa qb k l : Nat} (hp : Ev tp σ H (.ref pr)) (hv : Ev tv σ H (.ref va)) (pp : PairsT K H pr ps) (P2 : Pr2 ps) (hz : ∀ kr ∈ ps, Q2 pa pb kr.2) (VA : ValsA K H va f qa qb) (h1 : pa ≤ 10000) (h2 : pb ≤ 10000) (h3 : qa ≤ 10000) (h4 : qb ≤ 10000)
    (hk : 1 + (pa + qa) + 2 * (pb + qb + 1) ≤ k) (hl : 1 + 2 * (pb + qb) ≤ l) : EvU2 K (tCall (spLWorth K) [] E (tCons (tTup (tCons (tC (.int 0)) (tCons (tC (.int 1)) tNil))) (tCons tp (tCons tv tNil)))) σ H (PX.atF ps f) k l := fun H1 e Q q =>
  a_cons (at_U2 (K := K) (eu_tup (n := 0) (m := 1) (a := 1) (b := 1) ev_c ev_c (by omega) (by omega) (by omega)) fun v0 H2 e2 f0 => a_cons (at_v (hp.mono (e.trans e2)) fun H3 e3 => a_cons (at_v (hv.mono ((e.trans e2).trans e3)) fun H4 e4 => by
    have f00 : FrU K H4 v0 0 1 1 := by
      have : fr 0 1 = 0 := by decide
      rw [← this]; exact (f0.ex e3).ex e4
    have e04 := ((e.trans e2).trans e3).trans e4
    exact ⟨v0, pr, va, ps, f, pa, pb, qa, qb, rfl, f00, pp.ex e04, P2.len, fun kr h => ⟨P2.lt kr h, hz kr h⟩, VA.ex e04, h1, h2, h3, h4, fun v H5 e5 f5 => q v H5 (((e2.trans e3).trans e4).trans e5) (f5.mono hk hl)⟩)))
theorem et_stands {tm : TE} {mk : PW.Mark} {t : Bool} (ha : EvU2 K ta σ H r a b) (hm : Ev tm σ H (.str (mkS mk))) (hb : EvU2 K tb σ H s c d) (z1 : a ≤ 10000) (z2 : b ≤ 10000) (z3 : c ≤ 10000) (z4 : d ≤ 10000) (ht : t = true ↔ PW.holdsM mk r s) :
    EvT (tB (tCall (spLStands K) [] E (tCons ta (tCons tm (tCons tb tNil))))) σ H t := fun H1 e Q q =>
  ha H1 e _ fun x H2 e2 fx => hm H2 (e.trans e2) _ fun H3 e3 => hb H3 ((e.trans e2).trans e3) _ fun y H4 e4 fy => ⟨x, y, mk, r, s, a, b, c, d, rfl, (fx.ex e3).ex e4, fy, z1, z2, z3, z4, fun u H5 e5 hu => ⟨u, rfl, by
    have : u = t := by
      cases u <;> cases t <;> simp_all
    rw [this]
    exact q H5 (((e2.trans e3).trans e4).trans e5)⟩⟩
theorem q_forZT {D : Ends} {tu tz : TS} {ta : TA} {a b : Addr} {xs ys : List V} {i0 j0 : Nat} (h : EvA ta σ H [.ref a, .ref b]) (hx : SqT K H a xs) (hy : SqT K H b ys) (hl : xs.length = ys.length) (Pv : Nat → L2.St → Hp → Prop) (h0 : ∀ H1, Ex H H1 → Pv 0 σ H1) (hq : ∀ i σ' H', Pv i σ' H' → SqT K H' a xs ∧ SqT K H' b ys)
    (hs : ∀ i x y σ' H' T, xs[i]? = some x → ys[i]? = some y → Pv i σ' H' → H' T = none → tu { D with nx := Pv (i + 1), ct := Pv (i + 1), bk := tz D } ((σ'.set i0 (some x)).set j0 (some y)) (upd H' T (.tup [x, y]))) (hd : ∀ σ' H', Pv xs.length σ' H' → tz D σ' H') : tSeq (tFor (RZ.iZipA K ta) (gTup K 2 (gCons (gName i0) (gCons (gName j0) gNil))) tu) tz D σ H :=
  h H (Ex.refl H) _ fun H1 e => ⟨a, b, xs, ys, rfl, .inr ⟨ex_t e hx, ex_t e hy, RZ.for_zipT (D := { D with nx := tz D }) hl Pv (h0 H1 e) hq (fun i x y T σ' H' hx hy p hT => g_pair (st_of upd_same) (hs i x y σ' H' T hx hy p hT)) hd⟩⟩
end
section
variable {P : Program} {w : World} {K : PySem.W.Frag} {mg : Str → Option Value} {base : Heap}
abbrev N__law_loosely_meets : List Str := ["_law_plan", "_law_values", "_law_unknown_here", "_law_one", "_law_row"]
theorem sc__law_loosely_meets : FnScope N__law_loosely_meets ["_law_plan", "_law_values"] (defScope s__law_loosely_meets) := ⟨rfl, rfl, rfl, by decide +kernel, rfl, by decide +kernel, by decide +kernel⟩
def spLMeets (K : PySem.W.Frag) : Sp := fun vs H Q _ => ∃ (pl U R G va : Addr) (p : Pln) (f : Nat → Rat), vs = [.ref pl, .ref va] ∧ PlnF K H pl U R G p ∧ PlnQ p ∧ VT K H va f 384 311 ∧ ∀ (t : Bool) H', Ex H H' → (t = true ↔ p.r.feas (f 0) (f 1)) → Q (.bl t) H'
/-- an unknown's ends are kept -/
def okU (p : Pln) (f : Nat → Rat) (i : Nat) : Prop := (p.ls.getD i (0, 0)).1 ≤ f i ∧ f i ≤ (p.ls.getD i (0, 0)).2
theorem feas_pln {p : Pln} (f : Nat → Rat) (Z : PlnQ p) : p.r.feas (f 0) (f 1) ↔ (∀ i, i < 2 → okU p f i) ∧ ∀ (i : Nat) row, p.rs[i]? = some row → PW.holdsM row.mark (PX.atF row.pairs f) row.c := by
  rw [PW.feas_iff]
  have hrow : ∀ (i : Nat) row, p.rs[i]? = some row → ((p.r.rows.getD i PW.Line.nul).holds 1 (f 0) (f 1) ↔ PW.holdsM row.mark (PX.atF row.pairs f) row.c) := fun i row h => by
    have e : p.r.rows.getD i PW.Line.nul = rowL row := by
      show (p.rs.map rowL).getD i _ = _
      rw [List.getD_eq_getElem?_getD, List.getElem?_map, h]; rfl
    rw [e, PW.holds1, (Z.pr row (List.mem_of_getElem? h)).1.atF f]
    exact Iff.rfl
  have hl : p.r.rows.length = p.rs.length := List.length_map ..
  constructor
  · rintro ⟨h1, ⟨h2, h3⟩, h4, h5⟩
    refine ⟨fun i hi => ?_, fun i row h => (hrow i row h).mp (h1 i (by have := get_lt h; omega))⟩
    have h01 : i = 0 ∨ i = 1 := by omega
    rcases h01 with rfl | rfl
    · exact ⟨h2, h3⟩
    · exact ⟨h4, h5⟩
  · rintro ⟨h1, h2⟩
    refine ⟨fun i hi => ?_, h1 0 (by omega), h1 1 (by omega)⟩
    obtain ⟨row, h⟩ := get_of_lt (xs := p.rs) (i := i) (by omega)
    exact (hrow i row h).mpr (h2 i row h)
theorem ok__law_loosely_meets (T : Txt w K mg) : FnOk P w K mg base CX0 3 T._law_loosely_meets.f T._law_loosely_meets.fd ["_law_plan", "_law_values"] (spLMeets K) := by
  refine T._law_loosely_meets.F.ok sc__law_loosely_meets (fun vs H Q E h => ?_) (fun cdv A outer s H vs Q E hr h => ?_)
  · obtain ⟨pl, U, R, G, va, p, f, rfl, _⟩ := h
    rfl
  obtain ⟨pl, U, R, G, va, p, f, rfl, PF, Z, ⟨xs, v1, v2, v3⟩, q⟩ := h
  refine ⟨_, PSs.nox (pss_cons (ps_for PassesOwn.never rfl (RZ.pi_zipA (by rfl) T.m_zip (pa_cons (pe_ix (ix_tupK (K := K) rfl) (pv 0) pe_int (fun _ _ => rfl)) (pa_cons (pv 1) pa_nil))) (pg_tupK (n := 2) (K := K) rfl rfl (pgs_cons (pg_name (i := 2) sc__law_loosely_meets.nd rfl (Or.inl rfl)) (pgs_cons (pg_name (i := 3) sc__law_loosely_meets.nd rfl (Or.inl rfl)) pgs_nil)))
 (pss_cons (ps_if (PW.pt (pw_and (pt_cmpR op_notNK (pe_ix (ix_tupK (K := K) rfl) (pv 2) pe_int (fun _ _ => rfl)) pe_non (nomark _)) (pw_and1 (pt_cmpR op_lt (pe_call (ok__law_order T) (hr.mono (by decide)) rfl T._law_order.g T._law_order.F.kp (b__law_order T) .nil pass0 (pa_cons (pv 3) (pa_cons (pe_ix (ix_tupK (K := K) rfl) (pv 2) pe_int (fun _ _ => rfl)) pa_nil))) pe_int (nomark _))))) (pss_one (ps_ret pe_bl)) pss_nil)
 (pss_one (ps_if (PW.pt (pw_and (pt_cmpR op_notNK (pe_ix (ix_tupK (K := K) rfl) (pv 2) pe_int (fun _ _ => rfl)) pe_non (nomark _)) (pw_and1 (pt_cmpR op_gt (pe_call (ok__law_order T) (hr.mono (by decide)) rfl T._law_order.g T._law_order.F.kp (b__law_order T) .nil pass0 (pa_cons (pv 3) (pa_cons (pe_ix (ix_tupK (K := K) rfl) (pv 2) pe_int (fun _ _ => rfl)) pa_nil))) pe_int (nomark _))))) (pss_one (ps_ret pe_bl)) pss_nil))))
 (pss_cons (ps_for PassesOwn.never rfl (pi_tupK (K := K) rfl (pe_ix (ix_tupK (K := K) rfl) (pv 0) pe_int (fun _ _ => rfl))) (pg_name (i := 4) sc__law_loosely_meets.nd rfl (Or.inl rfl))
 (pss_one (ps_if (pt_not (pt_val (pe_call (ok__law_stands T) (hr.mono (by decide)) rfl T._law_stands.g T._law_stands.F.kp (b__law_stands T) .nil pass0 (pa_cons (pe_call (ok__law_worth T) (hr.mono (by decide)) rfl T._law_worth.g T._law_worth.F.kp (b__law_worth T) .nil pass0 (pa_cons (pe_tup (pa_cons pe_int (pa_cons pe_int pa_nil))) (pa_cons (pe_ix (ix_tupK (K := K) rfl) (pv 4) pe_int (fun _ _ => rfl)) (pa_cons (pv 1) pa_nil)))) (pa_cons (pe_ix (ix_tupK (K := K) rfl) (pv 4) pe_int (fun _ _ => rfl)) (pa_cons (pe_ix (ix_tupK (K := K) rfl) (pv 4) pe_int (fun _ _ => rfl)) pa_nil)))))) (pss_one (ps_ret pe_bl)) pss_nil)))
 (pss_one (ps_ret pe_bl)))), ?_⟩
  have hfe := feas_pln f Z
  obtain ⟨ts, t1, t2, t3⟩ := PF.u
  obtain ⟨rx, r1, r2, r3⟩ := PF.r
  have l2 := Z.l2
  refine q_forZT (a := U) (b := va) (xs := ts.map V.ref) (ys := xs) (ea_cons (ev_item (v := .ref U) rfl PF.o rfl) (ea_cons (ev_var rfl) ea_nil)) t1 v1 (by rw [List.length_map]; omega) (fun i σ' H' => Ex H H' ∧ (∃ c2 c3, σ' = [some (.ref pl), some (.ref va), c2, c3, none]) ∧ ∀ j, j < i → okU p f j)
    (fun H1 e1 => ⟨e1, ⟨none, none, rfl⟩, fun j h => absurd h (Nat.not_lt_zero _)⟩) (fun i σ' H' h => ⟨ex_t h.1 t1, ex_t h.1 v1⟩) ?_ ?_
  · rintro i x y σ' H' T0 hx hy ⟨e1, ⟨c2, c3, rfl⟩, ok⟩ hT
    obtain ⟨t, ht, rfl⟩ := map_ref_at hx
    have hi : i < 2 := by have := get_lt hy; omega
    have hlh : p.ls[i]? = some (p.ls.getD i (0, 0)) := by rw [List.getD_eq_getElem?_getD, List.getElem?_eq_getElem (by omega)]; rfl
    obtain ⟨a, b, g1, g2, u1, u2, u3⟩ := t3 i t _ ht hlh
    obtain ⟨z1, z2⟩ := Z.zl _ (List.mem_of_getElem? hlh)
    obtain ⟨y1, y2⟩ := v3 i y hy
    have e2 : Ex H (upd H' T0 (.tup [.ref t, y])) := e1.trans (Ex.new hT)
    have nfe : ¬ okU p f i → (false = true ↔ p.r.feas (f 0) (f 1)) := fun n => by
      rw [hfe]
      exact ⟨fun h => (by cases h), fun h => absurd (h.1 i hi) n⟩
    refine q_when (b := true && decide (f i < (p.ls.getD i (0, 0)).1)) (et_and (et_ref_notN (ev_item rfl (ex_t e2 u1) rfl)) fun _ => et_ordlt (eu_var rfl ((y1.ex e2).u y2)) (eu_of (ev_item rfl (ex_t e2 u1) rfl) ((u2.ex e2).u z1)) (by omega) (by omega) (by omega) (by omega)) (fun hb H3 e3 => ?_) (fun hb H3 e3 => ?_)
    · have hlt := of_decide_eq_true hb
      exact s_ret ev_c fun H4 e4 => q false H4 ((e2.trans e3).trans e4) (nfe fun o => by have := o.1; grind)
    have hge : ¬ f i < (p.ls.getD i (0, 0)).1 := fun h => by rw [decide_eq_true h] at hb; cases hb
    have e23 := e2.trans e3
    refine s_when (b := true && decide ((p.ls.getD i (0, 0)).2 < f i)) (et_and (et_ref_notN (ev_item rfl (ex_t e23 u1) rfl)) fun _ => et_ordgt (eu_var rfl ((y1.ex e23).u y2)) (eu_of (ev_item rfl (ex_t e23 u1) rfl) ((u3.ex e23).u z2)) (by omega) (by omega) (by omega) (by omega)) (fun hb2 H4 e4 => ?_) (fun hb2 H4 e4 => ?_)
    · have hlt := of_decide_eq_true hb2
      exact s_ret ev_c fun H5 e5 => q false H5 ((e23.trans e4).trans e5) (nfe fun o => by have := o.2; grind)
    · have hle : ¬ (p.ls.getD i (0, 0)).2 < f i := fun h => by rw [decide_eq_true h] at hb2; cases hb2
      refine ⟨e23.trans e4, ⟨_, _, rfl⟩, fun j hj => ?_⟩
      by_cases e : j = i
      · rw [e]; exact ⟨by grind, by grind⟩
      · exact ok j (by omega)
  · rintro σ' H' ⟨e1, ⟨c2, c3, rfl⟩, ok⟩
    rw [List.length_map] at ok
    refine q_forT (a := R) (xs := rx) (ev_item (v := .ref R) rfl (ex_t e1 PF.o) rfl) (ex_t e1 r1) (fun i σ' H' => Ex H H' ∧ (∃ c2 c3 c4, σ' = [some (.ref pl), some (.ref va), c2, c3, c4]) ∧ ∀ (j : Nat) row, j < i → p.rs[j]? = some row → PW.holdsM row.mark (PX.atF row.pairs f) row.c)
      (fun H2 e2 => ⟨e1.trans e2, ⟨_, _, _, rfl⟩, fun j row h => absurd h (Nat.not_lt_zero _)⟩) (fun i σ' H' _ h => ex_t h.1 r1) ?_ ?_
    · rintro i x σ' H2 hx ⟨e2, ⟨c2, c3, c4, rfl⟩, okr⟩
      obtain ⟨row, hrow⟩ := get_of_lt (xs := p.rs) (i := i) (by have := get_lt hx; omega)
      obtain ⟨t, a, pr, g, rfl, u1, u2, u3⟩ := (r3 i x row hx hrow).ex e2
      obtain ⟨y1, y2, y3⟩ := Z.pr row (List.mem_of_getElem? hrow)
      have key : ∀ t0 : Bool, (t0 = true ↔ PW.holdsM row.mark (PX.atF row.pairs f) row.c) → tIfS (tNot (tB (tCall (spLStands K) [] E0 (tCons (tCall (spLWorth K) [] E0 (tCons (tTup (tCons (tC (.int 0)) (tCons (tC (.int 1)) tNil))) (tCons (tOp (rIxT K) (tVar 4) (tC (.int 1))) (tCons (tVar 1) tNil)))) (tCons (tOp (rIxT K) (tVar 4) (tC (.int 2))) (tCons (tOp (rIxT K) (tVar 4) (tC (.int 3))) tNil)))))) (tRet (tC (.bl false))) tNext
          { nx := fun σ' H' => Ex H H' ∧ (∃ c2 c3 c4, σ' = [some (.ref pl), some (.ref va), c2, c3, c4]) ∧ ∀ (j : Nat) row, j < i + 1 → p.rs[j]? = some row → PW.holdsM row.mark (PX.atF row.pairs f) row.c, rt := Q, bk := tRet (tC (.bl true)) { nx := fun _ H' => Q .non H', rt := Q }, ct := fun σ' H' => Ex H H' ∧ (∃ c2 c3 c4, σ' = [some (.ref pl), some (.ref va), c2, c3, c4]) ∧ ∀ (j : Nat) row, j < i + 1 → p.rs[j]? = some row → PW.holdsM row.mark (PX.atF row.pairs f) row.c } [some (.ref pl), some (.ref va), c2, c3, some (.ref t)] H2 := fun t0 h0 => by
        refine s_when (et_not (et_stands (t := t0) (mk := row.mark) (eu_worth (pr := pr) (va := va) (f := f) (k := 4000) (l := 4000) (ev_item (i := 4) rfl u1 rfl) (ev_var rfl) u2.t y1 y2 (VT.a ⟨xs, ex_t e2 v1, v2, fun i v hv => ⟨(v3 i v hv).1.ex e2, (v3 i v hv).2⟩⟩) (by omega) (by omega) (by omega) (by omega) (by omega) (by omega)) (ev_item (i := 4) rfl u1 rfl) (eu_of (ev_item (i := 4) rfl u1 rfl) (u3.u y3)) (by omega) (by omega) (by omega) (by omega) h0)) (fun hb H3 e3 => ?_) (fun hb H3 e3 => ?_)
        · have hf : t0 = false := by cases t0 <;> simp_all
          refine s_ret ev_c fun H4 e4 => q false H4 ((e2.trans e3).trans e4) ?_
          rw [hfe]
          exact ⟨fun h => (by cases h), fun h => absurd (h0.mpr (h.2 i row hrow)) (by rw [hf]; decide)⟩
        · have hf : t0 = true := by cases t0 <;> simp_all
          refine ⟨e2.trans e3, ⟨_, _, _, rfl⟩, fun j row' hj hr => ?_⟩
          by_cases e : j = i
          · subst e
            rw [hrow] at hr
            cases hr
            exact h0.mp hf
          · exact okr j row' (by omega) hr
      by_cases hh : PW.holdsM row.mark (PX.atF row.pairs f) row.c
      · exact key true ⟨fun _ => hh, fun _ => rfl⟩
      · exact key false ⟨fun h => (by cases h), fun h => absurd h hh⟩
    · rintro σ' H2 ⟨e2, ⟨c2, c3, c4, rfl⟩, okr⟩
      exact q true H2 e2 (by
        rw [hfe]
        exact ⟨fun _ => ⟨fun i hi => ok i (by omega), fun i row h => okr i row (by have := get_lt h; omega) h⟩, fun _ => rfl⟩)
abbrev N__law_turned : List Str := ["_law_plan", "_law_way", "_law_number", "_law_part"]
theorem sc__law_turned : FnScope N__law_turned ["_law_plan"] (defScope s__law_turned) := ⟨rfl, rfl, rfl, by decide +kernel, rfl, by decide +kernel, by decide +kernel⟩
def spLTurned (K : PySem.W.Frag) : Sp := fun vs H Q _ => ∃ (pl U R G : Addr) (p : Pln), vs = [.ref pl] ∧ PlnF K H pl U R G p ∧ PlnQ p ∧ ∀ t H', Ex H H' → PairsT K H' t (turnP p.least p.ps) → Q (.ref t) H'
theorem ok__law_turned (T : Txt w K mg) : FnOk P w K mg base CX0 1 T._law_turned.f T._law_turned.fd ["_law_plan"] (spLTurned K) := by
  refine T._law_turned.F.ok sc__law_turned (fun vs H Q E h => ?_) (fun cdv A outer s H vs Q E hr h => ?_)
  · obtain ⟨pl, U, R, G, p, rfl, _⟩ := h
    rfl
  obtain ⟨pl, U, R, G, p, rfl, PF, Z, q⟩ := h
  obtain ⟨gp, gc, hG, ⟨qs, hqs, hql, hq⟩⟩ := PF.g
  refine ⟨_, PSs.nox (pss_cons (ps_set (i := 1) sc__law_turned.nd rfl (Or.inr rfl) (pe_ix (ix_listK (K := K) rfl) (pe_lst (pa_cons pe_int (pa_cons (pe_un un_neg pe_int) pa_nil))) (pe_callTy call_int1 (by rfl) T.m_int (by decide +kernel) (pa_cons (pe_cmpR op_eq (pe_ix (ix_tupK (K := K) rfl) (pe_ix (ix_tupK (K := K) rfl) (pv 0) pe_int (fun _ _ => rfl)) pe_int (fun _ _ => rfl)) pe_str (nomark _)) pa_nil)) (fun _ _ => rfl)))
 (pss_one (ps_ret (pe_callTy (call_tupleK (K := K) rfl) (by rfl) T.m_tuple (by decide +kernel) (pa_cons (pe_lc (own := [("_law_number", 2), ("_law_part", 3)]) (g := gTup K 2 (gCons (gName 2) (gCons (gName 3) gNil))) (tt := tYes) rfl sc__law_turned.nd (pi_tupK (K := K) rfl (pe_ix (ix_tupK (K := K) rfl) (pe_ix (ix_tupK (K := K) rfl) (pv 0) pe_int (fun _ _ => rfl)) pe_int (fun _ _ => rfl))) (blkOk_by (N := N__law_turned) (sc := defScope s__law_turned) (by decide +kernel))
 (fun _ _ _ _ _ => (pg_tupK (n := 2) (K := K) rfl rfl (pgs_cons (pg_name (i := 2) sc__law_turned.nd rfl (Or.inl rfl)) (pgs_cons (pg_name (i := 3) sc__law_turned.nd rfl (Or.inl rfl)) pgs_nil)))) (fun _ _ _ _ _ => pts_nil) (fun _ _ _ _ _ => (pe_tup (pa_cons (pv 2) (pa_cons (pe_tup (pa_cons (pe_op op_mulW (pv 1) (pe_ix (ix_tupK (K := K) rfl) (pv 3) pe_int (fun _ _ => rfl))) (pa_cons (pe_ix (ix_tupK (K := K) rfl) (pv 3) pe_int (fun _ _ => rfl)) pa_nil))) pa_nil))))) pa_nil))))), ?_⟩
  -- the way
  refine q_asg (v := .int (if p.least then 1 else -1)) (ev_pick (xs := [.int 1, .int (-1)]) (i := if p.least then 0 else 1) (ea_cons ev_c (ea_cons ev_neg1 ea_nil)) (ev_is (ev_intB (b := !p.least) (ev_is (ev_op (ev_op (ev_item (v := .ref G) rfl PF.o rfl) ev_c (rv_ixT hG rfl)) ev_c (rv_eq rfl)) (by cases p.least <;> decide +kernel))) (by cases p.least <;> rfl)) (by show 2 ≤ 100000; decide) (by cases p.least <;> rfl)) fun H1 e1 => ?_
  have hqs1 := ex_t e1 hqs
  have hlen := Z.pg.len
  have cmp := evc_tup2 (K := K) (σ := [some (.ref pl), some (.int (if p.least then 1 else -1)), none, none]) (H := H1) (a := gp) (xs := qs.map V.ref) (tl := tOp (rIxT K) (tOp (rIxT K) (tVar 0) (tC (.int 2))) (tC (.int 1))) (i0 := 2) (j0 := 3) (vs := [2, 3]) (te := tTup (tCons (tVar 2) (tCons (tTup (tCons (tOp (rI CMulW fun i j => .int (i * j)) (tVar 1) (tOp (rIxT K) (tVar 3) (tC (.int 0)))) (tCons (tOp (rIxT K) (tVar 3) (tC (.int 1))) tNil))) tNil)))
    (fun i u v => ∃ kr : Nat × Rat, p.ps[i]? = some kr ∧ u = .int (kr.1 : Nat) ∧ FrA K H1 v kr.2)
    (fun _ i v H => ∃ t f, v = .ref t ∧ ∃ kr : Nat × Rat, p.ps[i]? = some kr ∧ SqT K H t [.int (kr.1 : Nat), f] ∧ FrA K H f (if p.least then kr.2 else 0 - kr.2)) (ev_op (ev_item (v := .ref G) rfl (ex_t e1 PF.o) rfl) ev_c (rv_ixT (ex_t e1 hG) rfl)) hqs1 (by rw [List.length_map]; omega) (fun _ _ => rfl)
    (fun i x hx => by
      obtain ⟨t, ht, rfl⟩ := map_ref_at hx
      obtain ⟨kr, hk⟩ := get_of_lt (xs := p.ps) (i := i) (by have := get_lt ht; omega)
      obtain ⟨f, h1, h2⟩ := hq i t kr ht hk
      exact ⟨t, _, _, rfl, ex_t e1 h1, kr, hk, rfl, h2.ex e1⟩)
    (fun D i u v H2 hD e2 hl hi ⟨kr, hk, hu, hv⟩ => by
      subst hu
      obtain ⟨a, rfl, ha⟩ := hv
      have zk := Z.zg kr (List.mem_of_getElem? hk)
      intro H3 e3 Q k
      have ha3 := ex_t (e2.trans e3) ha
      refine e_tup (a_cons (at_v (ev_var rfl) fun H4 e4 => a_cons ?_))
      have fin : ∀ (r : Rat) (n : Int), r.num = n → r.den = kr.2.den → Ev (tOp (rI CMulW fun i j => .int (i * j)) (tVar 1) (tOp (rIxT K) (tVar 3) (tC (.int 0)))) [some (.ref pl), some (.int (if p.least then 1 else -1)), some (.int (kr.1 : Nat)), some (.ref a)] H4 (.int n) → r = (if p.least then kr.2 else 0 - kr.2) →
          tTup (tCons (tOp (rI CMulW fun i j => .int (i * j)) (tVar 1) (tOp (rIxT K) (tVar 3) (tC (.int 0)))) (tCons (tOp (rIxT K) (tVar 3) (tC (.int 1))) tNil)) [some (.ref pl), some (.int (if p.least then 1 else -1)), some (.int (kr.1 : Nat)), some (.ref a)] H4 (fun v H5 => tNil [some (.ref pl), some (.int (if p.least then 1 else -1)), some (.int (kr.1 : Nat)), some (.ref a)] H5 fun vs H6 => (V.int (kr.1 : Nat) :: v :: vs).length ≤ sizeLine ∧ ∀ p, H6 p = none → Q (.ref p) (upd H6 p (.tup (V.int (kr.1 : Nat) :: v :: vs)))) := by
        intro r n hn hd hv hr
        refine at_f (K := K) (evf_tup (r := r) (ev_is hv (by rw [hn])) (ev_is (ev_item (i := 3) rfl (ex_t e4 ha3) rfl) (by rw [hd]))) fun v H5 e5 fv => ⟨(by show 2 ≤ sizeLine; decide), fun t ht => ?_⟩
        rw [hr] at fv
        exact k (.ref t) _ ((e4.trans e5).trans (Ex.new ht)) ⟨t, v, rfl, kr, hk, st_of upd_same, fv.ex (Ex.new ht)⟩
      have em := ev_op (r := rI CMulW fun i j => V.int (i * j)) (ta := tVar 1) (tb := tOp (rIxT K) (tVar 3) (tC (.int 0))) (σ := [some (.ref pl), some (.int (if p.least then 1 else -1)), some (.int (kr.1 : Nat)), some (.ref a)]) (H := H4) (ev_var rfl) (ev_item (i := 3) rfl (ex_t e4 ha3) rfl) (rv_I (cmulw (a := 1) (b := 30) (by split <;> decide) zk.1))
      rcases Bool.eq_false_or_eq_true p.least with hle | hle
      · refine fin kr.2 kr.2.num rfl rfl (ev_is em (by rw [hle]; show V.int (1 * _) = _; rw [Int.one_mul])) (by rw [hle]; rfl)
      · have e0 : 0 - kr.2 = -kr.2 := by grind
        refine fin (-kr.2) (-kr.2.num) rfl rfl (ev_is em (by rw [hle]; show V.int (-1 * _) = _; congr 1; omega)) (by rw [hle]; exact e0.symm))
    (fun D i v H H' f hl h => by
      obtain ⟨ys, hl⟩ := hl
      obtain ⟨t, g, rfl, kr, hk, h1, h2⟩ := h
      exact ⟨t, g, rfl, kr, hk, fx_t f hl h1, h2.fx f hl⟩)
  refine s_retCU (P := fun xs H => xs.length = p.ps.length ∧ ∀ (i : Nat) v, xs[i]? = some v → ∃ t f, v = .ref t ∧ ∃ kr : Nat × Rat, p.ps[i]? = some kr ∧ SqT K H t [.int (kr.1 : Nat), f] ∧ FrA K H f (if p.least then kr.2 else 0 - kr.2)) (evcu_of cmp fun D xs H2 l e2 hD h2 o hl => ?_) fun l H2 xs hl e2 h2 o => ?_
  · obtain ⟨o1, o2⟩ := outs_all o
    rw [List.length_map, hql] at o1
    refine ⟨o1, fun i v hv => ?_⟩
    obtain ⟨t, f, e, kr, h5, h6, h7⟩ := o2 i v hv
    exact ⟨t, f, e, kr, h5, ex_t (Ex.new hl) h6, h7.ex (Ex.new hl)⟩
  obtain ⟨o1, o2⟩ := o
  obtain ⟨ts, rfl⟩ := refs_of fun i v hv => by
    obtain ⟨t, f, e, _⟩ := o2 i v hv
    exact ⟨t, e⟩
  rw [List.length_map] at o1
  refine q l _ (e1.trans e2) ⟨ts, st_of h2, by rw [o1]; unfold turnP; split <;> simp, fun i t kr ht hk => ?_⟩
  obtain ⟨t', f, et, kr', hk', h3, h4⟩ := o2 i (.ref t) (at_map_ref ht)
  cases et
  have ek : kr = (kr'.1, if p.least then kr'.2 else 0 - kr'.2) := by
    have : (turnP p.least p.ps)[i]? = some (kr'.1, if p.least then kr'.2 else 0 - kr'.2) := by
      unfold turnP
      cases p.least with
      | true => exact hk'
      | false =>
        show (p.ps.map fun kr => (kr.1, 0 - kr.2))[i]? = _
        rw [List.getElem?_map, hk']; rfl
    rw [this] at hk
    exact (Option.some.inj hk).symm
  subst ek
  exact ⟨f, h3, h4⟩
end
end PX

/-! the law's lines -/
namespace PX
open PySem PySem.Spec PyProof.Rows L2 Evl
open PW (Sz fr)
theorem FrU.fx {K : PySem.W.Frag} {D : Addr} {H H' : Hp} {v : V} {r : Rat} {a b : Nat} {ys : List V} (f : Fx D H H') (hD : H D = some (.lst ys)) (h : FrU K H v r a b) : FrU K H' v r a b :=
  let ⟨p, n, d, h1, h2, h3⟩ := h; ⟨p, n, d, h1, fx_t f hD h2, h3⟩
theorem LineE.fx {K : PySem.W.Frag} {D : Addr} {H H' : Hp} {v : V} {l : PW.Line} {ys : List V} (f : Fx D H H') (hD : H D = some (.lst ys)) (h : LineE K H v l) : LineE K H' v l :=
  let ⟨t, x, y, z, h1, h2, h3, h4, h5⟩ := h; ⟨t, x, y, z, h1, fx_t f hD h2, h3.fx f hD, h4.fx f hD, h5.fx f hD⟩
def EdgesA (K : PySem.W.Frag) (H : Hp) (D : Addr) (L : List PW.Line) : Prop := ∃ xs, H D = some (.lst xs) ∧ xs.length = L.length ∧ ∀ (i : Nat) v l, xs[i]? = some v → L[i]? = some l → LineE K H v l
theorem EdgesA.ex {K : PySem.W.Frag} {H H' : Hp} {D : Addr} {L : List PW.Line} (e : Ex H H') (h : EdgesA K H D L) : EdgesA K H' D L :=
  let ⟨xs, a, b, c⟩ := h; ⟨xs, e _ _ a, b, fun i v l h1 h2 => (c i v l h1 h2).ex e⟩
theorem EdgesA.app {K : PySem.W.Frag} {H H' : Hp} {D : Addr} {L : List PW.Line} {xs : List V} {v : V} {l : PW.Line} (e : Ex H H') (h1 : H D = some (.lst xs)) (h2 : xs.length = L.length) (h3 : ∀ (i : Nat) v l, xs[i]? = some v → L[i]? = some l → LineE K H v l) (hv : LineE K H' v l) :
    EdgesA K (upd H' D (.lst (xs ++ [v]))) D (L ++ [l]) := by
  have hD := e _ _ h1
  refine ⟨xs ++ [v], upd_same, by simp [h2], fun i u k hu hk => ?_⟩
  by_cases hi : i < xs.length
  · rw [List.getElem?_append_left hi] at hu
    rw [List.getElem?_append_left (by omega)] at hk
    exact ((h3 i u k hu hk).ex e).fx Fx.upd hD
  · have : i = xs.length := by
      have := get_lt hu
      simp at this
      omega
    subst this
    rw [List.getElem?_append_right (Nat.le_refl _), Nat.sub_self] at hu
    rw [List.getElem?_append_right (by omega), h2, Nat.sub_self] at hk
    cases hu
    cases hk
    exact hv.fx Fx.upd hD
section
variable {K : PySem.W.Frag} {σ : L2.St} {H : Hp} {ta tb td ty tx : TE}
/-- dict(pairs) -/
theorem at_dict {Q : VK} {pr : Addr} {ps : List (Nat × Rat)} (hp : Ev ta σ H (.ref pr)) (h : PairsF K H pr ps) (P2 : Pr2 ps) (k : ∀ d H', Ex H H' → DictF K H' d (numF ps) → Q (.ref d) H') : tCB (WX.rDictT K) (tCons ta tNil) σ H Q := by
  refine hp H (Ex.refl H) _ fun H1 e1 => ?_
  obtain ⟨qs, hz, hl, hq⟩ := h.ex e1
  -- the pairs as keys and values
  have key : ∀ (qs : List Addr) (ps : List (Nat × Rat)), qs.length = ps.length → (∀ (i : Nat) q (kr : Nat × Rat), qs[i]? = some q → ps[i]? = some kr → ∃ f, SqT K H1 q [.int (kr.1 : Nat), f] ∧ FrA K H1 f kr.2) →
      ∃ vs : List V, vs.length = ps.length ∧ Paired (fun p kv => SqT K H1 p [kV kv.1, kv.2]) qs ((ps.zip vs).map fun x => ((Sum.inl (x.1.1 : Int) : Key), x.2)) ∧ ∀ (i : Nat) v (kr : Nat × Rat), vs[i]? = some v → ps[i]? = some kr → FrA K H1 v kr.2 := by
    intro qs
    induction qs with
    | nil =>
      intro ps hl _
      match ps, hl with
      | [], _ => exact ⟨[], rfl, .nil, fun i v kr h => by simp at h⟩
    | cons q qs ih =>
      intro ps hl hq
      match ps, hl with
      | kr :: ps, hl =>
        obtain ⟨f, h1, h2⟩ := hq 0 q kr rfl rfl
        obtain ⟨vs, a, b, c⟩ := ih ps (by simpa using hl) fun i q kr h1 h2 => hq (i + 1) q kr h1 h2
        refine ⟨f :: vs, by simp [a], .cons h1 b, fun i v kr' hv hk => ?_⟩
        match i, hv, hk with
        | 0, hv, hk =>
          cases hv
          cases hk
          exact h2
        | i + 1, hv, hk => exact c i v kr' hv hk
  obtain ⟨vs, v1, v2, v3⟩ := key qs ps hl hq
  refine ⟨pr, qs, _, rfl, hz, v2, fun d hd => k d _ (e1.trans (Ex.new hd)) ⟨_, upd_same, fun c => ?_⟩⟩
  have eN : Ex H1 (upd H1 d (.dK (mergeK [] ((ps.zip vs).map fun x => ((Sum.inl (x.1.1 : Int) : Key), x.2))))) := Ex.new hd
  obtain ⟨a, b, rfl⟩ := P2
  have ne01 : ¬ ((Sum.inl (0 : Int) : Key) = Sum.inl (1 : Int)) := by decide
  have ne10 : ¬ ((Sum.inl (1 : Int) : Key) = Sum.inl (0 : Int)) := by decide
  have hk : ∀ {c : Nat} {i : Int}, ((Sum.inl (c : Int) : Key) = Sum.inl i) ↔ (c : Int) = i := ⟨fun h => Sum.inl.inj h, fun h => by rw [h]⟩
  cases a with
  | none =>
    cases b with
    | none =>
      have e : mergeK [] (((prs none none).zip vs).map fun x => ((Sum.inl (x.1.1 : Int) : Key), x.2)) = [] := rfl
      rw [e]
      exact ⟨fun v hv => (by rw [valV_nil] at hv; cases hv), fun _ => rfl⟩
    | some s =>
      obtain ⟨w, rfl⟩ : ∃ w, vs = [w] := by
        match vs, v1 with
        | [w], _ => exact ⟨w, rfl⟩
      · skip
        have fw := (v3 0 w (1, s) rfl rfl).ex eN
        have e : mergeK [] (((prs none (some s)).zip [w]).map fun x => ((Sum.inl (x.1.1 : Int) : Key), x.2)) = putK [] (Sum.inl 1) w := rfl
        have en : numF (prs none (some s)) c = if c = 1 then s else 0 := rfl
        rw [e] at fw ⊢
        rw [en, valV_put, valV_nil]
        by_cases h1 : c = 1
        · subst h1
          rw [if_pos rfl, if_pos (by rfl)]
          exact ⟨fun v hv => (by cases hv; exact fw), fun z => by cases z⟩
        · rw [if_neg h1, if_neg (by rw [hk]; omega)]
          exact ⟨fun v hv => (by cases hv), fun _ => rfl⟩
  | some r =>
    cases b with
    | none =>
      obtain ⟨w, rfl⟩ : ∃ w, vs = [w] := by
        match vs, v1 with
        | [w], _ => exact ⟨w, rfl⟩
      · skip
        have fw := (v3 0 w (0, r) rfl rfl).ex eN
        have e : mergeK [] (((prs (some r) none).zip [w]).map fun x => ((Sum.inl (x.1.1 : Int) : Key), x.2)) = putK [] (Sum.inl 0) w := rfl
        have en : numF (prs (some r) none) c = if c = 0 then r else 0 := rfl
        rw [e] at fw ⊢
        rw [en, valV_put, valV_nil]
        by_cases h1 : c = 0
        · subst h1
          rw [if_pos rfl, if_pos (by rfl)]
          exact ⟨fun v hv => (by cases hv; exact fw), fun z => by cases z⟩
        · rw [if_neg h1, if_neg (by rw [hk]; omega)]
          exact ⟨fun v hv => (by cases hv), fun _ => rfl⟩
    | some s =>
      obtain ⟨w, w', rfl⟩ : ∃ w w', vs = [w, w'] := by
        match vs, v1 with
        | [w, w'], _ => exact ⟨w, w', rfl⟩
      · skip
        have fw := (v3 0 w (0, r) rfl rfl).ex eN
        have fw' := (v3 1 w' (1, s) rfl rfl).ex eN
        have e : mergeK [] (((prs (some r) (some s)).zip [w, w']).map fun x => ((Sum.inl (x.1.1 : Int) : Key), x.2)) = putK (putK [] (Sum.inl 0) w) (Sum.inl 1) w' := rfl
        have en : numF (prs (some r) (some s)) c = if c = 1 then s else if c = 0 then r else 0 := rfl
        rw [e] at fw fw' ⊢
        rw [en, valV_put, valV_put, valV_nil]
        by_cases h1 : c = 1
        · subst h1
          rw [if_pos rfl, if_pos (by rfl)]
          exact ⟨fun v hv => (by cases hv; exact fw'), fun z => by cases z⟩
        · rw [if_neg h1, if_neg (by rw [hk]; omega)]
          by_cases h0 : c = 0
          · subst h0
            rw [if_pos rfl, if_pos (by rfl)]
            exact ⟨fun v hv => (by cases hv; exact fw), fun z => by cases z⟩
          · rw [if_neg h0, if_neg (by rw [hk]; omega)]
            exact ⟨fun v hv => (by cases hv), fun _ => rfl⟩
theorem eu_get {d : Addr} {f : Nat → Rat} {c a b : Nat} (hd : Ev td σ H (.ref d)) (hc : Ev ty σ H (.int (c : Nat))) (h : DictF K H d f) (z : Q2 a b (f c)) (hx : EvU2 K tx σ H 0 a b) : EvU2 K (tDGet2 td ty tx) σ H (f c) a b := fun H1 e Q k =>
  hd H1 e _ fun H2 e2 => by
    obtain ⟨kvs, h1, h2⟩ := h.ex (e.trans e2)
    refine ⟨d, rfl, .inl ⟨kvs, .inl h1⟩, hc H2 (e.trans e2) _ fun H3 e3 => hx H3 ((e.trans e2).trans e3) _ fun vz H4 e4 fz => ⟨valV kvs (.inl (c : Int)), DGet.k (k := Sum.inl (c : Int)) (e4 _ _ (e3 _ _ h1)), ?_⟩⟩
    cases hv : valV kvs (.inl (c : Int)) with
    | none =>
      refine k _ H4 ((e2.trans e3).trans e4) ?_
      rw [(h2 c).2 hv]
      exact fz
    | some v => exact k _ H4 ((e2.trans e3).trans e4) ((((h2 c).1 v hv).ex (e3.trans e4)).u z)
theorem eu_zero {σ : L2.St} {H : Hp} {a b : Nat} (ha : 1 ≤ a) (hb : 1 ≤ b) : EvU2 K (tTup (tCons (tC (.int 0)) (tCons (tC (.int 1)) tNil))) σ H 0 a b := fun H1 e Q q =>
  eu_tup (K := K) (n := 0) (m := 1) (a := 1) (b := 1) ev_c ev_c (by omega) (by omega) (by omega) H1 e Q fun v H2 e2 f => q v H2 e2 (by
    have : fr 0 1 = 0 := by decide
    rw [this] at f
    exact f.mono ha hb)
theorem eu_unit {σ : L2.St} {H : Hp} {a b : Nat} (ha : 1 ≤ a) (hb : 1 ≤ b) : EvU2 K (tTup (tCons (tC (.int 1)) (tCons (tC (.int 1)) tNil))) σ H 1 a b := fun H1 e Q q =>
  eu_tup (K := K) (n := 1) (m := 1) (a := 1) (b := 1) ev_c ev_c (by omega) (by omega) (by omega) H1 e Q fun v H2 e2 f => q v H2 e2 (by
    have : fr 1 1 = 1 := by decide
    rw [this] at f
    exact f.mono ha hb)
theorem q_forTat {D : Ends} {tu tz : TS} {g : TG} (h : ta σ H fun x H2 => tSeq (tFor (iTup K (tC x)) g tu) tz D σ H2) : tSeq (tFor (iTup K ta) g tu) tz D σ H := h
end
end PX

/-! _law_edges -/
namespace PX
open PySem PySem.Spec PyProof.Rows L2 Evl
open PW (Sz fr)
section
variable {P : Program} {w : World} {K : PySem.W.Frag} {mg : Str → Option Value} {base : Heap}
abbrev N__law_edges : List Str := ["_law_plan", "_law_found", "_law_row", "_law_parts", "_law_end"]
theorem sc__law_edges : FnScope N__law_edges ["_law_plan"] (defScope s__law_edges) := ⟨rfl, rfl, rfl, by decide +kernel, rfl, by decide +kernel, by decide +kernel⟩
def spLEdges (K : PySem.W.Frag) : Sp := fun vs H Q _ => ∃ (pl U R G : Addr) (p : Pln), vs = [.ref pl] ∧ PlnF K H pl U R G p ∧ PlnQ p ∧ ∀ D H', H D = none → Ex H H' → EdgesA K H' D p.r.edges → Q (.ref D) H'
/-- for end in an unknown's ends: ... -/
theorem edges_for {H0 H : Hp} {D : Ends} {tz : TS} {te tx ty : TE} {F u f g : Addr} {a b : V} {L : List PW.Line} {l1 l2 : PW.Line} {s0 s2 s3 c4 : Option V} (hF : H0 F = none) (e0 : Ex H0 H) (hu : Ev te [s0, some (.ref F), s2, s3, c4] H (.ref u)) (ht : SqT K H u [a, b, .ref f, .ref g])
    (hE : EdgesA K H F L) (hlen : L.length ≤ 1000)
    (row : ∀ (i : Nat) x H1, [V.ref f, .ref g][i]? = some x → Ex H0 H1 → EvR (tTup (tCons tx (tCons ty (tCons (tVar 4) tNil)))) [s0, some (.ref F), s2, s3, some x] H1 (fun v H => LineE K H v (if i = 0 then l1 else l2)))
    (k : ∀ H' c4, Ex H0 H' → EdgesA K H' F (L ++ [l1, l2]) → tz D [s0, some (.ref F), s2, s3, c4] H') :
    tSeq (tFor (iTup K (tSl (rSlT K) te (tPart (tC (.int 2))) tNoPart)) (gName 4) (tDrop (tBM K "list" rAppend (tVar 1) (tCons (tTup (tCons tx (tCons ty (tCons (tVar 4) tNil)))) tNil)))) tz D [s0, some (.ref F), s2, s3, c4] H := by
  refine q_forTat (at_u (eu_slT hu (eo_some (i := 2) ev_c) eo_none ht (show ¬ (HT.sIx 4 0 (some 2) = 0 ∧ HT.sIx 4 4 none = 4) by decide)) fun p H2 hp e2 h2 => ?_)
  have hcut : cutV [a, b, .ref f, .ref g] (some 2) none = [.ref f, .ref g] := rfl
  rw [hcut] at h2
  refine q_forT (a := p) (xs := [.ref f, .ref g]) ev_c (st_of h2) (fun i σ' H' => Ex H0 H' ∧ SqT K H' p [.ref f, .ref g] ∧ (∃ c, σ' = [s0, some (.ref F), s2, s3, c]) ∧ EdgesA K H' F (L ++ ([l1, l2] : List PW.Line).take i))
    (fun H3 e3 => ⟨(e0.trans e2).trans e3, ex_t e3 (st_of h2), ⟨_, rfl⟩, by rw [List.take_zero, List.append_nil]; exact hE.ex (e2.trans e3)⟩) (fun i σ' H' _ h => h.2.1) ?_ ?_
  · rintro i x σ' H' hx ⟨e1, hsq, ⟨c, rfl⟩, xs, x1, x2, x3⟩
    have hi : i < 2 := by have := get_lt hx; exact this
    refine s_appR (l := F) (xs := xs) x1 (ev_var rfl) (row i x H' hx e1) (by
      rw [x2, List.length_append, List.length_take]
      show L.length + min i 2 < 100000
      omega) fun v H3 e3 hv => ?_
    have hF3 := e3 _ _ x1
    refine ⟨(e1.trans e3).mut hF, fx_t Fx.upd hF3 (ex_t e3 hsq), ⟨_, rfl⟩, ?_⟩
    have e : L ++ ([l1, l2] : List PW.Line).take (i + 1) = L ++ ([l1, l2] : List PW.Line).take i ++ [if i = 0 then l1 else l2] := by
      have h01 : i = 0 ∨ i = 1 := by omega
      rcases h01 with rfl | rfl <;> simp
    rw [e]
    exact EdgesA.app e3 x1 x2 x3 hv
  · rintro σ' H' ⟨e1, hsq, ⟨c, rfl⟩, hE'⟩
    exact k H' c e1 hE'
theorem er_edge {σ : L2.St} {H : Hp} {tx ty tc : TE} {v : V} {l : PW.Line} (hx : EvU2 K tx σ H l.a 30 10) (hy : EvU2 K ty σ H l.b 30 10) (hc : Ev tc σ H v) (fc : FrU K H v l.c 198 105) : EvR (tTup (tCons tx (tCons ty (tCons tc tNil)))) σ H (fun v H => LineE K H v l) := fun H1 e Q q =>
  e_tup (a_cons (hx H1 e _ fun x H2 e2 fx => a_cons (hy H2 (e.trans e2) _ fun y H3 e3 fy => a_cons (hc H3 ((e.trans e2).trans e3) _ fun H4 e4 => ⟨(by show 3 ≤ sizeLine; decide), fun t ht => by
    have eN : Ex H4 (upd H4 t (.tup [x, y, v])) := Ex.new ht
    exact q (.ref t) _ (((e2.trans e3).trans e4).trans eN) ⟨t, x, y, v, rfl, st_of upd_same, ((fx.ex e3).ex e4).ex eN, (fy.ex e4).ex eN, fc.ex ((((e.trans e2).trans e3).trans e4).trans eN)⟩⟩))))
theorem ok__law_edges (T : Txt w K mg) : FnOk P w K mg base CX0 1 T._law_edges.f T._law_edges.fd ["_law_plan"] (spLEdges K) := by
  refine T._law_edges.F.ok sc__law_edges (fun vs H Q E h => ?_) (fun cdv A outer s H vs Q E hr h => ?_)
  · obtain ⟨pl, U, R, G, p, rfl, _⟩ := h
    rfl
  obtain ⟨pl, U, R, G, p, rfl, PF, Z, q⟩ := h
  refine ⟨_, PSs.nox (pss_cons (ps_set (i := 1) sc__law_edges.nd rfl (Or.inl rfl) (pe_lst pa_nil))
 (pss_cons (ps_for PassesOwn.never rfl (pi_tupK (K := K) rfl (pe_ix (ix_tupK (K := K) rfl) (pv 0) pe_int (fun _ _ => rfl))) (pg_name (i := 2) sc__law_edges.nd rfl (Or.inl rfl))
 (pss_cons (ps_set (i := 3) sc__law_edges.nd rfl (Or.inl rfl) (pe_callTy (WX.call_dictT rfl) (by rfl) T.m_dict (by decide +kernel) (pa_cons (pe_ix (ix_tupK (K := K) rfl) (pv 2) pe_int (fun _ _ => rfl)) pa_nil)))
 (pss_one (ps_expr (pe_bm PySem.F.plainAttrs_list PySem.F.slot_list_append PySem.F.type_list_append mt_append (pv 1) (pa_cons (pe_tup (pa_cons (pe_dget2 (hu_of hr) (pv 3) pe_int (pe_tup (pa_cons pe_int (pa_cons pe_int pa_nil))) ⟨rfl, rfl, rfl, rfl⟩) (pa_cons (pe_dget2 (hu_of hr) (pv 3) pe_int (pe_tup (pa_cons pe_int (pa_cons pe_int pa_nil))) ⟨rfl, rfl, rfl, rfl⟩) (pa_cons (pe_ix (ix_tupK (K := K) rfl) (pv 2) pe_int (fun _ _ => rfl)) pa_nil)))) pa_nil))))))
 (pss_cons (ps_for PassesOwn.never rfl (pi_tupK (K := K) rfl (pe_slice (sl_tupK (K := K) rfl) (pe_ix (ix_tupK (K := K) rfl) (pe_ix (ix_tupK (K := K) rfl) (pv 0) pe_int (fun _ _ => rfl)) pe_int (fun _ _ => rfl)) (po_some pe_int) po_none)) (pg_name (i := 4) sc__law_edges.nd rfl (Or.inl rfl))
 (pss_one (ps_expr (pe_bm PySem.F.plainAttrs_list PySem.F.slot_list_append PySem.F.type_list_append mt_append (pv 1) (pa_cons (pe_tup (pa_cons (pe_tup (pa_cons pe_int (pa_cons pe_int pa_nil))) (pa_cons (pe_tup (pa_cons pe_int (pa_cons pe_int pa_nil))) (pa_cons (pv 4) pa_nil)))) pa_nil)))))
 (pss_cons (ps_for PassesOwn.never rfl (pi_tupK (K := K) rfl (pe_slice (sl_tupK (K := K) rfl) (pe_ix (ix_tupK (K := K) rfl) (pe_ix (ix_tupK (K := K) rfl) (pv 0) pe_int (fun _ _ => rfl)) pe_int (fun _ _ => rfl)) (po_some pe_int) po_none)) (pg_name (i := 4) sc__law_edges.nd rfl (Or.inl rfl))
 (pss_one (ps_expr (pe_bm PySem.F.plainAttrs_list PySem.F.slot_list_append PySem.F.type_list_append mt_append (pv 1) (pa_cons (pe_tup (pa_cons (pe_tup (pa_cons pe_int (pa_cons pe_int pa_nil))) (pa_cons (pe_tup (pa_cons pe_int (pa_cons pe_int pa_nil))) (pa_cons (pv 4) pa_nil)))) pa_nil)))))
 (pss_one (ps_ret (pv 1))))))), ?_⟩
  obtain ⟨ts, t1, t2, t3⟩ := PF.u
  obtain ⟨rx, r1, r2, r3⟩ := PF.r
  have l2 := Z.l2
  have hr3 := Z.r3
  refine q_asgL (el_lst ea_nil (Nat.zero_le _)) fun F H1 hF e1 h1 => ?_
  -- the rows
  refine q_forT (a := R) (xs := rx) (ev_item (v := .ref R) rfl (ex_t e1 PF.o) rfl) (ex_t e1 r1) (fun i σ' H' => Ex H H' ∧ (∃ c2 c3, σ' = [some (.ref pl), some (.ref F), c2, c3, none]) ∧ EdgesA K H' F ((p.rs.map rowL).take i))
    (fun H2 e2 => ⟨e1.trans e2, ⟨none, none, rfl⟩, [], e2 _ _ h1, rfl, fun i v l h => by simp at h⟩) (fun i σ' H' _ h => ex_t h.1 r1) ?_ ?_
  · rintro i x σ' H' hx ⟨e2, ⟨c2, c3, rfl⟩, xs, x1, x2, x3⟩
    obtain ⟨row, hrow⟩ := get_of_lt (xs := p.rs) (i := i) (by have := get_lt hx; omega)
    obtain ⟨t, a, pr, g, rfl, u1, u2, u3⟩ := (r3 i x row hx hrow).ex e2
    obtain ⟨y1, y2, y3⟩ := Z.pr row (List.mem_of_getElem? hrow)
    obtain ⟨a', b', hab⟩ := id y1
    have zn : Q2 30 10 (numF row.pairs 0) ∧ Q2 30 10 (numF row.pairs 1) := by
      rw [hab] at y2 ⊢
      rw [(prs_num a' b').1, (prs_num a' b').2]
      have z0 : Q2 30 10 0 := ⟨by decide, by decide⟩
      cases a' <;> cases b' <;> simp [prs] at y2 ⊢
      · exact z0
      · exact ⟨z0, y2⟩
      · exact ⟨y2, z0⟩
      · exact y2
    refine q_at (at_dict (ev_item (v := .ref pr) rfl u1 rfl) u2 y1 fun d H3 e3 hd => ?_)
    have e23 := e2.trans e3
    have x1' := e3 _ _ x1
    refine s_appR (l := F) (xs := xs) x1' (ev_var rfl) (er_edge (l := rowL row) (eu_get (ev_var rfl) (c := 0) ev_c hd zn.1 (eu_zero (by omega) (by omega))) (eu_get (ev_var rfl) (c := 1) ev_c hd zn.2 (eu_zero (by omega) (by omega))) (ev_item rfl (ex_t e3 u1) rfl) ((u3.ex e3).u y3)) (by
      rw [x2, List.length_take, List.length_map]
      omega) fun v H4 e4 hv => ?_
    refine ⟨(e23.trans e4).mut hF, ⟨_, _, rfl⟩, ?_⟩
    have e : (p.rs.map rowL).take (i + 1) = (p.rs.map rowL).take i ++ [rowL row] := by
      rw [List.take_add_one, List.getElem?_map, hrow]; rfl
    rw [e]
    exact EdgesA.app (e3.trans e4) x1 x2 x3 hv
  · rintro σ' H' ⟨e2, ⟨c2, c3, rfl⟩, hE⟩
    rw [r2, List.take_of_length_le (by rw [List.length_map]; omega)] at hE
    -- the ends
    have hlh : ∀ i, i < 2 → p.ls[i]? = some (p.ls.getD i (0, 0)) := fun i hi => by rw [List.getD_eq_getElem?_getD, List.getElem?_eq_getElem (by omega)]; rfl
    obtain ⟨ta, hta⟩ := get_of_lt (xs := ts) (i := 0) (by omega)
    obtain ⟨tb, htb⟩ := get_of_lt (xs := ts) (i := 1) (by omega)
    obtain ⟨a0, b0, f0, g0, u1, u2, u3⟩ := t3 0 ta _ hta (hlh 0 (by omega))
    obtain ⟨a1, b1, f1, g1, w1, w2, w3⟩ := t3 1 tb _ htb (hlh 1 (by omega))
    obtain ⟨z1, z2⟩ := Z.zl _ (List.mem_of_getElem? (hlh 0 (by omega)))
    obtain ⟨z3, z4⟩ := Z.zl _ (List.mem_of_getElem? (hlh 1 (by omega)))
    have evU : ∀ {σ : L2.St} {H2 : Hp} {j : Nat} {t : Addr}, Ex H H2 → σ[0]? = some (some (.ref pl)) → ts[j]? = some t → Ev (tOp (rIxT K) (tOp (rIxT K) (tVar 0) (tC (.int 0))) (tC (.int (j : Nat)))) σ H2 (.ref t) := fun e h ht =>
      ev_op (ev_item (v := .ref U) h (ex_t e PF.o) rfl) ev_c (rv_ixT (ex_t e t1) (atI_nat (at_map_ref ht)))
    refine edges_for (H0 := H) (l1 := ⟨1, 0, .ge, p.r.lo0⟩) (l2 := ⟨1, 0, .le, p.r.hi0⟩) hF e2 (evU (j := 0) e2 rfl hta) (ex_t e2 u1) hE (by rw [List.length_map]; omega) (fun i x H3 hx e3 => ?_) fun H3 c4 e3 hE3 => ?_
    · match i, hx with
      | 0, hx =>
        cases hx
        rw [if_pos rfl]
        exact er_edge (l := ⟨1, 0, .ge, p.r.lo0⟩) (eu_unit (by omega) (by omega)) (eu_zero (by omega) (by omega)) (ev_var rfl) ((u2.ex e3).u (z1.mono (by omega) (by omega)))
      | 1, hx =>
        cases hx
        rw [if_neg (by omega)]
        exact er_edge (l := ⟨1, 0, .le, p.r.hi0⟩) (eu_unit (by omega) (by omega)) (eu_zero (by omega) (by omega)) (ev_var rfl) ((u3.ex e3).u (z2.mono (by omega) (by omega)))
    refine edges_for (H0 := H) (l1 := ⟨0, 1, .ge, p.r.lo1⟩) (l2 := ⟨0, 1, .le, p.r.hi1⟩) hF e3 (evU (j := 1) e3 rfl htb) (ex_t e3 w1) hE3 (by simp; omega) (fun i x H4 hx e4 => ?_) fun H4 c4 e4 hE4 => ?_
    · match i, hx with
      | 0, hx =>
        cases hx
        rw [if_pos rfl]
        exact er_edge (l := ⟨0, 1, .ge, p.r.lo1⟩) (eu_zero (by omega) (by omega)) (eu_unit (by omega) (by omega)) (ev_var rfl) ((w2.ex e4).u (z3.mono (by omega) (by omega)))
      | 1, hx =>
        cases hx
        rw [if_neg (by omega)]
        exact er_edge (l := ⟨0, 1, .le, p.r.hi1⟩) (eu_zero (by omega) (by omega)) (eu_unit (by omega) (by omega)) (ev_var rfl) ((w3.ex e4).u (z4.mono (by omega) (by omega)))
    refine ⟨_, rfl, q F H4 hF e4 ?_⟩
    have e : p.r.edges = p.rs.map rowL ++ [⟨1, 0, .ge, p.r.lo0⟩, ⟨1, 0, .le, p.r.hi0⟩] ++ [⟨0, 1, .ge, p.r.lo1⟩, ⟨0, 1, .le, p.r.hi1⟩] := by
      unfold PW.PlanR.edges PW.PlanR.ends
      rw [List.append_assoc]; rfl
    rw [e]; exact hE4
end
end PX

/-! _law_best -/
namespace PX
open PySem PySem.Spec PyProof.Rows L2 Evl
open PW (Sz fr Corner worthC BestOf AllPairs)
section
variable {P : PW.PlanR} {S S' : Nat → Nat → Prop} {o : Option Rat} {a b : Nat} {x : Rat}
theorem best_congr (h : BestOf P S o) (e : ∀ i j, S i j ↔ S' i j) : BestOf P S' o := by
  have : S = S' := funext fun i => funext fun j => propext (e i j)
  rw [← this]; exact h
theorem best_skip (h : BestOf P S o) (e : ∀ i j, S' i j ↔ S i j ∨ (i = a ∧ j = b)) (c : ¬ Corner P a b) : BestOf P S' o := by
  cases o with
  | none =>
    intro i j hs hc
    rcases (e i j).mp hs with h1 | ⟨rfl, rfl⟩
    · exact h i j h1 hc
    · exact c hc
  | some y =>
    obtain ⟨⟨i, j, h1, h2, h3⟩, h4⟩ := h
    refine ⟨⟨i, j, (e i j).mpr (.inl h1), h2, h3⟩, fun i j hs hc => ?_⟩
    rcases (e i j).mp hs with h1 | ⟨rfl, rfl⟩
    · exact h4 i j h1 hc
    · exact absurd hc c
theorem best_new (h : BestOf P S none) (e : ∀ i j, S' i j ↔ S i j ∨ (i = a ∧ j = b)) (c : Corner P a b) : BestOf P S' (some (worthC P a b)) := by
  refine ⟨⟨a, b, (e a b).mpr (.inr ⟨rfl, rfl⟩), c, rfl⟩, fun i j hs hc => ?_⟩
  rcases (e i j).mp hs with h1 | ⟨rfl, rfl⟩
  · exact absurd hc (h i j h1)
  · exact Rat.le_refl
theorem best_less (h : BestOf P S (some x)) (e : ∀ i j, S' i j ↔ S i j ∨ (i = a ∧ j = b)) (c : Corner P a b) (l : worthC P a b < x) : BestOf P S' (some (worthC P a b)) := by
  refine ⟨⟨a, b, (e a b).mpr (.inr ⟨rfl, rfl⟩), c, rfl⟩, fun i j hs hc => ?_⟩
  rcases (e i j).mp hs with h1 | ⟨rfl, rfl⟩
  · have := h.2 i j h1 hc
    grind
  · exact Rat.le_refl
theorem best_keep (h : BestOf P S (some x)) (e : ∀ i j, S' i j ↔ S i j ∨ (i = a ∧ j = b)) (l : ¬ worthC P a b < x) : BestOf P S' (some x) := by
  obtain ⟨⟨i, j, h1, h2, h3⟩, h4⟩ := h
  refine ⟨⟨i, j, (e i j).mpr (.inl h1), h2, h3⟩, fun i j hs hc => ?_⟩
  rcases (e i j).mp hs with h1 | ⟨rfl, rfl⟩
  · exact h4 i j h1 hc
  · grind
end
def Seen (k m i j : Nat) : Prop := j < i ∧ (i < k ∨ (i = k ∧ j < m))
def BestV (K : PySem.W.Frag) (H : Hp) (v : V) : Option Rat → Prop
  | none => v = .non
  | some x => FrU K H v x 2000 2000
theorem BestV.ex {K : PySem.W.Frag} {H H' : Hp} {v : V} {o : Option Rat} (e : Ex H H') (h : BestV K H v o) : BestV K H' v o := by
  cases o with
  | none => exact h
  | some x => exact FrU.ex e h
/-- a crossing -/
def CrR (K : PySem.W.Frag) (l k : PW.Line) (v : V) (H : Hp) : Prop := (PW.det l k = 0 ∧ v = .non) ∨ (PW.det l k ≠ 0 ∧ ∃ t, v = .ref t ∧ VT K H t (fun i => if i = 0 then PW.crx l k else PW.cry l k) 384 311)
theorem cut_take (xs : List V) {k : Nat} (h : k ≤ xs.length) : cutV xs none (some (k : Int)) = xs.take k := by
  unfold cutV
  rw [HT.sIx_none, HT.sIx_nat, Nat.sub_zero, List.drop_zero, Nat.min_eq_left h]
section
variable {w : World} {K : PySem.W.Frag} {mg : Str → Option Value} {σ : L2.St} {H : Hp} {ta tb : TE} {E : XK}
theorem er_cross {u v : V} {l k : PW.Line} (ha : Ev ta σ H u) (hb : Ev tb σ H v) (hu : LineE K H u l) (hv : LineE K H v k) : EvR (tCall (spLCross K) [] E (tCons ta (tCons tb tNil))) σ H (CrR K l k) := fun H1 e Q q =>
  ha H1 e _ fun H2 e2 => hb H2 (e.trans e2) _ fun H3 e3 => ⟨u, v, l, k, rfl, hu.ex ((e.trans e2).trans e3), hv.ex ((e.trans e2).trans e3), fun H4 e4 hd => q .non H4 ((e2.trans e3).trans e4) (.inl ⟨hd, rfl⟩), fun t H4 e4 hd ht => q (.ref t) H4 ((e2.trans e3).trans e4) (.inr ⟨hd, t, rfl, ht⟩)⟩
theorem et_meets {pl U R G va : Addr} {p : Pln} {f : Nat → Rat} {t0 : Bool} (ha : Ev ta σ H (.ref pl)) (hb : Ev tb σ H (.ref va)) (PF : PlnF K H pl U R G p) (Z : PlnQ p) (hv : VT K H va f 384 311) (h0 : t0 = true ↔ p.r.feas (f 0) (f 1)) : EvT (tB (tCall (spLMeets K) [] E (tCons ta (tCons tb tNil)))) σ H t0 := fun H1 e Q q =>
  ha H1 e _ fun H2 e2 => hb H2 (e.trans e2) _ fun H3 e3 => ⟨pl, U, R, G, va, p, f, rfl, PF.ex ((e.trans e2).trans e3), Z, hv.ex ((e.trans e2).trans e3), fun u H4 e4 hu => ⟨u, rfl, by
    have : u = t0 := by
      cases u <;> cases t0 <;> simp_all
    rw [this]
    exact q H4 ((e2.trans e3).trans e4)⟩⟩
/-- worth((0, 1), turned(plan), values) -/
theorem eu_goal {E' : XK} {tp tv : TE} {pl U R G va : Addr} {p : Pln} {f : Nat → Rat} {qa qb k l : Nat} (hp : Ev tp σ H (.ref pl)) (hv : Ev tv σ H (.ref va)) (PF : PlnF K H pl U R G p) (Z : PlnQ p) (VA : ValsA K H va f qa qb) (h3 : qa ≤ 10000) (h4 : qb ≤ 10000)
    (hk : 1 + (30 + qa) + 2 * (10 + qb + 1) ≤ k) (hl : 1 + 2 * (10 + qb) ≤ l) : EvU2 K (tCall (spLWorth K) [] E (tCons (tTup (tCons (tC (.int 0)) (tCons (tC (.int 1)) tNil))) (tCons (tCall (spLTurned K) [] E' (tCons tp tNil)) (tCons tv tNil)))) σ H (p.r.goal (f 0) (f 1)) k l := fun H1 e Q q =>
  a_cons (at_U2 (K := K) (eu_zero (a := 1) (b := 1) (by omega) (by omega)) fun v0 H2 e2 f0 => a_cons (hp H2 (e.trans e2) _ fun H3 e3 => ⟨pl, U, R, G, p, rfl, PF.ex ((e.trans e2).trans e3), Z, fun pr H4 e4 pp => a_cons (hv H4 (((e.trans e2).trans e3).trans e4) _ fun H5 e5 => by
    have e05 := (((e.trans e2).trans e3).trans e4).trans e5
    have zq : ∀ kr ∈ turnP p.least p.ps, Q2 30 10 kr.2 := by
      intro kr h
      unfold turnP at h
      split at h
      · exact Z.zg kr h
      · obtain ⟨a, h1, rfl⟩ := List.mem_map.mp h
        have e0 : 0 - a.2 = -a.2 := by grind
        show Q2 30 10 (0 - a.2)
        rw [e0]
        have := Z.zg a h1
        exact ⟨by show (-a.2.num).natAbs < _; rw [Int.natAbs_neg]; exact this.1, this.2⟩
    have P2 := Z.pg.turn (l := p.least)
    exact ⟨v0, pr, va, _, f, 30, 10, qa, qb, rfl, ((f0.ex e3).ex e4).ex e5, pp.ex e5, P2.len, fun kr h => ⟨P2.lt kr h, zq kr h⟩, VA.ex e05, by omega, by omega, h3, h4, fun v H6 e6 f6 => q v H6 ((((e2.trans e3).trans e4).trans e5).trans e6) (by
      rw [P2.atF f] at f6
      exact f6.mono hk hl)⟩)⟩))
end
section
variable {P : Program} {w : World} {K : PySem.W.Frag} {mg : Str → Option Value} {base : Heap}
abbrev N__law_best : List Str := ["_law_plan", "_law_best_here", "_law_edges_here", "_law_at_here", "_law_other", "_law_corner", "_law_here"]
theorem sc__law_best : FnScope N__law_best ["_law_plan"] (defScope s__law_best) := ⟨rfl, rfl, rfl, by decide +kernel, rfl, by decide +kernel, by decide +kernel⟩
def spLBest (K : PySem.W.Frag) : Sp := fun vs H Q _ => ∃ (pl U R G : Addr) (p : Pln), vs = [.ref pl] ∧ PlnF K H pl U R G p ∧ PlnQ p ∧ ∀ v o H', Ex H H' → BestV K H' v o → BestOf p.r (AllPairs p.r) o → Q v H'
theorem ok__law_best (T : Txt w K mg) : FnOk P w K mg base CX0 4 T._law_best.f T._law_best.fd ["_law_plan"] (spLBest K) := by
  refine T._law_best.F.ok sc__law_best (fun vs H Q E h => ?_) (fun cdv A outer s H vs Q E hr h => ?_)
  · obtain ⟨pl, U, R, G, p, rfl, _⟩ := h
    rfl
  obtain ⟨pl, U, R, G, p, rfl, PF, Z, q⟩ := h
  refine ⟨_, PSs.nox (pss_cons (ps_set (i := 1) sc__law_best.nd rfl (Or.inl rfl) pe_non)
 (pss_cons (ps_set (i := 2) sc__law_best.nd rfl (Or.inl rfl) (pe_call (ok__law_edges T) (hr.mono (by decide)) rfl T._law_edges.g T._law_edges.F.kp (b__law_edges T) .nil pass0 (pa_cons (pv 0) pa_nil)))
 (pss_cons (ps_for PassesOwn.never rfl (pi_range1 (by rfl) T.m_range (pa_cons (pe_callB (call_lenK (K := K) rfl) (by rfl) T.m_len PySem.boot_len (pa_cons (pv 2) pa_nil)) pa_nil)) (pg_name (i := 3) sc__law_best.nd rfl (Or.inl rfl))
 (pss_one (ps_for PassesOwn.never rfl (pi_listK (K := K) rfl (pe_slice (sl_listK (K := K) rfl) (pv 2) po_none (po_some (pv 3)))) (pg_name (i := 4) sc__law_best.nd rfl (Or.inl rfl))
 (pss_cons (ps_set (i := 5) sc__law_best.nd rfl (Or.inl rfl) (pe_call (ok__law_crossing T) (hr.mono (by decide)) rfl T._law_crossing.g T._law_crossing.F.kp (b__law_crossing T) .nil pass0 (pa_cons (pe_ix (ix_listK (K := K) rfl) (pv 2) (pv 3) (fun _ _ => rfl)) (pa_cons (pv 4) pa_nil))))
 (pss_one (ps_if (PW.pt (pw_and (pt_cmpR op_notNK (pv 5) pe_non (nomark _)) (pw_and1 (pt_val (pe_call (ok__law_loosely_meets T) (hr.mono (by decide)) rfl T._law_loosely_meets.g T._law_loosely_meets.F.kp (b__law_loosely_meets T) .nil pass0 (pa_cons (pv 0) (pa_cons (pv 5) pa_nil))))))) (pss_cons (ps_set (i := 6) sc__law_best.nd rfl (Or.inl rfl) (pe_call (ok__law_worth T) (hr.mono (by decide)) rfl T._law_worth.g T._law_worth.F.kp (b__law_worth T) .nil pass0 (pa_cons (pe_tup (pa_cons pe_int (pa_cons pe_int pa_nil))) (pa_cons (pe_call (ok__law_turned T) (hr.mono (by decide)) rfl T._law_turned.g T._law_turned.F.kp (b__law_turned T) .nil pass0 (pa_cons (pv 0) pa_nil)) (pa_cons (pv 5) pa_nil)))))
 (pss_one (ps_if (PW.pt (pw_or (pt_cmpR op_isNK (pv 1) pe_non (nomark _)) (pw_or1 (pt_cmpR op_lt (pe_call (ok__law_order T) (hr.mono (by decide)) rfl T._law_order.g T._law_order.F.kp (b__law_order T) .nil pass0 (pa_cons (pv 6) (pa_cons (pv 1) pa_nil))) pe_int (nomark _))))) (pss_one (ps_set (i := 1) sc__law_best.nd rfl (Or.inl rfl) (pv 6))) pss_nil))) pss_nil))))))
 (pss_one (ps_ret (pv 1)))))), ?_⟩
  have hne : p.r.edges.length = p.r.ne := by
    unfold PW.PlanR.edges PW.PlanR.ne PW.PlanR.ends
    simp
  have hne7 : p.r.ne ≤ 7 := by
    have := Z.r3
    show (p.rs.map rowL).length + 4 ≤ 7
    rw [List.length_map]; omega
  have hedge : ∀ i l, p.r.edges[i]? = some l → p.r.edge i = l := fun i l h => by
    show p.r.edges.getD i _ = l
    rw [List.getD_eq_getElem?_getD, h]; rfl
  refine q_asg (v := .non) ev_c fun H1 e1 => ?_
  refine q_asgR (R := fun v H' => ∃ D, v = .ref D ∧ EdgesA K H' D p.r.edges) (fun H2 e2 Q' k' => ⟨_, rfl, pl, U, R, G, p, rfl, PF.ex (e1.trans e2), Z, fun D H3 hD e3 hE => k' (.ref D) H3 e3 ⟨D, rfl, hE⟩⟩) fun v H2 e2 hv => ?_
  obtain ⟨DE, rfl, xs, x1, x2, x3⟩ := hv
  have e12 := e1.trans e2
  refine q_forR1 (n := (p.r.ne : Nat)) (ea_cons (ev_is (ev_lenL (ev_var rfl) (sq_of x1)) (by rw [x2, hne])) ea_nil) (by omega) (fun k σ' H' => Ex H2 H' ∧ ∃ vb c3 c4 c5 c6 o, σ' = [some (.ref pl), some vb, some (.ref DE), c3, c4, c5, c6] ∧ BestV K H' vb o ∧ BestOf p.r (Seen k 0) o)
    (fun H3 e3 => ⟨e3, .non, none, none, none, none, none, rfl, rfl, fun i j h => by unfold Seen at h; omega⟩) ?_ ?_
  · rintro k σ' H' hk ⟨e3, vb, c3, c4, c5, c6, o, rfl, hb, ho⟩
    have hk : k < p.r.ne := by omega
    have e13 := e12.trans e3
    have hcut := cut_take xs (k := k) (by omega)
    have hlt : (xs.take k).length = k := by rw [List.length_take]; omega
    refine s_forNL (el_sl (ev_var rfl) eo_none (eo_some (ev_var rfl)) (sq_of (e3 _ _ x1))) (fun pp m σ' H' => Ex H2 H' ∧ H' pp = some (.lst (cutV xs none (some (k : Int)))) ∧ ∃ vb c4 c5 c6 o, σ' = [some (.ref pl), some vb, some (.ref DE), some (.int (k : Nat)), c4, c5, c6] ∧ BestV K H' vb o ∧ BestOf p.r (Seen k m) o)
      (fun pp H3 hpp e4 h4 => ⟨e3.trans e4, h4, vb, _, _, _, o, rfl, hb.ex e4, ho⟩) (fun pp m σ' H' _ h => sq_of h.2.1) ?_ ?_
    · rintro pp m x σ' H3 hx ⟨e4, hpp, vb, c4, c5, c6, o, rfl, hb, ho⟩
      have hmk : m < k := by
        have := get_lt hx
        rw [hcut, hlt] at this
        exact this
      have hxm : xs[m]? = some x := by
        rw [hcut, List.getElem?_take] at hx
        rw [if_pos hmk] at hx
        exact hx
      obtain ⟨lk, hlk⟩ := get_of_lt (xs := p.r.edges) (i := k) (by omega)
      obtain ⟨lm, hlm⟩ := get_of_lt (xs := p.r.edges) (i := m) (by omega)
      obtain ⟨xk, hxk⟩ := get_of_lt (xs := xs) (i := k) (by omega)
      have Lk := (x3 k xk lk hxk hlk).ex e4
      have Lm := (x3 m x lm hxm hlm).ex e4
      have ek := hedge k lk hlk
      have em := hedge m lm hlm
      have seen : ∀ i j, Seen k (m + 1) i j ↔ Seen k m i j ∨ (i = k ∧ j = m) := fun i j => by unfold Seen; omega
      have PF3 := PF.ex (e12.trans e4)
      refine q_asgR (er_cross (ev_op (ev_var rfl) (ev_var rfl) (rv_ixL (sq_of (e4 _ _ x1)) (atI_nat hxk))) (ev_var rfl) Lk Lm) fun v H4 e5 hv => ?_
      have e45 := e4.trans e5
      rcases hv with ⟨hd, rfl⟩ | ⟨hd, t, rfl, hvt⟩
      · refine s_when (b := false && false) (et_and (et_test (ev_op (ev_var rfl) ev_c rv_notN)) fun z => by cases z) (fun z => by cases z) (fun _ H5 e6 => ?_)
        refine ⟨e45.trans e6, (e5.trans e6) _ _ hpp, vb, _, _, _, o, rfl, hb.ex (e5.trans e6), best_skip ho seen fun c => c.1 ?_⟩
        rw [ek, em]; exact hd
      · have hcor : Corner p.r k m ↔ p.r.feas (PW.crx lk lm) (PW.cry lk lm) := by
          unfold PW.Corner
          rw [ek, em]
          exact ⟨fun h => h.2, fun h => ⟨hd, h⟩⟩
        have hwor : worthC p.r k m = p.r.goal (PW.crx lk lm) (PW.cry lk lm) := by
          unfold PW.worthC
          rw [ek, em]
        by_cases hf : p.r.feas (PW.crx lk lm) (PW.cry lk lm)
        · have hc := hcor.mpr hf
          refine s_when (b := true && true) (et_and (et_ref_notN (ev_var rfl)) fun _ => et_meets (ev_var rfl) (ev_var rfl) (PF3.ex e5) Z hvt ⟨fun _ => hf, fun _ => rfl⟩) (fun _ H5 e6 => ?_) (fun z => by cases z)
          have e46 := e45.trans e6
          refine q_asgU2 (a := 2000) (b := 2000) (eu_goal (f := fun i => if i = 0 then PW.crx lk lm else PW.cry lk lm) (ev_var rfl) (ev_var rfl) (PF3.ex (e5.trans e6)) Z (hvt.ex e6).a (by omega) (by omega) (by omega) (by omega)) fun vh H6 e7 fh => ?_
          have fh : FrU K H6 vh (worthC p.r k m) 2000 2000 := by rw [hwor]; exact fh
          have e47 := e46.trans e7
          have hpp6 := ((e5.trans e6).trans e7) _ _ hpp
          cases o with
          | none =>
            have hvb : vb = .non := hb
            subst hvb
            refine s_when (b := true || false) (et_or (et_test (ev_op (ev_var rfl) ev_c rv_isN)) fun z => by cases z) (fun _ H7 e8 => ?_) (fun z => by cases z)
            refine s_asg (v := vh) (ev_var rfl) fun H8 e9 => ?_
            exact ⟨(e47.trans e8).trans e9, (e8.trans e9) _ _ hpp6, vh, _, _, _, some (worthC p.r k m), rfl, fh.ex (e8.trans e9), best_new ho seen hc⟩
          | some wb =>
            have fb : FrU K H6 vb wb 2000 2000 := FrU.ex ((e5.trans e6).trans e7) hb
            obtain ⟨pb, _, _, epb, _⟩ := id fb
            subst epb
            refine s_when (b := false || decide (worthC p.r k m < wb)) (et_or (et_test (ev_op (ev_var rfl) ev_c rv_isN)) fun _ => et_ordlt (eu_var rfl fh) (eu_var rfl fb) (by omega) (by omega) (by omega) (by omega)) (fun hb2 H7 e8 => ?_) (fun hb2 H7 e8 => ?_)
            · have hl := of_decide_eq_true hb2
              refine s_asg (v := vh) (ev_var rfl) fun H8 e9 => ?_
              exact ⟨(e47.trans e8).trans e9, (e8.trans e9) _ _ hpp6, vh, _, _, _, some (worthC p.r k m), rfl, fh.ex (e8.trans e9), best_less ho seen hc hl⟩
            · have hl : ¬ worthC p.r k m < wb := fun h => by rw [decide_eq_true h] at hb2; cases hb2
              exact ⟨e47.trans e8, e8 _ _ hpp6, _, _, _, _, some wb, rfl, fb.ex e8, best_keep ho seen hl⟩
        · refine s_when (b := true && false) (et_and (et_ref_notN (ev_var rfl)) fun _ => et_meets (ev_var rfl) (ev_var rfl) (PF3.ex e5) Z hvt ⟨fun h => (by cases h), fun h => absurd h hf⟩) (fun z => by cases z) (fun _ H5 e6 => ?_)
          exact ⟨e45.trans e6, (e5.trans e6) _ _ hpp, vb, _, _, _, o, rfl, hb.ex (e5.trans e6), best_skip ho seen fun c => hf (hcor.mp c)⟩
    · rintro pp σ' H3 ⟨e4, hpp, vb, c4, c5, c6, o, rfl, hb, ho⟩
      rw [hcut, hlt] at ho
      exact ⟨e4, vb, _, _, _, _, o, rfl, hb, best_congr ho fun i j => by unfold Seen; omega⟩
  · rintro σ' H' ⟨e3, vb, c3, c4, c5, c6, o, rfl, hb, ho⟩
    rw [Int.toNat_natCast] at ho
    exact ⟨_, rfl, q vb o H' (e12.trans e3) hb (best_congr ho fun i j => by unfold Seen AllPairs; omega)⟩
end
end PX

/-! _law_alike -/
namespace PX
open PySem PySem.Spec PyProof.Rows L2 Evl
open PW (Sz fr)
theorem op_catTK {X : Cx} {K : PySem.W.Frag} (hK : X.K = K) : OpR X (binaryOp .Add) (rCatT K) := hK ▸ op_catT
theorem cut1 {a b c d : V} : cutV [a, b, c, d] (some 1) none = [b, c, d] := rfl
section
variable {P : Program} {w : World} {K : PySem.W.Frag} {mg : Str → Option Value} {base : Heap}
/-- (name,) + x[1:] -/
theorem er_name {σ : L2.St} {H : Hp} {tn tx : TE} {n : V} {x : Addr} {a b c d : V} (hn : Ev tn σ H n) (hx : Ev tx σ H (.ref x)) (ht : SqT K H x [a, b, c, d]) : EvU (tOp (rCatT K) (tTup (tCons tn tNil)) (tSl (rSlT K) tx (tPart (tC (.int 1))) tNoPart)) σ H [n, b, c, d] := fun H1 e Q q =>
  Evl.eu_tup (ea_cons hn ea_nil) (by show 1 ≤ 100000; decide) H1 e _ fun p H2 hp e2 h2 => eu_slT hx (eo_some (i := 1) ev_c) eo_none ht (show ¬ (HT.sIx 4 0 (some 1) = 0 ∧ HT.sIx 4 4 none = 4) by decide) H2 (e.trans e2) _ fun r H3 hr e3 h3 => by
    rw [cut1] at h3
    exact ⟨p, r, [n], [b, c, d], rfl, rfl, ex_t e3 (st_of h2), st_of h3, by simp, (by show 4 ≤ sizeLine; decide), fun z => (by cases z), fun _ u hu => q u _ (fresh_back (e2.trans e3) hu) ((e2.trans e3).trans (Ex.new hu)) upd_same⟩
abbrev N__law_alike : List Str := ["_law_plan", "_law_number", "_law_name", "_law_unknowns", "_law_one", "_law_row"]
theorem sc__law_alike : FnScope N__law_alike ["_law_plan", "_law_number"] (defScope s__law_alike) := ⟨rfl, rfl, rfl, by decide +kernel, rfl, by decide +kernel, by decide +kernel⟩
def spLAlike (K : PySem.W.Frag) : Sp := fun vs H Q _ => ∃ (pl U R G : Addr) (p : Pln) (n : Nat), vs = [.ref pl, .int (n : Nat)] ∧ PlnF K H pl U R G p ∧ PlnQ p ∧ ∀ pl' U' R' G' H', Ex H H' → PlnF K H' pl' U' R' G' p → Q (.ref pl') H'
theorem ok__law_alike (T : Txt w K mg) : FnOk P w K mg base CX0 1 T._law_alike.f T._law_alike.fd ["_law_plan", "_law_number"] (spLAlike K) := by
  refine T._law_alike.F.ok sc__law_alike (fun vs H Q E h => ?_) (fun cdv A outer s H vs Q E hr h => ?_)
  · obtain ⟨pl, U, R, G, p, n, rfl, _⟩ := h
    rfl
  obtain ⟨pl, U, R, G, p, n, rfl, PF, Z, q⟩ := h
  refine ⟨_, PSs.nox (pss_cons (ps_if (pt_cmpR op_ne (pe_op op_modN (pv 1) pe_int) pe_int (nomark _)) (pss_one (ps_ret (pv 0))) pss_nil)
 (pss_cons (ps_set (i := 2) sc__law_alike.nd rfl (Or.inr rfl) (pe_ix (ix_listK (K := K) rfl) (pe_lst (pa_cons pe_str (pa_cons pe_str (pa_cons pe_str pa_nil)))) (pe_op op_modN (pe_op op_fdivW (pv 1) pe_int) pe_int) (fun _ _ => rfl)))
 (pss_cons (ps_set (i := 3) sc__law_alike.nd rfl (Or.inl rfl) (pe_callTy (call_tupleK (K := K) rfl) (by rfl) T.m_tuple (by decide +kernel) (pa_cons (pe_lc (own := [("_law_one", 4)]) (g := gName 4) (tt := tYes) rfl sc__law_alike.nd (pi_tupK (K := K) rfl (pe_ix (ix_tupK (K := K) rfl) (pv 0) pe_int (fun _ _ => rfl))) (blkOk_by (N := N__law_alike) (sc := defScope s__law_alike) (by decide +kernel))
 (fun _ _ _ _ _ => (pg_name (i := 4) sc__law_alike.nd rfl (Or.inl rfl))) (fun _ _ _ _ _ => pts_nil) (fun _ _ _ _ _ => (pe_op (op_catTK (K := K) rfl) (pe_tup (pa_cons (pv 2) pa_nil)) (pe_slice (sl_tupK (K := K) rfl) (pv 4) (po_some pe_int) po_none)))) pa_nil)))
 (pss_one (ps_ret (pe_tup (pa_cons (pv 3) (pa_cons (pe_callTy (call_tupleK (K := K) rfl) (by rfl) T.m_tuple (by decide +kernel) (pa_cons (pe_lc (own := [("_law_row", 5)]) (g := gName 5) (tt := tYes) rfl sc__law_alike.nd (pi_tupK (K := K) rfl (pe_ix (ix_tupK (K := K) rfl) (pv 0) pe_int (fun _ _ => rfl))) (blkOk_by (N := N__law_alike) (sc := defScope s__law_alike) (by decide +kernel))
 (fun _ _ _ _ _ => (pg_name (i := 5) sc__law_alike.nd rfl (Or.inl rfl))) (fun _ _ _ _ _ => pts_nil) (fun _ _ _ _ _ => (pe_op (op_catTK (K := K) rfl) (pe_tup (pa_cons (pv 2) pa_nil)) (pe_slice (sl_tupK (K := K) rfl) (pv 5) (po_some pe_int) po_none)))) pa_nil)) (pa_cons (pe_ix (ix_tupK (K := K) rfl) (pv 0) pe_int (fun _ _ => rfl)) pa_nil))))))))), ?_⟩
  obtain ⟨ts, t1, t2, t3⟩ := PF.u
  obtain ⟨rx, r1, r2, r3⟩ := PF.r
  have l2 := Z.l2
  have hr3 := Z.r3
  refine q_when (b := !decide (V.int (n % 4 : Nat) = V.int 1)) (et_test (ev_op (ev_modN (ev_var rfl) (b := 4) ev_c (by omega)) ev_c (rv_ne rfl))) (fun _ H1 e1 => ?_) (fun _ H1 e1 => ?_)
  · exact s_ret (ev_var rfl) fun H2 e2 => q pl U R G H2 (e1.trans e2) (PF.ex (e1.trans e2))
  have m3 := Nat.mod_lt (n / 4) (show 0 < 3 by omega)
  obtain ⟨nm, hnm⟩ := get_of_lt (xs := [V.str "x", V.str "", V.str "r(a)"]) (i := n / 4 % 3) m3
  refine q_asg (v := nm) (ev_pick (ea_cons ev_c (ea_cons ev_c (ea_cons ev_c ea_nil))) (ev_modN (ev_divN (ev_var rfl) (b := 4) ev_c (by omega) (by omega)) (b := 3) ev_c (by omega)) (by show 3 ≤ 100000; decide) hnm) fun H2 e2 => ?_
  have e12 := e1.trans e2
  -- the unknowns
  have cmpU := evc_tupF (K := K) (σ := [some (.ref pl), some (.int (n : Nat)), some nm, none, none, none]) (H := H2) (a := U) (xs := ts.map V.ref) (tl := tOp (rIxT K) (tVar 0) (tC (.int 0))) (te := tOp (rCatT K) (tTup (tCons (tVar 2) tNil)) (tSl (rSlT K) (tVar 4) (tPart (tC (.int 1))) tNoPart)) (tt := tYes) (j := 4) (vs := [4]) (fun _ => true)
    (fun _ i v H => ∃ lh, p.ls[i]? = some lh ∧ UnkT K H v lh.1 lh.2) (ev_item (v := .ref U) rfl (ex_t e12 PF.o) rfl) (ex_t e12 t1) (by rw [List.length_map]; omega) (fun _ => rfl) (fun _ _ _ _ _ _ _ _ => et_yes)
    (fun D i x H3 hD e3 hl hx _ => by
      obtain ⟨t, ht, rfl⟩ := map_ref_at hx
      obtain ⟨lh, hlh⟩ := get_of_lt (xs := p.ls) (i := i) (by have := get_lt ht; omega)
      obtain ⟨a, b, f, g, u1, u2, u3⟩ := t3 i t lh ht hlh
      intro H4 e4 Q' k'
      have e14 := (e12.trans e3).trans e4
      exact er_name (ev_var (i := 2) rfl) (ev_var (i := 4) rfl) (ex_t e14 u1) H4 (Ex.refl H4) Q' fun u H5 hu e5 h5 => k' (.ref u) H5 e5 ⟨lh, hlh, u, nm, b, f, g, rfl, st_of h5, u2.ex (e14.trans e5), u3.ex (e14.trans e5)⟩)
    (fun D i v H H' f hl h => by
      obtain ⟨ys, hl⟩ := hl
      obtain ⟨lh, h1, t, a, b, f', g', h2, h3, h4, h5⟩ := h
      exact ⟨lh, h1, t, a, b, f', g', h2, fx_t f hl h3, h4.fx f hl, h5.fx f hl⟩)
  refine q_asgCU (P := fun xs H => xs.length = p.ls.length ∧ ∀ (i : Nat) v, xs[i]? = some v → ∃ lh, p.ls[i]? = some lh ∧ UnkT K H v lh.1 lh.2) (evcu_of cmpU fun D xs H3 l e3 hD h3 o hl => ?_) fun U' H3 us hU e3 hU3 oU => ?_
  · obtain ⟨o1, o2⟩ := outs_all o
    rw [List.length_map, t2] at o1
    exact ⟨o1, fun i v hv => let ⟨lh, h1, h2⟩ := o2 i v hv; ⟨lh, h1, h2.ex (Ex.new hl)⟩⟩
  have e13 := e12.trans e3
  -- the rows
  have cmpR := evc_tupF (K := K) (σ := [some (.ref pl), some (.int (n : Nat)), some nm, some (.ref U'), none, none]) (H := H3) (a := R) (xs := rx) (tl := tOp (rIxT K) (tVar 0) (tC (.int 1))) (te := tOp (rCatT K) (tTup (tCons (tVar 2) tNil)) (tSl (rSlT K) (tVar 5) (tPart (tC (.int 1))) tNoPart)) (tt := tYes) (j := 5) (vs := [5]) (fun _ => true)
    (fun _ i v H => ∃ row, p.rs[i]? = some row ∧ RowT K H v row) (ev_item (v := .ref R) rfl (ex_t e13 PF.o) rfl) (ex_t e13 r1) (by omega) (fun _ => rfl) (fun _ _ _ _ _ _ _ _ => et_yes)
    (fun D i x H4 hD e4 hl hx _ => by
      obtain ⟨row, hrow⟩ := get_of_lt (xs := p.rs) (i := i) (by have := get_lt hx; omega)
      obtain ⟨t, a, pr, g, rfl, u1, u2, u3⟩ := r3 i x row hx hrow
      intro H5 e5 Q' k'
      have e15 := (e13.trans e4).trans e5
      exact er_name (ev_var (i := 2) rfl) (ev_var (i := 5) rfl) (ex_t e15 u1) H5 (Ex.refl H5) Q' fun u H6 hu e6 h6 => k' (.ref u) H6 e6 ⟨row, hrow, u, nm, pr, g, rfl, st_of h6, u2.ex (e15.trans e6), u3.ex (e15.trans e6)⟩)
    (fun D i v H H' f hl h => by
      obtain ⟨ys, hl⟩ := hl
      obtain ⟨row, h1, h2⟩ := h
      exact ⟨row, h1, h2.fx f hl⟩)
  have evR := evcu_of (K := K) (P' := fun xs H => xs.length = p.rs.length ∧ ∀ (i : Nat) v, xs[i]? = some v → ∃ row, p.rs[i]? = some row ∧ RowT K H v row) cmpR fun D xs H4 l e4 hD h4 o hl => by
    obtain ⟨o1, o2⟩ := outs_all o
    rw [r2] at o1
    exact ⟨o1, fun i v hv => let ⟨row, h1, h2⟩ := o2 i v hv; ⟨row, h1, h2.ex (Ex.new hl)⟩⟩
  refine s_ret_tup (a_cons (at_v (ev_var (i := 3) rfl) fun H4 e4 => a_cons ((evR.mono e4) H4 (Ex.refl H4) _ fun R' H5 rs' hR e5 hR5 oR => a_cons (at_v (ev_item (i := 0) (j := 2) (v := .ref G) rfl (ex_t ((e13.trans e4).trans e5) PF.o) rfl) fun H6 e6 => ⟨(by show 3 ≤ sizeLine; decide), fun u hu => ?_⟩))))
  have eN : Ex H6 (upd H6 u (.tup [.ref U', .ref R', .ref G])) := Ex.new hu
  have e36 := ((e4.trans e5).trans e6).trans eN
  have eF := e13.trans e36
  obtain ⟨oU1, oU2⟩ := oU
  obtain ⟨oR1, oR2⟩ := oR
  obtain ⟨us', rfl⟩ := refs_of (xs := us) fun i v hv => by
    obtain ⟨lh, _, t, _, _, _, _, e, _⟩ := oU2 i v hv
    exact ⟨t, e⟩
  refine q u U' R' G _ eF ⟨st_of upd_same, ⟨us', st_of (e36 _ _ hU3), by rw [List.length_map] at oU1; exact oU1, fun i t lh ht hlh => ?_⟩, ⟨rs', ex_t (e6.trans eN) (st_of hR5), oR1, fun i v row hv hrow => ?_⟩, (PF.ex eF).g⟩
  · obtain ⟨lh', h1, t', a, b, f, g, h2, h3, h4, h5⟩ := oU2 i (.ref t) (at_map_ref ht)
    cases h2
    rw [hlh] at h1
    cases h1
    exact ⟨a, b, f, g, ex_t e36 h3, h4.ex e36, h5.ex e36⟩
  · obtain ⟨row', h1, h2⟩ := oR2 i v hv
    rw [hrow] at h1
    cases h1
    exact h2.ex (e6.trans eN)
end
end PX

/-! sizes of a plan's tableau -/
namespace PX
open PySem PySem.Spec PyProof.Rows L2 Evl
open PW (Sz fr IB)
theorem ib_of {r : Rat} {d a e : Nat} (hd : r.den ∣ d) (hn : r.num.natAbs < 2 ^ a) (he : d ≤ 2 ^ e) : IB (r * (d : Rat)) (2 ^ (a + e)) := by
  obtain ⟨k, hk⟩ := hd
  refine ⟨r.num * (k : Int), ?_, ?_⟩
  · have e1 := PW.rat_nd r
    have n1 := PW.den_ne r
    rw [hk, Rat.natCast_mul, Rat.intCast_mul]
    have c1 : (((k : Nat) : Int) : Rat) = (k : Rat) := rfl
    rw [c1]
    grind
  · rw [Int.natAbs_mul, Int.natAbs_natCast, Nat.pow_add]
    have d0 := r.den_pos
    have : k ≤ d := by rw [hk]; exact Nat.le_mul_of_pos_left k d0
    exact Nat.mul_le_mul (Nat.le_of_lt hn) (Nat.le_trans this he)
/-- the product of a line's bottoms -/
def lnD (l : PW.Line) : Nat := l.a.den * (l.b.den * l.c.den)
def lsD : List PW.Line → Nat
  | [] => 1
  | l :: ls => lnD l * lsD ls
theorem lnD_pos (l : PW.Line) : 0 < lnD l := Nat.mul_pos l.a.den_pos (Nat.mul_pos l.b.den_pos l.c.den_pos)
theorem lsD_pos : ∀ ls : List PW.Line, 0 < lsD ls
  | [] => Nat.one_pos
  | l :: ls => Nat.mul_pos (lnD_pos l) (lsD_pos ls)
theorem lsD_dvd {l : PW.Line} : ∀ {ls : List PW.Line}, l ∈ ls → lnD l ∣ lsD ls
  | [], h => by cases h
  | k :: ls, h => by
    obtain rfl | h := List.mem_cons.mp h
    · exact Nat.dvd_mul_right _ _
    · exact Nat.dvd_trans (lsD_dvd h) (Nat.dvd_mul_left _ _)
theorem lsD_app : ∀ (a b : List PW.Line), lsD (a ++ b) = lsD a * lsD b
  | [], b => (Nat.one_mul _).symm
  | l :: a, b => by
    show lnD l * lsD (a ++ b) = lnD l * lsD a * lsD b
    rw [lsD_app a b, Nat.mul_assoc]
theorem lsD_le {e : Nat} : ∀ {ls : List PW.Line}, (∀ l ∈ ls, lnD l ≤ 2 ^ e) → lsD ls ≤ 2 ^ (e * ls.length)
  | [], _ => by show 1 ≤ 2 ^ 0; decide
  | l :: ls, h => by
    have h1 := h l List.mem_cons_self
    have h2 := lsD_le (ls := ls) fun k hk => h k (List.mem_cons_of_mem _ hk)
    show lnD l * lsD ls ≤ 2 ^ (e * (ls.length + 1))
    rw [Nat.mul_succ, Nat.add_comm, Nat.pow_add]
    exact Nat.mul_le_mul h1 h2
/-- a line's numbers: tops, bottoms -/
structure LnQ (l : PW.Line) (a b c d e f : Nat) : Prop where
  a : Q2 a b l.a
  b : Q2 c d l.b
  c : Q2 e f l.c
theorem LnQ.d {l : PW.Line} {a b c d e f : Nat} (h : LnQ l a b c d e f) : lnD l ≤ 2 ^ (b + (d + f)) := by
  unfold lnD
  rw [Nat.pow_add, Nat.pow_add]
  exact Nat.mul_le_mul (Nat.le_of_lt h.a.2) (Nat.mul_le_mul (Nat.le_of_lt h.b.2) (Nat.le_of_lt h.c.2))
theorem q2_neg {r : Rat} {a b : Nat} (h : Q2 a b r) : Q2 a b (-r) := ⟨by show (-r.num).natAbs < _; rw [Int.natAbs_neg]; exact h.1, h.2⟩
theorem q2_add {r s : Rat} {a b c d k l : Nat} (h : Q2 a b r) (g : Q2 c d s) (h1 : a + d + 1 ≤ k) (h2 : b + c + 1 ≤ k) (h3 : b + d ≤ l) : Q2 k l (r + s) := by
  rw [← PW.fr_add]
  have p1 := r.den_pos
  have p2 := s.den_pos
  refine q2_fr (Int.mul_pos (by omega) (by omega)) (pw_le (PW.add_lt (k := k - 1) (pw_le (PW.mul_lt h.1 g.2) (by omega)) (pw_le (PW.mul_lt g.1 h.2) (by omega))) (by omega)) (pw_le (PW.mul_lt (a := (r.den : Int)) (b := (s.den : Int)) h.2 g.2) (by omega))
theorem q2_sub {r s : Rat} {a b c d k l : Nat} (h : Q2 a b r) (g : Q2 c d s) (h1 : a + d + 1 ≤ k) (h2 : b + c + 1 ≤ k) (h3 : b + d ≤ l) : Q2 k l (r - s) := by
  have e : r - s = r + -s := by grind
  rw [e]; exact q2_add h (q2_neg g) h1 h2 h3
theorem q2_mul {r s : Rat} {a b c d : Nat} (h : Q2 a b r) (g : Q2 c d s) : Q2 (a + c) (b + d) (r * s) := by
  rw [← PW.fr_mul]
  have p1 := r.den_pos
  have p2 := s.den_pos
  exact q2_fr (Int.mul_pos (by omega) (by omega)) (PW.mul_lt h.1 g.1) (PW.mul_lt (a := (r.den : Int)) (b := (s.den : Int)) h.2 g.2)
theorem LnQ.upr {l : PW.Line} {a b c d e f : Nat} (h : LnQ l a b c d e f) : LnQ (PW.upr l) a b c d e f := by
  unfold PW.upr
  split
  · exact h
  · exact ⟨q2_neg h.a, q2_neg h.b, q2_neg h.c⟩
theorem Pr2.q2 {ps : List (Nat × Rat)} {a b : Nat} (h : Pr2 ps) (hz : ∀ kr ∈ ps, Q2 a b kr.2) (ha : 1 ≤ a) (hb : 1 ≤ b) : Q2 a b (numF ps 0) ∧ Q2 a b (numF ps 1) := by
  obtain ⟨x, y, rfl⟩ := h
  rw [(prs_num x y).1, (prs_num x y).2]
  have z0 : Q2 a b 0 := Q2.mono (a := 1) (b := 1) ⟨by decide, by decide⟩ ha hb
  cases x <;> cases y <;> simp [prs] at hz ⊢
  · exact z0
  · exact ⟨z0, hz⟩
  · exact ⟨hz, z0⟩
  · exact hz
theorem q2_one : Q2 1 1 1 := ⟨by decide, by decide⟩
theorem q2_zero : Q2 1 1 0 := ⟨by decide, by decide⟩
theorem IBd (d : Nat) : IB (d : Rat) d := ⟨(d : Int), rfl, by rw [Int.natAbs_natCast]; exact Nat.le_refl _⟩
theorem exq_ib (L : Nat → PW.Line) (m i c : Nat) : IB (PW.exq L m i c) 2 := by
  unfold PW.exq
  refine IB.add (a := 1) (b := 1) ?_ ?_
  · split
    · split
      · exact IB.one (by omega)
      · exact (IB.one (by omega)).neg
    · exact IB.zero 1
  · split
    · exact IB.one (by omega)
    · exact IB.zero 1
theorem ib_sz {r : Rat} (h : IB r 2) : Sz 500 r := by
  obtain ⟨z, rfl, hz⟩ := h
  have h1 : (2 : Nat) < 2 ^ 500 := Nat.lt_of_lt_of_le (show 2 < 2 ^ 2 by decide) (Nat.pow_le_pow_right (by omega) (by omega))
  refine ⟨Nat.lt_of_le_of_lt hz h1, ?_⟩
  show 1 < 2 ^ 500
  omega
/-- all numbers of the lines, of the goal -/
structure NumQ (L : Nat → PW.Line) (m : Nat) (g0 g1 : Rat) (d : Nat) : Prop where
  ln : ∀ i, i < m → (Q2 240 200 (L i).a ∧ (L i).a.den ∣ d) ∧ (Q2 240 200 (L i).b ∧ (L i).b.den ∣ d) ∧ (Q2 240 200 (L i).c ∧ (L i).c.den ∣ d)
  g : (Q2 240 200 g0 ∧ g0.den ∣ d) ∧ (Q2 240 200 g1 ∧ g1.den ∣ d)
  d0 : 0 < d
  d9 : d ≤ 2 ^ 567
theorem NumQ.ib {L : Nat → PW.Line} {m : Nat} {g0 g1 : Rat} {d : Nat} (N : NumQ L m g0 g1 d) {r : Rat} (h : Q2 240 200 r ∧ r.den ∣ d) : IB (r * (d : Rat)) (2 ^ 807) := ib_of h.2 h.1.1 N.d9
theorem up2 {a b : Nat} (h : a ≤ b) : (2 : Nat) ^ a ≤ 2 ^ b := Nat.pow_le_pow_right (by omega) h
theorem NumQ.lin {L : Nat → PW.Line} {m : Nat} {g0 g1 : Rat} {d : Nat} (N : NumQ L m g0 g1 d) {i : Nat} (hi : i < m) (c : Nat) : IB (PW.lin L m i c * (d : Rat)) (2 ^ 807) ∧ Sz 500 (PW.lin L m i c) := by
  obtain ⟨h1, h2, h3⟩ := N.ln i hi
  unfold PW.lin
  split
  · exact ⟨N.ib h1, h1.1.sz (by omega) (by omega)⟩
  · split
    · exact ⟨N.ib h2, h2.1.sz (by omega) (by omega)⟩
    · split
      · exact ⟨N.ib h3, h3.1.sz (by omega) (by omega)⟩
      · refine ⟨((exq_ib L m i c).mul (IBd d)).mono ?_, ib_sz (exq_ib L m i c)⟩
        have a := N.d9
        have b : (2 : Nat) ^ (567 + 1) = 2 ^ 567 * 2 := Nat.pow_succ _ _
        have c := up2 (show 567 + 1 ≤ 807 by omega)
        omega
theorem NumQ.tab {L : Nat → PW.Line} {m : Nat} {g0 g1 : Rat} {d : Nat} (N : NumQ L m g0 g1 d) (m5 : m ≤ 5) (r c : Nat) : IB (PW.tab L m g0 g1 r c * (d : Rat)) (2 ^ 811) := by
  have u := up2 (show 807 ≤ 811 by omega)
  unfold PW.tab
  split
  · rename_i h
    exact (N.lin h c).1.mono u
  · split
    · split
      · exact (N.ib N.g.1).mono u
      · split
        · exact (N.ib N.g.2).mono u
        · exact (IB.zero _).of_eq (by grind)
    · unfold PW.mis
      have e : (-PW.sumN m (fun i => if (L i).mark = .le then 0 else PW.lin L m i c - if c = PW.ar L m i then 1 else 0)) * (d : Rat) = -(PW.sumN m (fun i => (d : Rat) * (if (L i).mark = .le then 0 else PW.lin L m i c - if c = PW.ar L m i then 1 else 0))) := by
        rw [PW.sumN_mul]; grind
      rw [e]
      refine (IB.sum (b := 2 ^ 808) fun i hi => ?_).neg.mono ?_
      · have h9 := N.d9
        have v := up2 (show 567 ≤ 807 by omega)
        have w : 2 ^ 807 + 2 ^ 807 = (2 : Nat) ^ 808 := by rw [show (808 : Nat) = 807 + 1 from rfl, Nat.pow_succ]; omega
        split
        · exact (IB.zero _).of_eq (by grind)
        · have h1 := (N.lin hi c).1
          have h2 : IB ((if c = PW.ar L m i then 1 else 0) * (d : Rat)) (2 ^ 807) := by
            split
            · exact ((IBd d).of_eq (by grind)).mono (by omega)
            · exact (IB.zero _).of_eq (by grind)
          exact ((h1.sub h2).of_eq (by grind)).mono (by omega)
      · have w : 8 * 2 ^ 808 = (2 : Nat) ^ 811 := by rw [show (811 : Nat) = 808 + 3 from rfl, Nat.pow_add]; omega
        have := Nat.mul_le_mul_right (2 ^ 808) m5
        omega
theorem NumQ.siz {L : Nat → PW.Line} {m : Nat} {g0 g1 : Rat} {d : Nat} (N : NumQ L m g0 g1 d) (m5 : m ≤ 5) (m2 : 2 ≤ m) : Siz L m g0 g1 d (2 ^ 811) := by
  refine ⟨⟨N.d0, Nat.le_trans N.d9 (up2 (by omega)), fun r hr c hc => N.tab m5 r c⟩, m5, m2, ?_, ?_, fun i hi c hc => (N.lin hi c).2⟩
  · have e : 64 * (2 ^ 811 * 2 ^ 811 * 2 ^ 811) = (2 : Nat) ^ 2439 := by
      rw [← Nat.pow_add, ← Nat.pow_add, show (64 : Nat) = 2 ^ 6 from rfl, ← Nat.pow_add]
    rw [e]
    exact Nat.pow_lt_pow_right (by omega) (by omega)
  · exact Nat.pow_lt_pow_right (by omega) (by omega)
theorem row_q {p : Pln} (Z : PlnQ p) {row : RowD} (h : row ∈ p.rs) : LnQ (PW.upr ⟨(rowL row).a, (rowL row).b, (rowL row).mark, (rowL row).c - ((rowL row).a * p.r.lo0 + (rowL row).b * p.r.lo1)⟩) 30 10 30 10 239 145 := by
  obtain ⟨z1, z2, z3⟩ := Z.pr row h
  obtain ⟨n1, n2⟩ := z1.q2 z2 (by omega) (by omega)
  have hl : ∀ i, i < 2 → p.ls[i]? = some (p.ls.getD i (0, 0)) := fun i hi => by
    have := Z.l2
    rw [List.getD_eq_getElem?_getD, List.getElem?_eq_getElem (by omega)]; rfl
  have q0 : Q2 30 10 p.r.lo0 := (Z.zl _ (List.mem_of_getElem? (hl 0 (by omega)))).1
  have q1 : Q2 30 10 p.r.lo1 := (Z.zl _ (List.mem_of_getElem? (hl 1 (by omega)))).1
  refine LnQ.upr ⟨n1, n2, q2_sub (c := 81) (d := 40) z3 (q2_add (q2_mul n1 q0) (q2_mul n2 q1) (by omega) (by omega) (by omega)) (by omega) (by omega) (by omega)⟩
theorem plnz {p : Pln} (Z : PlnQ p) : PlnZ p := by
  have hl : ∀ i, i < 2 → p.ls[i]? = some (p.ls.getD i (0, 0)) := fun i hi => by
    have := Z.l2
    rw [List.getD_eq_getElem?_getD, List.getElem?_eq_getElem (by omega)]; rfl
  obtain ⟨a0, a1⟩ := Z.zl _ (List.mem_of_getElem? (hl 0 (by omega)))
  obtain ⟨b0, b1⟩ := Z.zl _ (List.mem_of_getElem? (hl 1 (by omega)))
  have hr3 := Z.r3
  -- the lines
  let rl : List PW.Line := p.r.rows.map (fun l => PW.upr ⟨l.a, l.b, l.mark, l.c - (l.a * p.r.lo0 + l.b * p.r.lo1)⟩)
  let el : List PW.Line := [PW.upr ⟨1, 0, .le, p.r.hi0 - p.r.lo0⟩, PW.upr ⟨0, 1, .le, p.r.hi1 - p.r.lo1⟩]
  have hrl : ∀ l ∈ rl, LnQ l 30 10 30 10 239 145 := fun l h => by
    obtain ⟨k, hk, rfl⟩ := List.mem_map.mp h
    obtain ⟨row, hrow, rfl⟩ := List.mem_map.mp hk
    exact row_q Z hrow
  have hel : ∀ l ∈ el, LnQ l 1 1 1 1 46 24 := fun l h => by
    have h2 : l = PW.upr ⟨1, 0, .le, p.r.hi0 - p.r.lo0⟩ ∨ l = PW.upr ⟨0, 1, .le, p.r.hi1 - p.r.lo1⟩ := by
      simpa [el] using h
    rcases h2 with rfl | rfl
    · exact LnQ.upr ⟨q2_one, q2_zero, q2_sub a1 a0 (by omega) (by omega) (by omega)⟩
    · exact LnQ.upr ⟨q2_zero, q2_one, q2_sub b1 b0 (by omega) (by omega) (by omega)⟩
  have hlines : p.r.lines = rl ++ el := rfl
  have hrlen : rl.length = p.rs.length := by
    show (List.map _ (p.rs.map rowL)).length = _
    rw [List.length_map, List.length_map]
  have hb1 : lsD rl ≤ 2 ^ 495 := Nat.le_trans (lsD_le (e := 165) fun l h => (hrl l h).d) (up2 (by rw [hrlen]; omega))
  have hb2 : lsD el ≤ 2 ^ 52 := Nat.le_trans (lsD_le (e := 26) fun l h => (hel l h).d) (up2 (by show 26 * 2 ≤ 52; omega))
  obtain ⟨g1, g2⟩ := (Z.pg.turn (l := p.least)).q2 (a := 30) (b := 10) (fun kr h => by
    unfold turnP at h
    split at h
    · exact Z.zg kr h
    · obtain ⟨a, h1, rfl⟩ := List.mem_map.mp h
      have e0 : 0 - a.2 = -a.2 := by grind
      show Q2 30 10 (0 - a.2)
      rw [e0]
      exact q2_neg (Z.zg a h1)) (by omega) (by omega)
  have hall : ∀ l ∈ p.r.lines, Q2 240 200 l.a ∧ Q2 240 200 l.b ∧ Q2 240 200 l.c := fun l h => by
    rw [hlines] at h
    obtain h | h := List.mem_append.mp h
    · have q := hrl l h
      exact ⟨q.a.mono (by omega) (by omega), q.b.mono (by omega) (by omega), q.c.mono (by omega) (by omega)⟩
    · have q := hel l h
      exact ⟨q.a.mono (by omega) (by omega), q.b.mono (by omega) (by omega), q.c.mono (by omega) (by omega)⟩
  have hm : p.r.m = p.rs.length + 2 := by show (p.rs.map rowL).length + 2 = _; rw [List.length_map]
  have hlen : p.r.lines.length = p.r.m := by
    rw [hlines, List.length_append, hrlen, hm]; rfl
  have N : NumQ p.r.ln p.r.m p.r.g0 p.r.g1 (lsD p.r.lines * (p.r.g0.den * p.r.g1.den)) := by
    refine ⟨fun i hi => ?_, ⟨⟨Q2.mono g1 (by omega) (by omega), ?_⟩, ⟨Q2.mono g2 (by omega) (by omega), ?_⟩⟩, Nat.mul_pos (lsD_pos _) (Nat.mul_pos p.r.g0.den_pos p.r.g1.den_pos), ?_⟩
    · obtain ⟨l, hl⟩ := get_of_lt (xs := p.r.lines) (i := i) (by omega)
      have e : p.r.ln i = l := by
        show p.r.lines.getD i _ = l
        rw [List.getD_eq_getElem?_getD, hl]; rfl
      have hmem := List.mem_of_getElem? hl
      have dv : lnD l ∣ lsD p.r.lines * (p.r.g0.den * p.r.g1.den) := Nat.dvd_trans (lsD_dvd hmem) (Nat.dvd_mul_right _ _)
      obtain ⟨q1, q2, q3⟩ := hall l hmem
      rw [e]
      exact ⟨⟨q1, Nat.dvd_trans (Nat.dvd_mul_right _ _) dv⟩, ⟨q2, Nat.dvd_trans (Nat.dvd_trans (Nat.dvd_mul_right _ _) (Nat.dvd_mul_left _ _)) dv⟩, ⟨q3, Nat.dvd_trans (Nat.dvd_trans (Nat.dvd_mul_left _ _) (Nat.dvd_mul_left _ _)) dv⟩⟩
    · exact Nat.dvd_trans (Nat.dvd_mul_right _ _) (Nat.dvd_mul_left _ _)
    · exact Nat.dvd_trans (Nat.dvd_mul_left _ _) (Nat.dvd_mul_left _ _)
    · rw [hlines, lsD_app]
      have e : (2 : Nat) ^ 567 = 2 ^ 495 * 2 ^ 52 * (2 ^ 10 * 2 ^ 10) := by rw [← Nat.pow_add, ← Nat.pow_add, ← Nat.pow_add]
      rw [e]
      exact Nat.mul_le_mul (Nat.mul_le_mul hb1 hb2) (Nat.mul_le_mul (Nat.le_of_lt g1.2) (Nat.le_of_lt g2.2))
  exact ⟨Z.l2, Z.r3, fun lh h => ⟨(Z.zl lh h).1.sz (by omega) (by omega), (Z.zl lh h).2.sz (by omega) (by omega)⟩, fun row h => ⟨(Z.pr row h).1, fun kr hk => ((Z.pr row h).2.1 kr hk).sz (by omega) (by omega), (Z.pr row h).2.2.sz (by omega) (by omega)⟩, Z.pg, fun kr h => (Z.zg kr h).sz (by omega) (by omega), _, _, N.siz (by omega) (by omega)⟩
end PX

/-! the law -/
namespace PX
open PySem PySem.Spec PyProof.Rows L2 Evl
open PW (Sz fr BestOf AllPairs)
/-- the plan with its rows turned about -/
def Pln.rev (p : Pln) : Pln := ⟨p.ls, p.rs.reverse, p.least, p.ps⟩
theorem rev_get {α : Type} {xs : List α} {i : Nat} (h : i < xs.length) : xs.reverse[i]? = xs[xs.length - 1 - i]? := List.getElem?_reverse h
theorem PlnQ.rev {p : Pln} (Z : PlnQ p) : PlnQ p.rev := ⟨Z.l2, by show p.rs.reverse.length ≤ 3; rw [List.length_reverse]; exact Z.r3, Z.zl, fun row h => Z.pr row (List.mem_reverse.mp h), Z.pg, Z.zg⟩
theorem rev_feas {p : Pln} (Z : PlnQ p) (x y : Rat) : p.rev.r.feas x y ↔ p.r.feas x y := by
  have h1 := feas_pln (fun i => if i = 0 then x else y) Z
  have h2 := feas_pln (fun i => if i = 0 then x else y) Z.rev
  have e : (∀ (i : Nat) row, p.rev.rs[i]? = some row → PW.holdsM row.mark (PX.atF row.pairs fun i => if i = 0 then x else y) row.c) ↔ (∀ (i : Nat) row, p.rs[i]? = some row → PW.holdsM row.mark (PX.atF row.pairs fun i => if i = 0 then x else y) row.c) := by
    constructor
    · intro h i row hr
      have hm : row ∈ p.rev.rs := List.mem_reverse.mpr (List.mem_of_getElem? hr)
      obtain ⟨j, hj⟩ := List.mem_iff_getElem?.mp hm
      exact h j row hj
    · intro h i row hr
      have hm : row ∈ p.rs := List.mem_reverse.mp (List.mem_of_getElem? hr)
      obtain ⟨j, hj⟩ := List.mem_iff_getElem?.mp hm
      exact h j row hj
  have h1' : p.r.feas x y ↔ _ := h1
  have h2' : p.rev.r.feas x y ↔ _ := h2
  rw [h1', h2', e]
  exact Iff.rfl
theorem RowsF.rev {K : PySem.W.Frag} {H : Hp} {R : Addr} {xs : List V} {rs : List RowD} (hR : SqT K H R xs.reverse) (hl : xs.length = rs.length) (h : ∀ (i : Nat) v row, xs[i]? = some v → rs[i]? = some row → RowT K H v row) : RowsF K H R rs.reverse := by
  refine ⟨xs.reverse, hR, by rw [List.length_reverse, List.length_reverse, hl], fun i v row hv hr => ?_⟩
  have hi : i < xs.length := by have := get_lt hv; rw [List.length_reverse] at this; exact this
  rw [rev_get hi] at hv
  rw [rev_get (by omega), ← hl] at hr
  exact h _ v row hv hr
/-- what the law finds right -/
theorem due_none {P P' : PW.PlanR} (e : ∀ x y, P'.feas x y ↔ P.feas x y) (h : BestOf P (AllPairs P) none) (x y : Rat) : ¬ P'.feas x y := fun f => PW.best_none h ((e x y).mp f)
theorem due_some {P P' : PW.PlanR} (e : ∀ x y, P'.feas x y ↔ P.feas x y) (g : ∀ x y, P'.goal x y = P.goal x y) {w : Rat} (h : BestOf P (AllPairs P) (some w)) : (∃ x y, P'.feas x y) ∧ ∀ x y, P'.feas x y → (∀ x' y', P'.feas x' y' → P'.goal x y ≤ P'.goal x' y') → P'.goal x y = w := by
  obtain ⟨⟨x0, y0, f0, g0⟩, h2⟩ := PW.best_some h
  refine ⟨⟨x0, y0, (e x0 y0).mpr f0⟩, fun x y f hm => ?_⟩
  have h3 := hm x0 y0 ((e x0 y0).mpr f0)
  have h4 := h2 x y ((e x y).mp f)
  rw [g, g, g0] at h3
  rw [g]
  grind
section
variable {P : Program} {w : World} {K : PySem.W.Frag} {mg : Str → Option Value} {base : Heap}
theorem er_at {σ : L2.St} {H : Hp} {ta tb : TE} {E : XK} {a : Addr} {ns : List Int} {k : Nat} (ha : Ev ta σ H (.ref a)) (hb : Ev tb σ H (.int (k : Nat))) (hs : SqL K H a (ns.map V.int)) : EvR (tCall (spLAt K) [] E (tCons ta (tCons tb tNil))) σ H (fun v _ => ∃ c : Int, v = .int c) := fun H1 e Q q =>
  ha H1 e _ fun H2 e2 => hb H2 (e.trans e2) _ fun H3 e3 => ⟨a, ns, k, rfl, ex_l ((e.trans e2).trans e3) hs, fun c H4 e4 => q _ H4 ((e2.trans e3).trans e4) ⟨c, rfl⟩⟩
theorem et_ordeq {σ : L2.St} {H : Hp} {ta tb : TE} {E : XK} {r s : Rat} {a b c d : Nat} (ha : EvU2 K ta σ H r a b) (hb : EvU2 K tb σ H s c d) (z1 : a ≤ 100000) (z2 : b ≤ 100000) (z3 : c ≤ 100000) (z4 : d ≤ 100000) (he : r = s) : EvT (tTest (tOp rNe (tCall (spLOrder K) [] E (tCons ta (tCons tb tNil))) (tC (.int 0)))) σ H false := fun H1 e Q q =>
  er_order ha hb z1 z2 z3 z4 H1 e _ fun v H2 e2 ⟨z, ev, o1, o2⟩ => by
    subst ev
    have hz := o2.mpr he
    subst hz
    exact (et_is (et_test (ev_op (ev_c (v := .int 0)) (ev_c (v := .int 0)) (rv_ne rfl))) (by decide +kernel) : EvT (tTest (tOp rNe (tC (.int 0)) (tC (.int 0)))) σ H2 false) H2 (Ex.refl H2) Q fun H3 e3 => q H3 (e2.trans e3)
abbrev N_law : List Str := ["_law_script", "_law_cell", "_law_numbers", "_law_k", "_law_unknowns", "_law_number", "_law_values", "_law_plan", "_law_due", "_law_turn", "_law_found"]
theorem sc_law : FnScope N_law ["_law_script"] (defScope s_law) := ⟨rfl, rfl, rfl, by decide +kernel, rfl, by decide +kernel, by decide +kernel⟩
def spLaw (K : PySem.W.Frag) : Sp := fun vs H Q _ => ∃ (a : Addr) (ns : List Int), vs = [.ref a] ∧ SqL K H a (ns.map V.int) ∧ ∀ H', Q (.bl true) H'
theorem ok_law (T : Txt w K mg) {f : Addr} {fd : FuncData} (F : FunD K "law" "law" (defArgs s_law) (defBody s_law) (defScope s_law) [] [] f fd) : FnOk P w K mg base CX0 9 f fd ["_law_script"] (spLaw K) := by
  refine F.ok sc_law (fun vs H Q E h => ?_) (fun cdv A outer s H vs Q E hr h => ?_)
  · obtain ⟨a, ns, rfl, _⟩ := h
    rfl
  obtain ⟨a, ns, rfl, ha, q⟩ := h
  refine ⟨_, PSs.nox (pss_cons (ps_set (i := 1) sc_law.nd rfl (Or.inl rfl) (pe_call (ok__law_at T) (hr.mono (by decide)) rfl T._law_at.g T._law_at.F.kp (b__law_at T) .nil pass0 (pa_cons (pv 0) (pa_cons pe_int pa_nil))))
 (pss_cons (ps_setLc (i := 2) (own := [("_law_k", 3)]) (g := gName 3) (tt := tYes) rfl sc_law.nd rfl rfl (sw_true rfl rfl rfl (by decide +kernel)) (pi_range1 (by rfl) T.m_range (pa_cons pe_int pa_nil)) (blkOk_by (N := N_law) (sc := defScope s_law) (by decide +kernel))
 (fun _ _ _ _ _ => (pg_name (i := 3) sc_law.nd rfl (Or.inl rfl))) (fun _ _ _ _ _ => pts_nil) (fun _ _ _ _ _ => (pe_call (ok__law_mixed T) (hr.mono (by decide)) rfl T._law_mixed.g T._law_mixed.F.kp (b__law_mixed T) .nil pass0 (pa_cons (pe_call (ok__law_at T) (hr.mono (by decide)) rfl T._law_at.g T._law_at.F.kp (b__law_at T) .nil pass0 (pa_cons (pv 0) (pa_cons (pe_op op_add pe_int (pv 3)) pa_nil))) (pa_cons (pv 3) pa_nil)))))
 (pss_cons (ps_set (i := 4) sc_law.nd rfl (Or.inr rfl) (pe_callTy (call_tupleK (K := K) rfl) (by rfl) T.m_tuple (by decide +kernel) (pa_cons (pe_lc (own := [("_law_k", 3), ("_law_number", 5)]) (g := gTup K 2 (gCons (gName 3) (gCons (gName 5) gNil))) (tt := tYes) rfl sc_law.nd (pi_enum (by rfl) T.m_enumerate (pa_cons (pv 2) pa_nil)) (blkOk_by (N := N_law) (sc := defScope s_law) (by decide +kernel))
 (fun _ _ _ _ _ => (pg_tupK (n := 2) (K := K) rfl rfl (pgs_cons (pg_name (i := 3) sc_law.nd rfl (Or.inl rfl)) (pgs_cons (pg_name (i := 5) sc_law.nd rfl (Or.inl rfl)) pgs_nil)))) (fun _ _ _ _ _ => pts_nil) (fun _ _ _ _ _ => (pe_call (ok__law_unknown T) (hr.mono (by decide)) rfl T._law_unknown.g T._law_unknown.F.kp (b__law_unknown T) .nil pass0 (pa_cons (pe_op op_add (pe_op op_add (pe_op op_sub (pv 5) (pe_op op_modN (pv 5) pe_int)) pe_int) (pe_op op_modN (pv 5) pe_int)) (pa_cons (pv 3) pa_nil))))) pa_nil)))
 (pss_cons (ps_setLc (i := 6) (own := [("_law_k", 3)]) (g := gName 3) (tt := tYes) rfl sc_law.nd rfl rfl (sw_true rfl rfl rfl (by decide +kernel)) (pi_range1 (by rfl) T.m_range (pa_cons pe_int pa_nil)) (blkOk_by (N := N_law) (sc := defScope s_law) (by decide +kernel))
 (fun _ _ _ _ _ => (pg_name (i := 3) sc_law.nd rfl (Or.inl rfl))) (fun _ _ _ _ _ => pts_nil) (fun _ _ _ _ _ => (pe_call (ok__law_value T) (hr.mono (by decide)) rfl T._law_value.g T._law_value.F.kp (b__law_value T) .nil pass0 (pa_cons (pe_ix (ix_tupK (K := K) rfl) (pv 4) (pv 3) (fun _ _ => rfl)) (pa_cons (pe_call (ok__law_mixed T) (hr.mono (by decide)) rfl T._law_mixed.g T._law_mixed.F.kp (b__law_mixed T) .nil pass0 (pa_cons (pe_call (ok__law_at T) (hr.mono (by decide)) rfl T._law_at.g T._law_at.F.kp (b__law_at T) .nil pass0 (pa_cons (pv 0) (pa_cons (pe_op op_add pe_int (pv 3)) pa_nil))) (pa_cons (pv 3) pa_nil))) pa_nil)))))
 (pss_cons (ps_set (i := 7) sc_law.nd rfl (Or.inl rfl) (pe_tup (pa_cons (pv 4) (pa_cons (pe_call (ok__law_rows T) (hr.mono (by decide)) rfl T._law_rows.g T._law_rows.F.kp (b__law_rows T) .nil pass0 (pa_cons (pv 0) (pa_cons pe_int (pa_cons (pe_op op_modN (pv 1) pe_int) (pa_cons (pv 6) pa_nil))))) (pa_cons (pe_call (ok__law_goal T) (hr.mono (by decide)) rfl T._law_goal.g T._law_goal.F.kp (b__law_goal T) .nil pass0 (pa_cons (pe_op op_fdivW (pv 1) pe_int) (pa_cons pe_int pa_nil))) pa_nil)))))
 (pss_cons (ps_set (i := 7) sc_law.nd rfl (Or.inl rfl) (pe_call (ok__law_alike T) (hr.mono (by decide)) rfl T._law_alike.g T._law_alike.F.kp (b__law_alike T) .nil pass0 (pa_cons (pv 7) (pa_cons (pe_call (ok__law_mixed T) (hr.mono (by decide)) rfl T._law_mixed.g T._law_mixed.F.kp (b__law_mixed T) .nil pass0 (pa_cons (pv 1) (pa_cons pe_int pa_nil))) pa_nil))))
 (pss_cons (ps_set (i := 8) sc_law.nd rfl (Or.inl rfl) (pe_call (ok__law_best T) (hr.mono (by decide)) rfl T._law_best.g T._law_best.F.kp (b__law_best T) .nil pass0 (pa_cons (pv 7) pa_nil)))
 (pss_cons (ps_for PassesOwn.never rfl (pi_range1 (by rfl) T.m_range (pa_cons pe_int pa_nil)) (pg_name (i := 9) sc_law.nd rfl (Or.inl rfl))
 (pss_cons (ps_set (i := 10) sc_law.nd rfl (Or.inl rfl) (pe_call (ok_loose T) (hr.mono (by decide)) rfl T.loose.g T.loose.F.kp (b_loose T) .nil pass0 (pa_cons (pv 7) pa_nil)))
 (pss_cons (ps_if (pt_cmpR op_isNK (pv 8) pe_non (nomark _)) (pss_one (ps_if (pt_cmpR op_ne (pe_ix (ix_tupK (K := K) rfl) (pv 10) pe_int (fun _ _ => rfl)) pe_str (nomark _)) (pss_one (ps_ret pe_bl)) pss_nil)) (pss_one (ps_if (PW.pt (pw_or (pt_cmpR op_ne (pe_ix (ix_tupK (K := K) rfl) (pv 10) pe_int (fun _ _ => rfl)) pe_str (nomark _)) (pw_or1 (pt_cmpR op_ne (pe_call (ok__law_order T) (hr.mono (by decide)) rfl T._law_order.g T._law_order.F.kp (b__law_order T) .nil pass0 (pa_cons (pe_call (ok__law_worth T) (hr.mono (by decide)) rfl T._law_worth.g T._law_worth.F.kp (b__law_worth T) .nil pass0 (pa_cons (pe_tup (pa_cons pe_int (pa_cons pe_int pa_nil))) (pa_cons (pe_call (ok__law_turned T) (hr.mono (by decide)) rfl T._law_turned.g T._law_turned.F.kp (b__law_turned T) .nil pass0 (pa_cons (pv 7) pa_nil)) (pa_cons (pe_ix (ix_tupK (K := K) rfl) (pv 10) pe_int (fun _ _ => rfl)) pa_nil)))) (pa_cons (pv 8) pa_nil))) pe_int (nomark _))))) (pss_one (ps_ret pe_bl)) pss_nil)))
 (pss_one (ps_set (i := 7) sc_law.nd rfl (Or.inl rfl) (pe_tup (pa_cons (pe_ix (ix_tupK (K := K) rfl) (pv 7) pe_int (fun _ _ => rfl)) (pa_cons (WX.pe_revT (pe_ix (ix_tupK (K := K) rfl) (pv 7) pe_int (fun _ _ => rfl))) (pa_cons (pe_ix (ix_tupK (K := K) rfl) (pv 7) pe_int (fun _ _ => rfl)) pa_nil)))))))))
 (pss_one (ps_ret pe_bl)))))))))), ?_⟩
  -- the cell
  refine q_asgR (er_at (k := 0) (ev_var rfl) ev_c ha) fun v H1 e1 hv => ?_
  obtain ⟨cell, rfl⟩ := hv
  -- the numbers
  refine q_asgC (evc_rng1 (fun _ _ v _ => ∃ n : Nat, v = .int (n : Nat)) (n := 2) (ea_cons ev_c ea_nil) (by omega) (fun _ => rfl)
    (fun D i H2 hi hD e2 hl => fun H3 e3 Q' k' => er_at (k := 1 + i) (ev_var (i := 0) rfl) (ev_addN (a := 1) ev_c (ev_var (i := 3) rfl)) (ex_l ((e1.trans e2).trans e3) ha) H3 (Ex.refl H3) _ fun v H4 e4 ⟨c, hc⟩ => by
      subst hc
      exact ⟨_, rfl, c, i, rfl, by omega, fun n H5 hn e5 => k' _ H5 (e4.trans e5) ⟨n, rfl⟩⟩)
    (fun _ _ _ _ _ _ _ h => h)) fun DN H2 ys hDN e2 h2 o2 => ?_
  obtain ⟨n1, n2⟩ := outs_all o2
  -- the unknowns
  refine q_asgCU (P := fun xs H => xs.length = 2 ∧ ∀ (i : Nat) v, xs[i]? = some v → ∃ lo hi, UnkT K H v lo hi ∧ Q2 30 10 lo ∧ Q2 35 14 hi) (evcu_of (evc_enum (K := K) (xs := ys) (i0 := 3) (j0 := 5) (vs := [3, 5]) (fun _ i v H => ∃ lo hi, UnkT K H v lo hi ∧ Q2 30 10 lo ∧ Q2 35 14 hi) (ea_cons (ev_var rfl) ea_nil) (sq_of h2) (by omega) (fun _ _ => rfl)
    (fun D i x H3 hD e3 hl hx => by
      obtain ⟨n, rfl⟩ := n2 i x hx
      have hi : i < 2 := by have := get_lt hx; omega
      intro H4 e4 Q' k'
      refine a_cons (at_v (v := .int ((n - n % 8 + 3 + n % 5 : Nat) : Nat)) (ev_addN (ev_addN (ev_is (ev_op (ev_var (i := 5) rfl) (ev_modN (ev_var (i := 5) rfl) (b := 8) ev_c (by omega)) rv_I0) (by show V.int _ = V.int _; congr 1; have := Nat.mod_le n 8; omega)) (b := 3) ev_c) (ev_modN (ev_var (i := 5) rfl) (b := 5) ev_c (by omega))) fun H5 e5 => ⟨_, rfl, ?_⟩)
      exact ⟨_, i, rfl, by omega, by omega, fun v lo hi H6 e6 hu z1 z2 => k' v H6 (e5.trans e6) ⟨lo, hi, hu, z1, z2⟩⟩)
    (fun D i v H H' f hl h => by
      obtain ⟨ys, hl⟩ := hl
      obtain ⟨lo, hi, ⟨t, a, b, f', g', h2, h3, h4, h5⟩, z⟩ := h
      exact ⟨lo, hi, ⟨t, a, b, f', g', h2, fx_t f hl h3, h4.fx f hl, h5.fx f hl⟩, z⟩)) fun D xs H3 l e3 hD h3 o hl => by
    obtain ⟨o1, o2⟩ := outs_all o
    exact ⟨by omega, fun i v hv => let ⟨lo, hi, h1, h2⟩ := o2 i v hv; ⟨lo, hi, h1.ex (Ex.new hl), h2⟩⟩) fun U H3 us hU e3 hU3 oU => ?_
  have e13 := (e1.trans e2).trans e3
  obtain ⟨oU1, oU2⟩ := oU
  -- the values
  refine q_asgC (evc_rng1 (fun _ _ v H => ∃ r, FrA K H v r ∧ Q2 60 37 r) (n := 2) (ea_cons ev_c ea_nil) (by omega) (fun _ => rfl)
    (fun D i H4 hi hD e4 hl => fun H5 e5 Q' k' => by
      obtain ⟨u, hu⟩ := get_of_lt (xs := us) (i := i) (by omega)
      obtain ⟨lo, hi', hk, z1, z2⟩ := oU2 i u hu
      have e15 := (e13.trans e4).trans e5
      refine a_cons (at_v (v := u) (ev_op (ev_var (i := 4) rfl) (ev_var (i := 3) rfl) (rv_ixT (st_of ((e4.trans e5) _ _ hU3)) (atI_nat hu))) fun H6 e6 => a_cons ?_)
      refine er_at (k := 3 + i) (ev_var (i := 0) rfl) (ev_addN (a := 3) ev_c (ev_var (i := 3) rfl)) (ex_l (e15.trans e6) ha) H6 (Ex.refl H6) _ fun v H7 e7 ⟨c, hc⟩ => ?_
      subst hc
      refine ⟨_, rfl, c, i, rfl, by omega, fun n H8 hn e8 => ?_⟩
      exact ⟨u, n, lo, hi', rfl, hk.ex ((((e4.trans e5).trans e6).trans e7).trans e8), z1, z2, fun v r H9 e9 f9 z9 => k' v H9 (((e6.trans e7).trans e8).trans e9) ⟨r, f9, z9⟩⟩)
    (fun D i v H H' f hl h => by
      obtain ⟨ys, hl⟩ := hl
      obtain ⟨r, h1, h2⟩ := h
      exact ⟨r, h1.fx f hl, h2⟩)) fun DV H4 vs hDV e4 h4 oV => ?_
  obtain ⟨oV1, oV2⟩ := outs_all oV
  obtain ⟨v0, hv0⟩ := get_of_lt (xs := vs) (i := 0) (by omega)
  obtain ⟨v1, hv1⟩ := get_of_lt (xs := vs) (i := 1) (by omega)
  obtain ⟨r0, f0, z0⟩ := oV2 0 v0 hv0
  obtain ⟨r1, f1, z1⟩ := oV2 1 v1 hv1
  have hVA : ValsA K H4 DV (fun i => if i = 0 then r0 else r1) 60 37 := ⟨vs, .inr (sq_of h4), oV1, fun i v hv => by
    have hi : i < 2 := by have := get_lt hv; omega
    have h01 : i = 0 ∨ i = 1 := by omega
    rcases h01 with rfl | rfl
    · rw [hv0] at hv
      cases hv
      exact ⟨f0, z0⟩
    · rw [hv1] at hv
      cases hv
      exact ⟨f1, z1⟩⟩
  have e14 := e13.trans e4
  obtain ⟨sz, hsz, hsz4⟩ : ∃ n : Nat, cell.fmod 4 = (n : Int) ∧ n < 4 := by
    have h1 := Int.fmod_nonneg_of_pos cell (show (0 : Int) < 4 by omega)
    have h2 := Int.fmod_lt_of_pos cell (show (0 : Int) < 4 by omega)
    exact ⟨(cell.fmod 4).toNat, by omega, by omega⟩
  -- the plan
  refine q_asgR (R := fun v H => ∃ pl R G p, v = .ref pl ∧ PlnF K H pl U R G p ∧ PlnQ p) (fun H5 e5 Q' k' => ?_) fun v H5 e5 hv => ?_
  · refine e_tup (a_cons (at_v (ev_var (i := 4) rfl) fun H6 e6 => a_cons ?_))
    refine a_cons (at_v (ev_var (i := 0) rfl) fun H7 e7 => a_cons (at_v ev_c fun H8 e8 => a_cons (at_v (v := .int (sz : Nat)) (ev_is (ev_op (ev_var (i := 1) rfl) ev_c (rv_I (by omega))) (by rw [hsz])) fun H9 e9 => a_cons (at_v (ev_var (i := 6) rfl) fun H10 e10 => ?_))))
    have e410 := ((((e5.trans e6).trans e7).trans e8).trans e9).trans e10
    refine ⟨a, DV, ns, sz, _, rfl, ex_l (e14.trans e410) ha, by omega, hVA.ex e410, ⟨vs, sq_of (e410 _ _ h4), oV1⟩, fun R rs H11 e11 hR hrl hrz => ?_⟩
    refine a_cons ?_
    refine a_cons (at_v (v := .int (cell / 4)) (ev_op (ev_var (i := 1) rfl) ev_c (rv_I (cdivw (b := 3) (by omega) (by decide)))) fun H12 e12 => a_cons (at_v ev_c fun H13 e13' => ?_))
    refine ⟨cell / 4, rfl, fun g least ps H14 e14' hg hp2 hgz => ⟨(by show 3 ≤ sizeLine; decide), fun pl hpl => ?_⟩⟩
    have eN : Ex H14 (upd H14 pl (.tup [.ref U, .ref R, .ref g])) := Ex.new hpl
    have e11N := ((e12.trans e13').trans e14').trans eN
    have e3N : Ex H3 (upd H14 pl (.tup [.ref U, .ref R, .ref g])) := e4.trans (e410.trans (e11.trans e11N))
    obtain ⟨us', rfl⟩ := refs_of (xs := us) fun i v hv => by
      obtain ⟨lo, hi, ⟨t, _, _, _, _, e, _⟩, _⟩ := oU2 i v hv
      exact ⟨t, e⟩
    obtain ⟨u0, hu0⟩ := get_of_lt (xs := us') (i := 0) (by rw [List.length_map] at oU1; omega)
    obtain ⟨u1, hu1⟩ := get_of_lt (xs := us') (i := 1) (by rw [List.length_map] at oU1; omega)
    obtain ⟨lo0, hi0, k0, y0, y0'⟩ := oU2 0 (.ref u0) (at_map_ref hu0)
    obtain ⟨lo1, hi1, k1, y1, y1'⟩ := oU2 1 (.ref u1) (at_map_ref hu1)
    refine k' (.ref pl) _ ((((((e6.trans e7).trans e8).trans e9).trans e10).trans e11).trans e11N) ⟨pl, R, g, ⟨[(lo0, hi0), (lo1, hi1)], rs, least, ps⟩, rfl, ⟨st_of upd_same, ⟨us', st_of (e3N _ _ hU3), by rw [List.length_map] at oU1; exact oU1, fun i t lh ht hlh => ?_⟩, hR.ex e11N, let ⟨q, c, a, b⟩ := hg; ⟨q, c, ex_t eN a, b.ex eN⟩⟩, ⟨rfl, by show rs.length ≤ 3; omega, fun lh h => ?_, hrz, hp2, hgz⟩⟩
    · have hi : i < 2 := by have := get_lt hlh; exact this
      have h01 : i = 0 ∨ i = 1 := by omega
      rcases h01 with rfl | rfl
      · rw [hu0] at ht
        cases ht
        cases hlh
        obtain ⟨t', a, b, f, g', e, x1, x2, x3⟩ := k0.ex e3N
        cases e
        exact ⟨a, b, f, g', x1, x2, x3⟩
      · rw [hu1] at ht
        cases ht
        cases hlh
        obtain ⟨t', a, b, f, g', e, x1, x2, x3⟩ := k1.ex e3N
        cases e
        exact ⟨a, b, f, g', x1, x2, x3⟩
    · have : lh = (lo0, hi0) ∨ lh = (lo1, hi1) := by simpa using h
      rcases this with rfl | rfl
      · exact ⟨y0, y0'⟩
      · exact ⟨y1, y1'⟩
  obtain ⟨pl, R, G, p, rfl, PF, Z⟩ := hv
  have e15 := e14.trans e5
  refine q_asgR (R := fun v H => ∃ pl U R G, v = .ref pl ∧ PlnF K H pl U R G p) (fun H6 e6 Q' k' => ?_) fun v H6 e6 hv => ?_
  · refine a_cons (at_v (ev_var (i := 7) rfl) fun H7 e7 => a_cons (at_r (er_mix (ev_var (i := 1) rfl) (k := 70) ev_c (by omega)) fun v H8 e8 hv => ?_))
    obtain ⟨n, rfl, _⟩ := hv
    exact ⟨pl, U, R, G, p, n, rfl, PF.ex ((e6.trans e7).trans e8), Z, fun pl' U' R' G' H9 e9 PF' => k' (.ref pl') H9 ((e7.trans e8).trans e9) ⟨pl', U', R', G', rfl, PF'⟩⟩
  obtain ⟨pl2, U2, R2, G2, rfl, PF2⟩ := hv
  refine q_asgR (R := fun v H => ∃ o, BestV K H v o ∧ BestOf p.r (AllPairs p.r) o) (fun H7 e7 Q' k' => ⟨_, rfl, pl2, U2, R2, G2, p, rfl, PF2.ex e7, Z, fun v o H8 e8 h1 h2 => k' v H8 e8 ⟨o, h1, h2⟩⟩) fun vd H7 e7 hv => ?_
  obtain ⟨o, hbv, hbo⟩ := hv
  refine q_forR1 (n := 2) (ea_cons ev_c ea_nil) (by omega) (fun i σ' H' => Ex H7 H' ∧ ∃ pl U' R' G' p' c9 c10, σ' = [some (.ref a), some (.int cell), some (.ref DN), none, some (.ref U), none, some (.ref DV), some (.ref pl), some vd, c9, c10] ∧ PlnF K H' pl U' R' G' p' ∧ PlnQ p' ∧ (∀ x y, p'.r.feas x y ↔ p.r.feas x y) ∧ ∀ x y, p'.r.goal x y = p.r.goal x y)
    (fun H8 e8 => ⟨e8, pl2, U2, R2, G2, p, none, none, rfl, PF2.ex (e7.trans e8), Z, fun _ _ => Iff.rfl, fun _ _ => rfl⟩) ?_ ?_
  · rintro i σ' H8 hi ⟨e8, pl, U', R', G', p', c9, c10, rfl, PF', Z', hfe, hgo⟩
    refine q_asgR (R := fun v H => LooseR K H v p'.r) (fun H9 e9 Q' k' => ⟨_, rfl, pl, U', R', G', p', rfl, (PF'.ex e9).a, plnz Z', fun v H10 e10 hl => k' v H10 e10 hl⟩) fun v H9 e9 hv => ?_
    obtain ⟨t, rfl, hl⟩ := hv
    have e89 := e8.trans e9
    -- the plan turned about
    have fin : ∀ (D : Ends) H10, Ex H9 H10 → (∀ H11 pl'' R'', Ex H10 H11 → PlnF K H11 pl'' U' R'' G' p'.rev → D.nx [some (.ref a), some (.int cell), some (.ref DN), none, some (.ref U), none, some (.ref DV), some (.ref pl''), some vd, some (.int (i : Nat)), some (.ref t)] H11) →
        tAsg (tTup (tCons (tOp (rIxT K) (tVar 7) (tC (.int 0))) (tCons (WX.tRevT K (tOp (rIxT K) (tVar 7) (tC (.int 1)))) (tCons (tOp (rIxT K) (tVar 7) (tC (.int 2))) tNil)))) (gName 7) D [some (.ref a), some (.int cell), some (.ref DN), none, some (.ref U), none, some (.ref DV), some (.ref pl), some vd, some (.int (i : Nat)), some (.ref t)] H10 := by
      intro D H10 e10 k
      have PF10 := PF'.ex (e9.trans e10)
      obtain ⟨xs, x1, x2, x3⟩ := PF10.r
      refine s_asgR (R := fun v H11 => ∃ pl'' R'', v = .ref pl'' ∧ PlnF K H11 pl'' U' R'' G' p'.rev) (fun H11 e11 Q' k' => ?_) fun v H11 e11 hv => by
        obtain ⟨pl'', R'', rfl, h⟩ := hv
        exact k H11 pl'' R'' e11 h
      refine e_tup (a_cons (at_v (ev_item (i := 7) (j := 0) (v := .ref U') rfl (ex_t e11 PF10.o) rfl) fun H12 e12 => a_cons ((ev_item (i := 7) (j := 1) (v := .ref R') rfl (ex_t e11 PF10.o) rfl : Ev _ _ H11 _) H12 e12 _ fun H13 e13' => ⟨R', xs, rfl, ex_t ((e11.trans e12).trans e13') x1, fun r hr => ?_⟩)))
      have eR : Ex H13 (upd H13 r (.tup xs.reverse)) := Ex.new hr
      have e1R := ((e11.trans e12).trans e13').trans eR
      refine a_cons (at_v (ev_item (i := 7) (j := 2) (v := .ref G') rfl (ex_t e1R PF10.o) rfl) fun H14 e14' => ⟨(by show 3 ≤ sizeLine; decide), fun u hu => ?_⟩)
      have eN : Ex H14 (upd H14 u (.tup [.ref U', .ref r, .ref G'])) := Ex.new hu
      have eA := (e1R.trans e14').trans eN
      refine k' (.ref u) _ (((((e12.trans e13').trans eR).trans e14').trans eN)) ⟨u, r, rfl, st_of upd_same, PF10.u.ex eA, RowsF.rev (st_of ((e14'.trans eN) _ _ upd_same)) x2 fun i v row h1 h2 => (x3 i v row h1 h2).ex eA, (PF10.ex eA).g⟩
    have Zr := Z'.rev
    have hfr : ∀ x y, p'.rev.r.feas x y ↔ p.r.feas x y := fun x y => (rev_feas Z' x y).trans (hfe x y)
    have hgr : ∀ x y, p'.rev.r.goal x y = p.r.goal x y := fun x y => hgo x y
    cases o with
    | none =>
      have hvd : vd = .non := hbv
      have nof := due_none hfe hbo
      rcases hl with ⟨u, ht, _⟩ | ⟨tv, u, x, y, _, _, _, _, hf, _⟩
      · refine q_if (b := true) (et_is (et_test (ev_op (ev_var rfl) ev_c rv_isN)) (by rw [hvd]; rfl)) (fun _ H10 e10 => ?_) (fun z => by cases z)
        refine s_when (b := false) (et_is (et_test (ev_op (ev_item rfl (ex_t e10 ht) rfl) ev_c (rv_ne rfl))) (by decide +kernel)) (fun z => by cases z) (fun _ H11 e11 => ?_)
        exact fin _ H11 (e10.trans e11) fun H12 pl'' R'' e12 h => ⟨((e89.trans e10).trans e11).trans e12, pl'', U', R'', G', p'.rev, _, _, rfl, h, Zr, hfr, hgr⟩
      · exact absurd hf (nof x y)
    | some wb =>
      obtain ⟨⟨x0, y0, f0⟩, hbest⟩ := due_some hfe hgo hbo
      rcases hl with ⟨u, ht, hno⟩ | ⟨tv, u, x, y, ht, htf, zx, zy, hf, hmin⟩
      · exact absurd f0 (hno x0 y0)
      · have hw := hbest x y hf hmin
        have fb : FrU K H9 vd wb 2000 2000 := FrU.ex e89 hbv
        obtain ⟨pb, _, _, epb, _⟩ := id fb
        have hVT : ValsA K H9 tv (fun i => if i = 0 then x else y) 3600 3600 := by
          obtain ⟨xs, t1, t2, t3⟩ := htf
          refine ⟨xs, .inl t1, t2, fun i v hv => ⟨t3 i v hv, ?_⟩⟩
          show Q2 3600 3600 (if i = 0 then x else y)
          split
          · exact zx
          · exact zy
        refine q_if (b := false) (et_is (et_test (ev_op (ev_var rfl) ev_c rv_isN)) (by rw [epb]; rfl)) (fun z => by cases z) (fun _ H10 e10 => ?_)
        refine s_when (b := false || false) (et_or (et_is (et_test (ev_op (ev_item rfl (ex_t e10 ht) rfl) ev_c (rv_ne rfl))) (by decide +kernel)) fun _ => et_ordeq (eu_goal (k := 20000) (l := 20000) (ev_var rfl) (ev_item (v := .ref tv) rfl (ex_t e10 ht) rfl) (PF'.ex (e9.trans e10)) Z' (hVT.ex e10) (by omega) (by omega) (by omega) (by omega)) (eu_var rfl (fb.ex e10)) (by omega) (by omega) (by omega) (by omega) hw) (fun z => by cases z) (fun _ H11 e11 => ?_)
        exact fin _ H11 (e10.trans e11) fun H12 pl'' R'' e12 h => ⟨((e89.trans e10).trans e11).trans e12, pl'', U', R'', G', p'.rev, _, _, rfl, h, Zr, hfr, hgr⟩
  · rintro σ' H8 ⟨e8, _⟩
    exact q H8
end
end PX

set_option maxHeartbeats 0
namespace PWH
open PySem PySem.Spec PyProof.Rows L2
def top (i : Nat) : Stmt := PySem.Challenge.pw_planwell_k20_whole_corners_tried.main.body.getD i (.Pass ⟨0, 0, 0, 0⟩)
abbrev s_shared : Stmt := top 4
abbrev s_fraction : Stmt := top 5
abbrev s_plus : Stmt := top 6
abbrev s_minus : Stmt := top 7
abbrev s_times : Stmt := top 8
abbrev s_sign : Stmt := top 9
abbrev s_turned : Stmt := top 12
abbrev s_lessened : Stmt := top 14
abbrev s_turned_row : Stmt := top 15
abbrev s_pivoted : Stmt := top 16
abbrev s_value : Stmt := top 17
abbrev s_Frame_init : Stmt := inClass (top 21) 0
abbrev s_Frame_add : Stmt := inClass (top 21) 1
abbrev s_Frame_numbers : Stmt := inClass (top 21) 2
abbrev s_Frame_at_bases : Stmt := inClass (top 21) 3
abbrev s_Frame_joined : Stmt := inClass (top 21) 4
abbrev s_lines_of : Stmt := top 22
abbrev s_upright : Stmt := top 23
abbrev s_over_one : Stmt := top 24
abbrev s_Work_init : Stmt := inClass (top 25) 0
abbrev s_Work_full_rows : Stmt := inClass (top 25) 1
abbrev s_Work_turn : Stmt := inClass (top 25) 2
abbrev s_Work_leaving : Stmt := inClass (top 25) 3
abbrev s_Work_wrong : Stmt := inClass (top 25) 4
abbrev s_Work_lower : Stmt := inClass (top 25) 5
abbrev s_Work_settle : Stmt := inClass (top 25) 6
abbrev s_Work_prices : Stmt := inClass (top 25) 7
abbrev s_Work_standing : Stmt := inClass (top 25) 8
abbrev s_Work_along : Stmt := inClass (top 25) 9
abbrev s_loose : Stmt := top 26
abbrev s__law_at : Stmt := top 28
abbrev s__law_mixed : Stmt := top 29
abbrev s__law_lowest : Stmt := top 30
abbrev s__law_fraction : Stmt := top 31
abbrev s__law_plus : Stmt := top 32
abbrev s__law_times : Stmt := top 33
abbrev s__law_order : Stmt := top 34
abbrev s__law_worth : Stmt := top 35
abbrev s__law_unknown : Stmt := top 36
abbrev s__law_value : Stmt := top 37
abbrev s__law_pairs : Stmt := top 38
abbrev s__law_bound : Stmt := top 39
abbrev s__law_rows : Stmt := top 40
abbrev s__law_goal : Stmt := top 41
abbrev s__law_stands : Stmt := top 42
abbrev s__law_loosely_meets : Stmt := top 43
abbrev s__law_turned : Stmt := top 44
abbrev s__law_minus : Stmt := top 45
abbrev s__law_edges : Stmt := top 46
abbrev s__law_over : Stmt := top 47
abbrev s__law_crossing : Stmt := top 48
abbrev s__law_best : Stmt := top 49
abbrev s__law_alike : Stmt := top 50
abbrev s_law : Stmt := top 51
def d_shared : He.DefD := ⟨("shared", none), "shared", "shared", defArgs s_shared, defBody s_shared, defScope s_shared, [], []⟩
def d_fraction : He.DefD := ⟨("fraction", none), "fraction", "fraction", defArgs s_fraction, defBody s_fraction, defScope s_fraction, [.int 1], []⟩
def d_plus : He.DefD := ⟨("plus", none), "plus", "plus", defArgs s_plus, defBody s_plus, defScope s_plus, [], []⟩
def d_minus : He.DefD := ⟨("minus", none), "minus", "minus", defArgs s_minus, defBody s_minus, defScope s_minus, [], []⟩
def d_times : He.DefD := ⟨("times", none), "times", "times", defArgs s_times, defBody s_times, defScope s_times, [], []⟩
def d_sign : He.DefD := ⟨("sign", none), "sign", "sign", defArgs s_sign, defBody s_sign, defScope s_sign, [], []⟩
def d_turned : He.DefD := ⟨("turned", none), "turned", "turned", defArgs s_turned, defBody s_turned, defScope s_turned, [], []⟩
def d_lessened : He.DefD := ⟨("lessened", none), "lessened", "lessened", defArgs s_lessened, defBody s_lessened, defScope s_lessened, [], []⟩
def d_turned_row : He.DefD := ⟨("turned_row", none), "turned_row", "turned_row", defArgs s_turned_row, defBody s_turned_row, defScope s_turned_row, [], []⟩
def d_pivoted : He.DefD := ⟨("pivoted", none), "pivoted", "pivoted", defArgs s_pivoted, defBody s_pivoted, defScope s_pivoted, [], []⟩
def d_value : He.DefD := ⟨("value", none), "value", "value", defArgs s_value, defBody s_value, defScope s_value, [], []⟩
def d_Frame_init : He.DefD := ⟨("Frame", some "__init__"), "__init__", "Frame.__init__", defArgs s_Frame_init, defBody s_Frame_init, defScope s_Frame_init, [], []⟩
def d_Frame_add : He.DefD := ⟨("Frame", some "add"), "add", "Frame.add", defArgs s_Frame_add, defBody s_Frame_add, defScope s_Frame_add, [], []⟩
def d_Frame_numbers : He.DefD := ⟨("Frame", some "numbers"), "numbers", "Frame.numbers", defArgs s_Frame_numbers, defBody s_Frame_numbers, defScope s_Frame_numbers, [], []⟩
def d_Frame_at_bases : He.DefD := ⟨("Frame", some "at_bases"), "at_bases", "Frame.at_bases", defArgs s_Frame_at_bases, defBody s_Frame_at_bases, defScope s_Frame_at_bases, [], []⟩
def d_Frame_joined : He.DefD := ⟨("Frame", some "joined"), "joined", "Frame.joined", defArgs s_Frame_joined, defBody s_Frame_joined, defScope s_Frame_joined, [], []⟩
def d_lines_of : He.DefD := ⟨("lines_of", none), "lines_of", "lines_of", defArgs s_lines_of, defBody s_lines_of, defScope s_lines_of, [], []⟩
def d_upright : He.DefD := ⟨("upright", none), "upright", "upright", defArgs s_upright, defBody s_upright, defScope s_upright, [], []⟩
def d_over_one : He.DefD := ⟨("over_one", none), "over_one", "over_one", defArgs s_over_one, defBody s_over_one, defScope s_over_one, [], []⟩
def d_Work_init : He.DefD := ⟨("Work", some "__init__"), "__init__", "Work.__init__", defArgs s_Work_init, defBody s_Work_init, defScope s_Work_init, [], []⟩
def d_Work_full_rows : He.DefD := ⟨("Work", some "full_rows"), "full_rows", "Work.full_rows", defArgs s_Work_full_rows, defBody s_Work_full_rows, defScope s_Work_full_rows, [], []⟩
def d_Work_turn : He.DefD := ⟨("Work", some "turn"), "turn", "Work.turn", defArgs s_Work_turn, defBody s_Work_turn, defScope s_Work_turn, [], []⟩
def d_Work_leaving : He.DefD := ⟨("Work", some "leaving"), "leaving", "Work.leaving", defArgs s_Work_leaving, defBody s_Work_leaving, defScope s_Work_leaving, [], []⟩
def d_Work_wrong : He.DefD := ⟨("Work", some "wrong"), "wrong", "Work.wrong", defArgs s_Work_wrong, defBody s_Work_wrong, defScope s_Work_wrong, [], []⟩
def d_Work_lower : He.DefD := ⟨("Work", some "lower"), "lower", "Work.lower", defArgs s_Work_lower, defBody s_Work_lower, defScope s_Work_lower, [], []⟩
def d_Work_settle : He.DefD := ⟨("Work", some "settle"), "settle", "Work.settle", defArgs s_Work_settle, defBody s_Work_settle, defScope s_Work_settle, [], []⟩
def d_Work_prices : He.DefD := ⟨("Work", some "prices"), "prices", "Work.prices", defArgs s_Work_prices, defBody s_Work_prices, defScope s_Work_prices, [], []⟩
def d_Work_standing : He.DefD := ⟨("Work", some "standing"), "standing", "Work.standing", defArgs s_Work_standing, defBody s_Work_standing, defScope s_Work_standing, [], []⟩
def d_Work_along : He.DefD := ⟨("Work", some "along"), "along", "Work.along", defArgs s_Work_along, defBody s_Work_along, defScope s_Work_along, [], []⟩
def d_loose : He.DefD := ⟨("loose", none), "loose", "loose", defArgs s_loose, defBody s_loose, defScope s_loose, [], []⟩
def d__law_at : He.DefD := ⟨("_law_at", none), "_law_at", "_law_at", defArgs s__law_at, defBody s__law_at, defScope s__law_at, [], []⟩
def d__law_mixed : He.DefD := ⟨("_law_mixed", none), "_law_mixed", "_law_mixed", defArgs s__law_mixed, defBody s__law_mixed, defScope s__law_mixed, [], []⟩
def d__law_lowest : He.DefD := ⟨("_law_lowest", none), "_law_lowest", "_law_lowest", defArgs s__law_lowest, defBody s__law_lowest, defScope s__law_lowest, [], []⟩
def d__law_fraction : He.DefD := ⟨("_law_fraction", none), "_law_fraction", "_law_fraction", defArgs s__law_fraction, defBody s__law_fraction, defScope s__law_fraction, [], []⟩
def d__law_plus : He.DefD := ⟨("_law_plus", none), "_law_plus", "_law_plus", defArgs s__law_plus, defBody s__law_plus, defScope s__law_plus, [], []⟩
def d__law_times : He.DefD := ⟨("_law_times", none), "_law_times", "_law_times", defArgs s__law_times, defBody s__law_times, defScope s__law_times, [], []⟩
def d__law_order : He.DefD := ⟨("_law_order", none), "_law_order", "_law_order", defArgs s__law_order, defBody s__law_order, defScope s__law_order, [], []⟩
def d__law_worth : He.DefD := ⟨("_law_worth", none), "_law_worth", "_law_worth", defArgs s__law_worth, defBody s__law_worth, defScope s__law_worth, [], []⟩
def d__law_unknown : He.DefD := ⟨("_law_unknown", none), "_law_unknown", "_law_unknown", defArgs s__law_unknown, defBody s__law_unknown, defScope s__law_unknown, [], []⟩
def d__law_value : He.DefD := ⟨("_law_value", none), "_law_value", "_law_value", defArgs s__law_value, defBody s__law_value, defScope s__law_value, [], []⟩
def d__law_pairs : He.DefD := ⟨("_law_pairs", none), "_law_pairs", "_law_pairs", defArgs s__law_pairs, defBody s__law_pairs, defScope s__law_pairs, [], []⟩
def d__law_bound : He.DefD := ⟨("_law_bound", none), "_law_bound", "_law_bound", defArgs s__law_bound, defBody s__law_bound, defScope s__law_bound, [], []⟩
def d__law_rows : He.DefD := ⟨("_law_rows", none), "_law_rows", "_law_rows", defArgs s__law_rows, defBody s__law_rows, defScope s__law_rows, [], []⟩
def d__law_goal : He.DefD := ⟨("_law_goal", none), "_law_goal", "_law_goal", defArgs s__law_goal, defBody s__law_goal, defScope s__law_goal, [], []⟩
def d__law_stands : He.DefD := ⟨("_law_stands", none), "_law_stands", "_law_stands", defArgs s__law_stands, defBody s__law_stands, defScope s__law_stands, [], []⟩
def d__law_loosely_meets : He.DefD := ⟨("_law_loosely_meets", none), "_law_loosely_meets", "_law_loosely_meets", defArgs s__law_loosely_meets, defBody s__law_loosely_meets, defScope s__law_loosely_meets, [], []⟩
def d__law_turned : He.DefD := ⟨("_law_turned", none), "_law_turned", "_law_turned", defArgs s__law_turned, defBody s__law_turned, defScope s__law_turned, [], []⟩
def d__law_minus : He.DefD := ⟨("_law_minus", none), "_law_minus", "_law_minus", defArgs s__law_minus, defBody s__law_minus, defScope s__law_minus, [], []⟩
def d__law_edges : He.DefD := ⟨("_law_edges", none), "_law_edges", "_law_edges", defArgs s__law_edges, defBody s__law_edges, defScope s__law_edges, [], []⟩
def d__law_over : He.DefD := ⟨("_law_over", none), "_law_over", "_law_over", defArgs s__law_over, defBody s__law_over, defScope s__law_over, [], []⟩
def d__law_crossing : He.DefD := ⟨("_law_crossing", none), "_law_crossing", "_law_crossing", defArgs s__law_crossing, defBody s__law_crossing, defScope s__law_crossing, [], []⟩
def d__law_best : He.DefD := ⟨("_law_best", none), "_law_best", "_law_best", defArgs s__law_best, defBody s__law_best, defScope s__law_best, [], []⟩
def d__law_alike : He.DefD := ⟨("_law_alike", none), "_law_alike", "_law_alike", defArgs s__law_alike, defBody s__law_alike, defScope s__law_alike, [], []⟩
def d_law : He.DefD := ⟨("law", none), "law", "law", defArgs s_law, defBody s_law, defScope s_law, [], []⟩
def fn1 : List He.DefD := [d_shared, d_fraction, d_plus, d_minus, d_times, d_sign, d_turned, d_lessened, d_turned_row, d_pivoted, d_value, d_Frame_init, d_Frame_add, d_Frame_numbers, d_Frame_at_bases, d_Frame_joined, d_lines_of, d_upright, d_over_one, d_Work_init, d_Work_full_rows, d_Work_turn, d_Work_leaving, d_Work_wrong, d_Work_lower, d_Work_settle, d_Work_prices, d_Work_standing, d_Work_along, d_loose]
def fn2 : List He.DefD := [d__law_at, d__law_mixed, d__law_lowest, d__law_fraction, d__law_plus, d__law_times, d__law_order, d__law_worth, d__law_unknown, d__law_value, d__law_pairs, d__law_bound, d__law_rows, d__law_goal, d__law_stands, d__law_loosely_meets, d__law_turned, d__law_minus, d__law_edges, d__law_over, d__law_crossing, d__law_best, d__law_alike, d_law]
def fn : List He.DefD := fn1 ++ fn2
def fa1 : List He.Fa := [.glo "shared", .glo "fraction", .glo "plus", .glo "minus", .glo "times", .glo "sign", .glo "turned", .glo "lessened", .glo "turned_row", .glo "pivoted", .glo "value", .glo "lines_of", .glo "upright", .glo "over_one", .glo "loose", .glo "_law_at", .glo "_law_mixed", .glo "_law_lowest", .glo "_law_fraction", .glo "_law_plus", .glo "_law_times", .glo "_law_order", .glo "_law_worth", .glo "_law_unknown", .glo "_law_value", .glo "_law_pairs", .glo "_law_bound", .glo "_law_rows", .glo "_law_goal", .glo "_law_stands"]
def fa2 : List He.Fa := [.glo "_law_loosely_meets", .glo "_law_turned", .glo "_law_minus", .glo "_law_edges", .glo "_law_over", .glo "_law_crossing", .glo "_law_best", .glo "_law_alike", .glo "law", .glo "NOUGHT", .glo "ONE", .glo "OTHER_SIGN", .glo "Frame", .glo "Work", .free "range", .free "len", .free "abs", .free "int", .free "tuple", .free "zip", .free "enumerate", .free "dict", .free "list"]
def fa3 : List He.Fa := [.cls "Frame", .cls "Work", .mkr "Frame", .mkr "Work", .noat "Frame" "bases", .noat "Frame" "parts", .noat "Frame" "many", .noat "Work" "lines", .noat "Work" "border", .noat "Work" "own", .noat "Work" "basis", .noat "Work" "end", .noat "Work" "tableau", .meth "Frame" "add", .meth "Frame" "numbers", .meth "Frame" "at_bases", .meth "Frame" "joined", .meth "Work" "full_rows", .meth "Work" "turn", .meth "Work" "leaving", .meth "Work" "wrong", .meth "Work" "lower", .meth "Work" "settle", .meth "Work" "prices", .meth "Work" "standing", .meth "Work" "along"]
def fa : List He.Fa := fa1 ++ (fa2 ++ fa3)
def ts : List He.Tab := [(fun K => He.ga K "OTHER_SIGN", ["<=", ">=", "="])]
def ex (K : PySem.W.Frag) : Bool := He.tupB K "NOUGHT" [.int 0, .int 1] && (He.tupB K "ONE" [.int 1, .int 1] && He.valsB K (He.ga K "OTHER_SIGN") [("<=", .str ">="), (">=", .str "<="), ("=", .str "=")])
abbrev R : PySem.W.OpenRow := PySem.W.OpenLaw.row PySem.Challenge.rw_planwell_k20_whole_corners_tried
abbrev hk : PySem.W.Hook := He.hookX 4 fa fn ts [] ex
def ob (s : PySem.W.SharedT) : He.AlX := He.obsX 4 fa fn ts [] ex (HandSHeadRun.getT s)
theorem ob_eq (s : PySem.W.SharedT) : ob s = hk.obs s.abs := He.obsX_eq (HandSHeadRun.getT_eq s)
def lo1 : List PySem.Str := ["shared", "fraction", "plus", "minus", "times", "sign", "turned", "lessened", "turned_row", "pivoted", "value", "lines_of", "upright", "over_one", "loose", "_law_at", "_law_mixed", "_law_lowest", "_law_fraction", "_law_plus", "_law_times", "_law_order", "_law_worth", "_law_unknown", "_law_value", "_law_pairs", "_law_bound", "_law_rows", "_law_goal", "_law_stands"]
def lo2 : List PySem.Str := ["_law_loosely_meets", "_law_turned", "_law_minus", "_law_edges", "_law_over", "_law_crossing", "_law_best", "_law_alike", "PlanError", "BadFraction", "Frame", "Work", "NOUGHT", "ONE", "OTHER_SIGN"]
def lo : List PySem.Str := lo1 ++ lo2
abbrev RunAt (w : World) : Prop := HandSHeadRun.RunEq R (PySem.W.view R.prog [51]) hk ob 3000 lo w
theorem runF (w : World) : RunAt (w.withFollow "special-get-raises" false) := by
  intro os
  kernel_rfl
theorem runT (w : World) : RunAt (w.withFollow "special-get-raises" true) := by
  intro os
  kernel_rfl
theorem run (w : World) : RunAt w := PySem.W.byRow2 "special-get-raises" (P := RunAt) runF runT w
end PWH
/-! the end: the facts, the law -/
namespace PWE
open PySem PySem.Spec PyProof.Rows L2
section
variable {w : World} {K : PySem.W.Frag} {h : Heap} {mg : Str → Option Value}
theorem txt (X : K.In h) (G : h.Ns mainGlobals mg) (c : He.SaysX PWH.fa PWH.fn PWH.ts [] PWH.ex w h K) : Nonempty (PX.Txt w K mg) := by
  have cd := c.t.d
  have ex := c.more
  have ex1 : He.tupB K "NOUGHT" [.int 0, .int 1] = true := (Bool.and_eq_true_iff.mp ex).1
  have ex2 : He.tupB K "ONE" [.int 1, .int 1] = true := (Bool.and_eq_true_iff.mp (Bool.and_eq_true_iff.mp ex).2).1
  have ex3 : He.valsB K (He.ga K "OTHER_SIGN") [("<=", .str ">="), (">=", .str "<="), ("=", .str "=")] = true := (Bool.and_eq_true_iff.mp (Bool.and_eq_true_iff.mp ex).2).2
  obtain ⟨es, n, kd⟩ := c.t.tab 0
  have dct : ∀ (x y : Str), (x, He.Dv.str y) ∈ ([("<=", .str ">="), (">=", .str "<="), ("=", .str "=")] : List (Str × He.Dv)) → KDct K w (He.ga K "OTHER_SIGN") x (.str y) := fun x y hq => by
    obtain ⟨u, h1, h2⟩ := He.valsB_ok ex3 hq
    exact ⟨es, n, u, kd.at_, kd.lit, h1, h2⟩
  have fact : ∀ f, f ∈ PWH.fa → f.ok K = true := fun f hf => cd.facts hf
  obtain ⟨fd_shared, F_shared⟩ := cd.defs (d := PWH.d_shared) (by unfold PWH.fn PWH.fn1 PWH.fn2; simp)
  obtain ⟨fd_fraction, F_fraction⟩ := cd.defs (d := PWH.d_fraction) (by unfold PWH.fn PWH.fn1 PWH.fn2; simp)
  obtain ⟨fd_plus, F_plus⟩ := cd.defs (d := PWH.d_plus) (by unfold PWH.fn PWH.fn1 PWH.fn2; simp)
  obtain ⟨fd_minus, F_minus⟩ := cd.defs (d := PWH.d_minus) (by unfold PWH.fn PWH.fn1 PWH.fn2; simp)
  obtain ⟨fd_times, F_times⟩ := cd.defs (d := PWH.d_times) (by unfold PWH.fn PWH.fn1 PWH.fn2; simp)
  obtain ⟨fd_sign, F_sign⟩ := cd.defs (d := PWH.d_sign) (by unfold PWH.fn PWH.fn1 PWH.fn2; simp)
  obtain ⟨fd_turned, F_turned⟩ := cd.defs (d := PWH.d_turned) (by unfold PWH.fn PWH.fn1 PWH.fn2; simp)
  obtain ⟨fd_lessened, F_lessened⟩ := cd.defs (d := PWH.d_lessened) (by unfold PWH.fn PWH.fn1 PWH.fn2; simp)
  obtain ⟨fd_turned_row, F_turned_row⟩ := cd.defs (d := PWH.d_turned_row) (by unfold PWH.fn PWH.fn1 PWH.fn2; simp)
  obtain ⟨fd_pivoted, F_pivoted⟩ := cd.defs (d := PWH.d_pivoted) (by unfold PWH.fn PWH.fn1 PWH.fn2; simp)
  obtain ⟨fd_value, F_value⟩ := cd.defs (d := PWH.d_value) (by unfold PWH.fn PWH.fn1 PWH.fn2; simp)
  obtain ⟨fd_Frame_init, F_Frame_init⟩ := cd.defs (d := PWH.d_Frame_init) (by unfold PWH.fn PWH.fn1 PWH.fn2; simp)
  obtain ⟨fd_Frame_add, F_Frame_add⟩ := cd.defs (d := PWH.d_Frame_add) (by unfold PWH.fn PWH.fn1 PWH.fn2; simp)
  obtain ⟨fd_Frame_numbers, F_Frame_numbers⟩ := cd.defs (d := PWH.d_Frame_numbers) (by unfold PWH.fn PWH.fn1 PWH.fn2; simp)
  obtain ⟨fd_Frame_at_bases, F_Frame_at_bases⟩ := cd.defs (d := PWH.d_Frame_at_bases) (by unfold PWH.fn PWH.fn1 PWH.fn2; simp)
  obtain ⟨fd_Frame_joined, F_Frame_joined⟩ := cd.defs (d := PWH.d_Frame_joined) (by unfold PWH.fn PWH.fn1 PWH.fn2; simp)
  obtain ⟨fd_lines_of, F_lines_of⟩ := cd.defs (d := PWH.d_lines_of) (by unfold PWH.fn PWH.fn1 PWH.fn2; simp)
  obtain ⟨fd_upright, F_upright⟩ := cd.defs (d := PWH.d_upright) (by unfold PWH.fn PWH.fn1 PWH.fn2; simp)
  obtain ⟨fd_over_one, F_over_one⟩ := cd.defs (d := PWH.d_over_one) (by unfold PWH.fn PWH.fn1 PWH.fn2; simp)
  obtain ⟨fd_Work_init, F_Work_init⟩ := cd.defs (d := PWH.d_Work_init) (by unfold PWH.fn PWH.fn1 PWH.fn2; simp)
  obtain ⟨fd_Work_full_rows, F_Work_full_rows⟩ := cd.defs (d := PWH.d_Work_full_rows) (by unfold PWH.fn PWH.fn1 PWH.fn2; simp)
  obtain ⟨fd_Work_turn, F_Work_turn⟩ := cd.defs (d := PWH.d_Work_turn) (by unfold PWH.fn PWH.fn1 PWH.fn2; simp)
  obtain ⟨fd_Work_leaving, F_Work_leaving⟩ := cd.defs (d := PWH.d_Work_leaving) (by unfold PWH.fn PWH.fn1 PWH.fn2; simp)
  obtain ⟨fd_Work_wrong, F_Work_wrong⟩ := cd.defs (d := PWH.d_Work_wrong) (by unfold PWH.fn PWH.fn1 PWH.fn2; simp)
  obtain ⟨fd_Work_lower, F_Work_lower⟩ := cd.defs (d := PWH.d_Work_lower) (by unfold PWH.fn PWH.fn1 PWH.fn2; simp)
  obtain ⟨fd_Work_settle, F_Work_settle⟩ := cd.defs (d := PWH.d_Work_settle) (by unfold PWH.fn PWH.fn1 PWH.fn2; simp)
  obtain ⟨fd_Work_prices, F_Work_prices⟩ := cd.defs (d := PWH.d_Work_prices) (by unfold PWH.fn PWH.fn1 PWH.fn2; simp)
  obtain ⟨fd_Work_standing, F_Work_standing⟩ := cd.defs (d := PWH.d_Work_standing) (by unfold PWH.fn PWH.fn1 PWH.fn2; simp)
  obtain ⟨fd_Work_along, F_Work_along⟩ := cd.defs (d := PWH.d_Work_along) (by unfold PWH.fn PWH.fn1 PWH.fn2; simp)
  obtain ⟨fd_loose, F_loose⟩ := cd.defs (d := PWH.d_loose) (by unfold PWH.fn PWH.fn1 PWH.fn2; simp)
  obtain ⟨fd__law_at, F__law_at⟩ := cd.defs (d := PWH.d__law_at) (by unfold PWH.fn PWH.fn1 PWH.fn2; simp)
  obtain ⟨fd__law_mixed, F__law_mixed⟩ := cd.defs (d := PWH.d__law_mixed) (by unfold PWH.fn PWH.fn1 PWH.fn2; simp)
  obtain ⟨fd__law_lowest, F__law_lowest⟩ := cd.defs (d := PWH.d__law_lowest) (by unfold PWH.fn PWH.fn1 PWH.fn2; simp)
  obtain ⟨fd__law_fraction, F__law_fraction⟩ := cd.defs (d := PWH.d__law_fraction) (by unfold PWH.fn PWH.fn1 PWH.fn2; simp)
  obtain ⟨fd__law_plus, F__law_plus⟩ := cd.defs (d := PWH.d__law_plus) (by unfold PWH.fn PWH.fn1 PWH.fn2; simp)
  obtain ⟨fd__law_times, F__law_times⟩ := cd.defs (d := PWH.d__law_times) (by unfold PWH.fn PWH.fn1 PWH.fn2; simp)
  obtain ⟨fd__law_order, F__law_order⟩ := cd.defs (d := PWH.d__law_order) (by unfold PWH.fn PWH.fn1 PWH.fn2; simp)
  obtain ⟨fd__law_worth, F__law_worth⟩ := cd.defs (d := PWH.d__law_worth) (by unfold PWH.fn PWH.fn1 PWH.fn2; simp)
  obtain ⟨fd__law_unknown, F__law_unknown⟩ := cd.defs (d := PWH.d__law_unknown) (by unfold PWH.fn PWH.fn1 PWH.fn2; simp)
  obtain ⟨fd__law_value, F__law_value⟩ := cd.defs (d := PWH.d__law_value) (by unfold PWH.fn PWH.fn1 PWH.fn2; simp)
  obtain ⟨fd__law_pairs, F__law_pairs⟩ := cd.defs (d := PWH.d__law_pairs) (by unfold PWH.fn PWH.fn1 PWH.fn2; simp)
  obtain ⟨fd__law_bound, F__law_bound⟩ := cd.defs (d := PWH.d__law_bound) (by unfold PWH.fn PWH.fn1 PWH.fn2; simp)
  obtain ⟨fd__law_rows, F__law_rows⟩ := cd.defs (d := PWH.d__law_rows) (by unfold PWH.fn PWH.fn1 PWH.fn2; simp)
  obtain ⟨fd__law_goal, F__law_goal⟩ := cd.defs (d := PWH.d__law_goal) (by unfold PWH.fn PWH.fn1 PWH.fn2; simp)
  obtain ⟨fd__law_stands, F__law_stands⟩ := cd.defs (d := PWH.d__law_stands) (by unfold PWH.fn PWH.fn1 PWH.fn2; simp)
  obtain ⟨fd__law_loosely_meets, F__law_loosely_meets⟩ := cd.defs (d := PWH.d__law_loosely_meets) (by unfold PWH.fn PWH.fn1 PWH.fn2; simp)
  obtain ⟨fd__law_turned, F__law_turned⟩ := cd.defs (d := PWH.d__law_turned) (by unfold PWH.fn PWH.fn1 PWH.fn2; simp)
  obtain ⟨fd__law_minus, F__law_minus⟩ := cd.defs (d := PWH.d__law_minus) (by unfold PWH.fn PWH.fn1 PWH.fn2; simp)
  obtain ⟨fd__law_edges, F__law_edges⟩ := cd.defs (d := PWH.d__law_edges) (by unfold PWH.fn PWH.fn1 PWH.fn2; simp)
  obtain ⟨fd__law_over, F__law_over⟩ := cd.defs (d := PWH.d__law_over) (by unfold PWH.fn PWH.fn1 PWH.fn2; simp)
  obtain ⟨fd__law_crossing, F__law_crossing⟩ := cd.defs (d := PWH.d__law_crossing) (by unfold PWH.fn PWH.fn1 PWH.fn2; simp)
  obtain ⟨fd__law_best, F__law_best⟩ := cd.defs (d := PWH.d__law_best) (by unfold PWH.fn PWH.fn1 PWH.fn2; simp)
  obtain ⟨fd__law_alike, F__law_alike⟩ := cd.defs (d := PWH.d__law_alike) (by unfold PWH.fn PWH.fn1 PWH.fn2; simp)
  exact ⟨{
    shared := ⟨_, fd_shared, F_shared, He.glo_ok X G (fact (.glo "shared") (by unfold PWH.fa PWH.fa1 PWH.fa2 PWH.fa3; simp))⟩
    fraction := ⟨_, fd_fraction, F_fraction, He.glo_ok X G (fact (.glo "fraction") (by unfold PWH.fa PWH.fa1 PWH.fa2 PWH.fa3; simp))⟩
    plus := ⟨_, fd_plus, F_plus, He.glo_ok X G (fact (.glo "plus") (by unfold PWH.fa PWH.fa1 PWH.fa2 PWH.fa3; simp))⟩
    minus := ⟨_, fd_minus, F_minus, He.glo_ok X G (fact (.glo "minus") (by unfold PWH.fa PWH.fa1 PWH.fa2 PWH.fa3; simp))⟩
    times := ⟨_, fd_times, F_times, He.glo_ok X G (fact (.glo "times") (by unfold PWH.fa PWH.fa1 PWH.fa2 PWH.fa3; simp))⟩
    sign := ⟨_, fd_sign, F_sign, He.glo_ok X G (fact (.glo "sign") (by unfold PWH.fa PWH.fa1 PWH.fa2 PWH.fa3; simp))⟩
    turned := ⟨_, fd_turned, F_turned, He.glo_ok X G (fact (.glo "turned") (by unfold PWH.fa PWH.fa1 PWH.fa2 PWH.fa3; simp))⟩
    lessened := ⟨_, fd_lessened, F_lessened, He.glo_ok X G (fact (.glo "lessened") (by unfold PWH.fa PWH.fa1 PWH.fa2 PWH.fa3; simp))⟩
    turned_row := ⟨_, fd_turned_row, F_turned_row, He.glo_ok X G (fact (.glo "turned_row") (by unfold PWH.fa PWH.fa1 PWH.fa2 PWH.fa3; simp))⟩
    pivoted := ⟨_, fd_pivoted, F_pivoted, He.glo_ok X G (fact (.glo "pivoted") (by unfold PWH.fa PWH.fa1 PWH.fa2 PWH.fa3; simp))⟩
    value := ⟨_, fd_value, F_value, He.glo_ok X G (fact (.glo "value") (by unfold PWH.fa PWH.fa1 PWH.fa2 PWH.fa3; simp))⟩
    lines_of := ⟨_, fd_lines_of, F_lines_of, He.glo_ok X G (fact (.glo "lines_of") (by unfold PWH.fa PWH.fa1 PWH.fa2 PWH.fa3; simp))⟩
    upright := ⟨_, fd_upright, F_upright, He.glo_ok X G (fact (.glo "upright") (by unfold PWH.fa PWH.fa1 PWH.fa2 PWH.fa3; simp))⟩
    over_one := ⟨_, fd_over_one, F_over_one, He.glo_ok X G (fact (.glo "over_one") (by unfold PWH.fa PWH.fa1 PWH.fa2 PWH.fa3; simp))⟩
    loose := ⟨_, fd_loose, F_loose, He.glo_ok X G (fact (.glo "loose") (by unfold PWH.fa PWH.fa1 PWH.fa2 PWH.fa3; simp))⟩
    _law_at := ⟨_, fd__law_at, F__law_at, He.glo_ok X G (fact (.glo "_law_at") (by unfold PWH.fa PWH.fa1 PWH.fa2 PWH.fa3; simp))⟩
    _law_mixed := ⟨_, fd__law_mixed, F__law_mixed, He.glo_ok X G (fact (.glo "_law_mixed") (by unfold PWH.fa PWH.fa1 PWH.fa2 PWH.fa3; simp))⟩
    _law_lowest := ⟨_, fd__law_lowest, F__law_lowest, He.glo_ok X G (fact (.glo "_law_lowest") (by unfold PWH.fa PWH.fa1 PWH.fa2 PWH.fa3; simp))⟩
    _law_fraction := ⟨_, fd__law_fraction, F__law_fraction, He.glo_ok X G (fact (.glo "_law_fraction") (by unfold PWH.fa PWH.fa1 PWH.fa2 PWH.fa3; simp))⟩
    _law_plus := ⟨_, fd__law_plus, F__law_plus, He.glo_ok X G (fact (.glo "_law_plus") (by unfold PWH.fa PWH.fa1 PWH.fa2 PWH.fa3; simp))⟩
    _law_times := ⟨_, fd__law_times, F__law_times, He.glo_ok X G (fact (.glo "_law_times") (by unfold PWH.fa PWH.fa1 PWH.fa2 PWH.fa3; simp))⟩
    _law_order := ⟨_, fd__law_order, F__law_order, He.glo_ok X G (fact (.glo "_law_order") (by unfold PWH.fa PWH.fa1 PWH.fa2 PWH.fa3; simp))⟩
    _law_worth := ⟨_, fd__law_worth, F__law_worth, He.glo_ok X G (fact (.glo "_law_worth") (by unfold PWH.fa PWH.fa1 PWH.fa2 PWH.fa3; simp))⟩
    _law_unknown := ⟨_, fd__law_unknown, F__law_unknown, He.glo_ok X G (fact (.glo "_law_unknown") (by unfold PWH.fa PWH.fa1 PWH.fa2 PWH.fa3; simp))⟩
    _law_value := ⟨_, fd__law_value, F__law_value, He.glo_ok X G (fact (.glo "_law_value") (by unfold PWH.fa PWH.fa1 PWH.fa2 PWH.fa3; simp))⟩
    _law_pairs := ⟨_, fd__law_pairs, F__law_pairs, He.glo_ok X G (fact (.glo "_law_pairs") (by unfold PWH.fa PWH.fa1 PWH.fa2 PWH.fa3; simp))⟩
    _law_bound := ⟨_, fd__law_bound, F__law_bound, He.glo_ok X G (fact (.glo "_law_bound") (by unfold PWH.fa PWH.fa1 PWH.fa2 PWH.fa3; simp))⟩
    _law_rows := ⟨_, fd__law_rows, F__law_rows, He.glo_ok X G (fact (.glo "_law_rows") (by unfold PWH.fa PWH.fa1 PWH.fa2 PWH.fa3; simp))⟩
    _law_goal := ⟨_, fd__law_goal, F__law_goal, He.glo_ok X G (fact (.glo "_law_goal") (by unfold PWH.fa PWH.fa1 PWH.fa2 PWH.fa3; simp))⟩
    _law_stands := ⟨_, fd__law_stands, F__law_stands, He.glo_ok X G (fact (.glo "_law_stands") (by unfold PWH.fa PWH.fa1 PWH.fa2 PWH.fa3; simp))⟩
    _law_loosely_meets := ⟨_, fd__law_loosely_meets, F__law_loosely_meets, He.glo_ok X G (fact (.glo "_law_loosely_meets") (by unfold PWH.fa PWH.fa1 PWH.fa2 PWH.fa3; simp))⟩
    _law_turned := ⟨_, fd__law_turned, F__law_turned, He.glo_ok X G (fact (.glo "_law_turned") (by unfold PWH.fa PWH.fa1 PWH.fa2 PWH.fa3; simp))⟩
    _law_minus := ⟨_, fd__law_minus, F__law_minus, He.glo_ok X G (fact (.glo "_law_minus") (by unfold PWH.fa PWH.fa1 PWH.fa2 PWH.fa3; simp))⟩
    _law_edges := ⟨_, fd__law_edges, F__law_edges, He.glo_ok X G (fact (.glo "_law_edges") (by unfold PWH.fa PWH.fa1 PWH.fa2 PWH.fa3; simp))⟩
    _law_over := ⟨_, fd__law_over, F__law_over, He.glo_ok X G (fact (.glo "_law_over") (by unfold PWH.fa PWH.fa1 PWH.fa2 PWH.fa3; simp))⟩
    _law_crossing := ⟨_, fd__law_crossing, F__law_crossing, He.glo_ok X G (fact (.glo "_law_crossing") (by unfold PWH.fa PWH.fa1 PWH.fa2 PWH.fa3; simp))⟩
    _law_best := ⟨_, fd__law_best, F__law_best, He.glo_ok X G (fact (.glo "_law_best") (by unfold PWH.fa PWH.fa1 PWH.fa2 PWH.fa3; simp))⟩
    _law_alike := ⟨_, fd__law_alike, F__law_alike, He.glo_ok X G (fact (.glo "_law_alike") (by unfold PWH.fa PWH.fa1 PWH.fa2 PWH.fa3; simp))⟩
    cF := He.ga K "Frame"
    cW := He.ga K "Work"
    gF := He.glo_ok X G (fact (.glo "Frame") (by unfold PWH.fa PWH.fa1 PWH.fa2 PWH.fa3; simp))
    gW := He.glo_ok X G (fact (.glo "Work") (by unfold PWH.fa PWH.fa1 PWH.fa2 PWH.fa3; simp))
    clF := He.cls_ok (fact (.cls "Frame") (by unfold PWH.fa PWH.fa1 PWH.fa2 PWH.fa3; simp))
    clW := He.cls_ok (fact (.cls "Work") (by unfold PWH.fa PWH.fa1 PWH.fa2 PWH.fa3; simp))
    nF_bases := He.noat_ok (fact (.noat "Frame" "bases") (by unfold PWH.fa PWH.fa1 PWH.fa2 PWH.fa3; simp))
    nF_parts := He.noat_ok (fact (.noat "Frame" "parts") (by unfold PWH.fa PWH.fa1 PWH.fa2 PWH.fa3; simp))
    nF_many := He.noat_ok (fact (.noat "Frame" "many") (by unfold PWH.fa PWH.fa1 PWH.fa2 PWH.fa3; simp))
    nW_lines := He.noat_ok (fact (.noat "Work" "lines") (by unfold PWH.fa PWH.fa1 PWH.fa2 PWH.fa3; simp))
    nW_border := He.noat_ok (fact (.noat "Work" "border") (by unfold PWH.fa PWH.fa1 PWH.fa2 PWH.fa3; simp))
    nW_own := He.noat_ok (fact (.noat "Work" "own") (by unfold PWH.fa PWH.fa1 PWH.fa2 PWH.fa3; simp))
    nW_basis := He.noat_ok (fact (.noat "Work" "basis") (by unfold PWH.fa PWH.fa1 PWH.fa2 PWH.fa3; simp))
    nW_end := He.noat_ok (fact (.noat "Work" "end") (by unfold PWH.fa PWH.fa1 PWH.fa2 PWH.fa3; simp))
    nW_tableau := He.noat_ok (fact (.noat "Work" "tableau") (by unfold PWH.fa PWH.fa1 PWH.fa2 PWH.fa3; simp))
    Frame_init := ⟨_, fd_Frame_init, F_Frame_init, He.mkr_ok (fact (.mkr "Frame") (by unfold PWH.fa PWH.fa1 PWH.fa2 PWH.fa3; simp))⟩
    Frame_add := ⟨_, fd_Frame_add, F_Frame_add, He.meth_ok (fact (.meth "Frame" "add") (by unfold PWH.fa PWH.fa1 PWH.fa2 PWH.fa3; simp))⟩
    Frame_numbers := ⟨_, fd_Frame_numbers, F_Frame_numbers, He.meth_ok (fact (.meth "Frame" "numbers") (by unfold PWH.fa PWH.fa1 PWH.fa2 PWH.fa3; simp))⟩
    Frame_at_bases := ⟨_, fd_Frame_at_bases, F_Frame_at_bases, He.meth_ok (fact (.meth "Frame" "at_bases") (by unfold PWH.fa PWH.fa1 PWH.fa2 PWH.fa3; simp))⟩
    Frame_joined := ⟨_, fd_Frame_joined, F_Frame_joined, He.meth_ok (fact (.meth "Frame" "joined") (by unfold PWH.fa PWH.fa1 PWH.fa2 PWH.fa3; simp))⟩
    Work_init := ⟨_, fd_Work_init, F_Work_init, He.mkr_ok (fact (.mkr "Work") (by unfold PWH.fa PWH.fa1 PWH.fa2 PWH.fa3; simp))⟩
    Work_full_rows := ⟨_, fd_Work_full_rows, F_Work_full_rows, He.meth_ok (fact (.meth "Work" "full_rows") (by unfold PWH.fa PWH.fa1 PWH.fa2 PWH.fa3; simp))⟩
    Work_turn := ⟨_, fd_Work_turn, F_Work_turn, He.meth_ok (fact (.meth "Work" "turn") (by unfold PWH.fa PWH.fa1 PWH.fa2 PWH.fa3; simp))⟩
    Work_leaving := ⟨_, fd_Work_leaving, F_Work_leaving, He.meth_ok (fact (.meth "Work" "leaving") (by unfold PWH.fa PWH.fa1 PWH.fa2 PWH.fa3; simp))⟩
    Work_wrong := ⟨_, fd_Work_wrong, F_Work_wrong, He.meth_ok (fact (.meth "Work" "wrong") (by unfold PWH.fa PWH.fa1 PWH.fa2 PWH.fa3; simp))⟩
    Work_lower := ⟨_, fd_Work_lower, F_Work_lower, He.meth_ok (fact (.meth "Work" "lower") (by unfold PWH.fa PWH.fa1 PWH.fa2 PWH.fa3; simp))⟩
    Work_settle := ⟨_, fd_Work_settle, F_Work_settle, He.meth_ok (fact (.meth "Work" "settle") (by unfold PWH.fa PWH.fa1 PWH.fa2 PWH.fa3; simp))⟩
    Work_prices := ⟨_, fd_Work_prices, F_Work_prices, He.meth_ok (fact (.meth "Work" "prices") (by unfold PWH.fa PWH.fa1 PWH.fa2 PWH.fa3; simp))⟩
    Work_standing := ⟨_, fd_Work_standing, F_Work_standing, He.meth_ok (fact (.meth "Work" "standing") (by unfold PWH.fa PWH.fa1 PWH.fa2 PWH.fa3; simp))⟩
    Work_along := ⟨_, fd_Work_along, F_Work_along, He.meth_ok (fact (.meth "Work" "along") (by unfold PWH.fa PWH.fa1 PWH.fa2 PWH.fa3; simp))⟩
    m_range := He.free_ok X G (fact (.free "range") (by unfold PWH.fa PWH.fa1 PWH.fa2 PWH.fa3; simp))
    m_len := He.free_ok X G (fact (.free "len") (by unfold PWH.fa PWH.fa1 PWH.fa2 PWH.fa3; simp))
    m_abs := He.free_ok X G (fact (.free "abs") (by unfold PWH.fa PWH.fa1 PWH.fa2 PWH.fa3; simp))
    m_int := He.free_ok X G (fact (.free "int") (by unfold PWH.fa PWH.fa1 PWH.fa2 PWH.fa3; simp))
    m_tuple := He.free_ok X G (fact (.free "tuple") (by unfold PWH.fa PWH.fa1 PWH.fa2 PWH.fa3; simp))
    m_zip := He.free_ok X G (fact (.free "zip") (by unfold PWH.fa PWH.fa1 PWH.fa2 PWH.fa3; simp))
    m_enumerate := He.free_ok X G (fact (.free "enumerate") (by unfold PWH.fa PWH.fa1 PWH.fa2 PWH.fa3; simp))
    m_dict := He.free_ok X G (fact (.free "dict") (by unfold PWH.fa PWH.fa1 PWH.fa2 PWH.fa3; simp))
    m_list := He.free_ok X G (fact (.free "list") (by unfold PWH.fa PWH.fa1 PWH.fa2 PWH.fa3; simp))
    nought := He.ga K "NOUGHT"
    one := He.ga K "ONE"
    gnought := He.glo_ok X G (fact (.glo "NOUGHT") (by unfold PWH.fa PWH.fa1 PWH.fa2 PWH.fa3; simp))
    gone := He.glo_ok X G (fact (.glo "ONE") (by unfold PWH.fa PWH.fa1 PWH.fa2 PWH.fa3; simp))
    other := He.ga K "OTHER_SIGN"
    gother := He.glo_ok X G (fact (.glo "OTHER_SIGN") (by unfold PWH.fa PWH.fa1 PWH.fa2 PWH.fa3; simp))
    kle := dct "<=" ">=" (by simp)
    kge := dct ">=" "<=" (by simp)
    keq := dct "=" "=" (by simp)
    tnought := fun H => He.tupB_ok ex1 H
    tone := fun H => He.tupB_ok ex2 H }⟩
theorem facts {P : Program} {f : Addr} (X : K.In h) (G : h.Ns mainGlobals mg) (hfa : mg ("law" : Str) = some (.ref f)) (c : He.SaysX PWH.fa PWH.fn PWH.ts [] PWH.ex w h K) :
    ∃ fd : FuncData, (∀ (s : Shared) (v : Value), BindsTo s fd ⟨[v], []⟩ [("_law_script", v)]) ∧ ∀ base : Heap, K.In base → base.Ns mainGlobals mg → FnOk P w K mg base CX0 9 f fd ["_law_script"] (PX.spLaw K) := by
  obtain ⟨T⟩ := txt X G c
  obtain ⟨fd, F⟩ := c.t.d.defs (d := PWH.d_law) (by unfold PWH.fn PWH.fn1 PWH.fn2; simp)
  have e := hfa.symm.trans (He.glo_ok X G (c.t.d.facts (f := .glo "law") (by unfold PWH.fa PWH.fa1 PWH.fa2 PWH.fa3; simp)))
  cases e
  have b := FunD.bindsA (ps := ["_law_script"]) F fun _ _ _ _ _ _ us hl => match us, hl with | [_], _ => rfl
  exact ⟨fd, fun s v => b s [v] rfl, fun base _ _ => PX.ok_law T F⟩
end
end PWE
open PySem PySem.W PySem.Calls PyProof.Rows
theorem PySem.Challenge.cw_planwell_k20_whole_corners_tried_holds : PySem.Challenge.rw_planwell_k20_whole_corners_tried.Holds := by
  w_on; o_law
  refine HandSHeadRun.head_any (r := OpenLaw.row PySem.Challenge.rw_planwell_k20_whole_corners_tried) (q := view (OpenLaw.row PySem.Challenge.rw_planwell_k20_whole_corners_tried).prog [51]) (H := PWH.hk) (ob := PWH.ob) (M := 3000) (loose := PWH.lo) (d := HandSHeadRun.topDef (OpenLaw.row PySem.Challenge.rw_planwell_k20_whole_corners_tried).prog 51) (kwd := []) PWH.ob_eq
    (by kernel_rfl) (fun s => by kernel_rfl) PWH.run (by kernel_rfl) (by kernel_rfl) (by kernel_rfl) (by rfl) (by first | assumption | decide +kernel) (by decide +kernel) ⟨rfl, rfl, rfl, rfl, rfl, by decide +kernel⟩ ?hw ?hc
  case hw => w_witness2
  case hc =>
    refine L2.walk_ofE (l := PySem.Challenge.rw_planwell_k20_whole_corners_tried) (n := 63) (k := 9) (x := "_law_script") (CX := L2.CX0) rfl (by decide) (by kernel_rfl) ⟨rfl, by decide, by decide⟩ ?F (fun _ _ _ _ z => z)
    intro w mg fa h Y G hmg0
    obtain ⟨K, KX, c⟩ := Y
    have hmg : mg ("law" : PySem.Str) = some (.ref fa) := by
      have e : (HandSHeadRun.topDef (OpenLaw.row PySem.Challenge.rw_planwell_k20_whole_corners_tried).prog 51).name = ("law" : PySem.Str) := by kernel_rfl
      rw [← e]
      exact hmg0
    obtain ⟨fd, hb, hF⟩ := PWE.facts (P := (PySem.Challenge.rw_planwell_k20_whole_corners_tried).prog) (w := w) KX G hmg c
    exact ⟨K, fd, PX.spLaw K, KX, hb, fun H a ns hl _ hS => ⟨a, ns, rfl, hS, fun _ => rfl⟩, hF⟩
