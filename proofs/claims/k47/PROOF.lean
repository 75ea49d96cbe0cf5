import PyProof.Rows.All
import Wide.All
import OpenK.AllK
import Wide.FinOn
import HandS.ForMost
import HandS.Wide
import HandS.Steps
import KE.KeyNested
import KE.KDictKeyed
import KE.KDictSum
import KE.LtSeq
import KE.KSortTupAny
import HandS.Sort
import HandS.Deep
import HandS.More
import PyProof.ReprRoads
import HandS.IsInst
import PySem.Challenge.RW_everyfork_k47_whole_sums_found
section
/-! Sums of rationals; dictionaries; a pivot keeps the null space; Bland's rule ends. -/
namespace K47

/-- the sum over i < n -/
def sm : Nat → (Nat → Rat) → Rat
  | 0, _ => 0
  | n + 1, f => sm n f + f n

theorem sm_congr {f g : Nat → Rat} : ∀ {n : Nat}, (∀ i, i < n → f i = g i) → sm n f = sm n g
  | 0, _ => rfl
  | n + 1, h => by
    show sm n f + f n = sm n g + g n
    rw [sm_congr fun i hi => h i (by omega), h n (by omega)]
theorem sm_add {f g : Nat → Rat} : ∀ n, sm n (fun i => f i + g i) = sm n f + sm n g
  | 0 => by show (0 : Rat) = 0 + 0; grind
  | n + 1 => by
    show sm n (fun i => f i + g i) + (f n + g n) = (sm n f + f n) + (sm n g + g n)
    rw [sm_add n]; grind
theorem sm_sub {f g : Nat → Rat} : ∀ n, sm n (fun i => f i - g i) = sm n f - sm n g
  | 0 => by show (0 : Rat) = 0 - 0; grind
  | n + 1 => by
    show sm n (fun i => f i - g i) + (f n - g n) = (sm n f + f n) - (sm n g + g n)
    rw [sm_sub n]; grind
theorem sm_mul {f : Nat → Rat} (c : Rat) : ∀ n, sm n (fun i => c * f i) = c * sm n f
  | 0 => by simp [sm]
  | n + 1 => by
    show sm n (fun i => c * f i) + c * f n = c * (sm n f + f n)
    rw [sm_mul c n]; grind
theorem sm_zero {f : Nat → Rat} {n : Nat} (h : ∀ i, i < n → f i = 0) : sm n f = 0 := by
  rw [sm_congr (g := fun _ => 0 * 0) (fun i hi => by rw [h i hi]; grind), sm_mul]; grind
theorem sm_single {f : Nat → Rat} {j : Nat} : ∀ {n : Nat}, j < n → (∀ i, i < n → i ≠ j → f i = 0) → sm n f = f j
  | n + 1, hj, h => by
    show sm n f + f n = f j
    by_cases e : j = n
    · subst e
      rw [sm_zero fun i hi => h i (by omega) (by omega)]; grind
    · rw [sm_single (n := n) (by omega) fun i hi => h i (by omega), h n (by omega) (fun z => e z.symm)]; grind
theorem sm_comm {f : Nat → Nat → Rat} (m : Nat) : ∀ n, sm n (fun i => sm m (fun j => f i j)) = sm m (fun j => sm n (fun i => f i j))
  | 0 => by rw [sm_zero (n := m) (f := fun j => sm 0 (fun i => f i j)) fun _ _ => rfl]; rfl
  | n + 1 => by
    show sm n (fun i => sm m (fun j => f i j)) + sm m (fun j => f n j) = sm m (fun j => sm n (fun i => f i j) + f n j)
    rw [sm_comm m n, sm_add]
theorem sm_nonneg {f : Nat → Rat} : ∀ {n : Nat}, (∀ i, i < n → 0 ≤ f i) → 0 ≤ sm n f
  | 0, _ => by show (0 : Rat) ≤ 0; grind
  | n + 1, h => by
    have h1 := sm_nonneg (n := n) (f := f) fun i hi => h i (by omega)
    have h2 := h n (by omega)
    show 0 ≤ sm n f + f n
    grind
theorem sm_nonpos {f : Nat → Rat} : ∀ {n : Nat}, (∀ i, i < n → f i ≤ 0) → sm n f ≤ 0
  | 0, _ => by show (0 : Rat) ≤ 0; grind
  | n + 1, h => by
    have h1 := sm_nonpos (n := n) (f := f) fun i hi => h i (by omega)
    have h2 := h n (by omega)
    show sm n f + f n ≤ 0
    grind
theorem sm_neg_ex {f : Nat → Rat} : ∀ {n : Nat}, sm n f < 0 → ∃ i, i < n ∧ f i < 0
  | 0, h => by
    have h' : (0 : Rat) < 0 := h
    grind
  | n + 1, h => by
    by_cases e : f n < 0
    · exact ⟨n, by omega, e⟩
    · have h' : sm n f + f n < 0 := h
      obtain ⟨i, hi, q⟩ := sm_neg_ex (n := n) (f := f) (by grind)
      exact ⟨i, by omega, q⟩
theorem sm_pos_ex {f : Nat → Rat} {n : Nat} (h : 0 < sm n f) : ∃ i, i < n ∧ 0 < f i := by
  obtain ⟨i, hi, q⟩ := sm_neg_ex (n := n) (f := fun i => (-1) * f i) (by rw [sm_mul]; grind)
  exact ⟨i, hi, by grind⟩
theorem sm_eq_zero {f : Nat → Rat} {n : Nat} (h0 : ∀ i, i < n → 0 ≤ f i) (h : sm n f = 0) : ∀ i, i < n → f i = 0 := by
  induction n with
  | zero => intro i hi; omega
  | succ n ih =>
    have h' : sm n f + f n = 0 := h
    have h1 := sm_nonneg (n := n) (f := f) fun i hi => h0 i (by omega)
    have h2 := h0 n (by omega)
    intro i hi
    by_cases e : i = n
    · subst e; grind
    · exact ih (fun i hi => h0 i (by omega)) (by grind) i (by omega)

/-- 1 at one place -/
def dl (x y : Nat) : Rat := if x = y then 1 else 0
theorem dl_same (x : Nat) : dl x x = 1 := if_pos rfl
theorem dl_ne {x y : Nat} (h : x ≠ y) : dl x y = 0 := if_neg h
theorem sm_dl {g : Nat → Rat} {n c : Nat} (hc : c < n) : sm n (fun x => g x * dl x c) = g c := by
  rw [sm_single (j := c) hc fun i _ h => by rw [dl_ne h]; grind, dl_same]; grind

/-- the null vectors of m rows over N columns -/
def Null (m N : Nat) (a : Nat → Nat → Rat) (v : Nat → Rat) : Prop := ∀ k, k < m → sm N (fun c => a k c * v c) = 0

/-- a dictionary: each basic column is a unit column, and the null space is the first one's -/
structure Dic (m N : Nat) (a0 a : Nat → Nat → Rat) (b : Nat → Nat) : Prop where
  lt : ∀ k, k < m → b k < N
  one : ∀ k, k < m → a k (b k) = 1
  zero : ∀ k l, k < m → l < m → k ≠ l → a k (b l) = 0
  null : ∀ v, Null m N a v ↔ Null m N a0 v

theorem Dic.inj {m N : Nat} {a0 a : Nat → Nat → Rat} {b : Nat → Nat} (D : Dic m N a0 a b) {k l : Nat} (hk : k < m) (hl : l < m) (e : b k = b l) : k = l := by
  apply Classical.byContradiction
  intro h
  have h1 := D.zero k l hk hl h
  rw [← e, D.one k hk] at h1
  grind

/-- the vector that goes with a column -/
def vec (m : Nat) (a : Nat → Nat → Rat) (b : Nat → Nat) (c : Nat) : Nat → Rat := fun x => dl x c - sm m (fun k => a k c * dl x (b k))
theorem form_vec {m N : Nat} {a0 a : Nat → Nat → Rat} {b : Nat → Nat} (D : Dic m N a0 a b) {c : Nat} (hc : c < N) (g : Nat → Rat) :
    sm N (fun x => g x * vec m a b c x) = g c - sm m (fun k => a k c * g (b k)) := by
  have e1 : sm N (fun x => g x * vec m a b c x) = sm N (fun x => g x * dl x c - sm m (fun k => a k c * (g x * dl x (b k)))) := sm_congr fun x _ => by
    show g x * (dl x c - sm m (fun k => a k c * dl x (b k))) = _
    have e2 : sm m (fun k => a k c * (g x * dl x (b k))) = g x * sm m (fun k => a k c * dl x (b k)) := by
      rw [← sm_mul]; exact sm_congr fun k _ => by grind
    rw [e2]; grind
  rw [e1, sm_sub, sm_dl hc, sm_comm]
  congr 1
  refine sm_congr fun k hk => ?_
  rw [sm_mul, sm_dl (D.lt k hk)]
theorem vec_null {m N : Nat} {a0 a : Nat → Nat → Rat} {b : Nat → Nat} (D : Dic m N a0 a b) {c : Nat} (hc : c < N) : Null m N a (vec m a b c) := fun l hl => by
  rw [form_vec D hc, sm_single (j := l) hl fun k hk h => by rw [D.zero l k hl hk (Ne.symm h)]; grind, D.one l hl]
  grind
theorem Dic.unique {m N : Nat} {a0 a a' : Nat → Nat → Rat} {b b' : Nat → Nat} (D : Dic m N a0 a b) (D' : Dic m N a0 a' b') (hb : ∀ k, k < m → b k = b' k) {k c : Nat} (hk : k < m) (hc : c < N) : a k c = a' k c := by
  have h1 : Null m N a' (vec m a b c) := (D'.null _).mpr ((D.null _).mp (vec_null D hc))
  have h2 := h1 k hk
  rw [form_vec D hc, sm_single (j := k) hk fun l hl h => by rw [hb l hl, D'.zero k l hk hl (Ne.symm h)]; grind, hb k hk, D'.one k hk] at h2
  grind

def piv (a : Nat → Nat → Rat) (r s : Nat) : Nat → Nat → Rat := fun k c => if k = r then a r c / a r s else a k c - a k s * (a r c / a r s)
def upB (b : Nat → Nat) (r s : Nat) : Nat → Nat := fun k => if k = r then s else b k
theorem piv_r {a : Nat → Nat → Rat} {r s c : Nat} : piv a r s r c = a r c / a r s := if_pos rfl
theorem piv_k {a : Nat → Nat → Rat} {r s k c : Nat} (h : k ≠ r) : piv a r s k c = a k c - a k s * (a r c / a r s) := if_neg h
theorem upB_r {b : Nat → Nat} {r s : Nat} : upB b r s r = s := if_pos rfl
theorem upB_k {b : Nat → Nat} {r s k : Nat} (h : k ≠ r) : upB b r s k = b k := if_neg h

theorem Dic.pivot {m N : Nat} {a0 a : Nat → Nat → Rat} {b : Nat → Nat} (D : Dic m N a0 a b) {r s : Nat} (hr : r < m) (hs : s < N) (h : a r s ≠ 0) : Dic m N a0 (piv a r s) (upB b r s) := by
  have hz : ∀ k l, k < m → l < m → k ≠ l → l ≠ r → piv a r s k (b l) = 0 := fun k l hk hl e e' => by
    have z1 := D.zero k l hk hl e
    have z2 := D.zero r l hr hl (Ne.symm e')
    by_cases er : k = r
    · rw [er, piv_r, z2]; grind
    · rw [piv_k er, z1, z2]; grind
  refine ⟨fun k hk => ?_, fun k hk => ?_, fun k l hk hl e => ?_, fun v => (Iff.trans ?_ (D.null v))⟩
  · by_cases e : k = r
    · rw [e, upB_r]; exact hs
    · rw [upB_k e]; exact D.lt k hk
  · by_cases e : k = r
    · rw [e, upB_r, piv_r]; grind
    · rw [upB_k e, piv_k e, D.one k hk, D.zero r k hr hk (Ne.symm e)]; grind
  · by_cases e' : l = r
    · rw [e', upB_r, piv_k (fun z => e (z.trans e'.symm))]; grind
    · rw [upB_k e']; exact hz k l hk hl e e'
  · have e1 : ∀ k, k ≠ r → sm N (fun c => piv a r s k c * v c) = sm N (fun c => a k c * v c) - (a k s / a r s) * sm N (fun c => a r c * v c) := fun k hk => by
      rw [← sm_mul, ← sm_sub]
      exact sm_congr fun c _ => by rw [piv_k hk]; grind
    have e2 : sm N (fun c => piv a r s r c * v c) = (1 / a r s) * sm N (fun c => a r c * v c) := by
      rw [← sm_mul]
      exact sm_congr fun c _ => by rw [piv_r]; grind
    constructor
    · intro hn
      have h1 := hn r hr
      rw [e2] at h1
      have h2 : sm N (fun c => a r c * v c) = 0 := by grind
      intro k hk
      by_cases e : k = r
      · rw [e]; exact h2
      · have h3 := hn k hk
        rw [e1 k e, h2] at h3
        grind
    · intro hn k hk
      have h2 := hn r hr
      by_cases e : k = r
      · rw [e, e2, h2]; grind
      · rw [e1 k e, h2, hn k hk]; grind

/-- the helpers' rows together: helpers' columns are those above n -/
def gain (m n : Nat) (a : Nat → Nat → Rat) (b : Nat → Nat) (c : Nat) : Rat := sm m (fun k => if n < b k then a k c else 0)

theorem gain_null {m N n : Nat} {a : Nat → Nat → Rat} {b : Nat → Nat} {v : Nat → Rat} (h : Null m N a v) : sm N (fun c => gain m n a b c * v c) = 0 := by
  have e : sm N (fun c => gain m n a b c * v c) = sm N (fun c => sm m (fun k => if n < b k then a k c * v c else 0)) := sm_congr fun c _ => by
    show sm m (fun k => if n < b k then a k c else 0) * v c = _
    have e2 : sm m (fun k => if n < b k then a k c else 0) * v c = v c * sm m (fun k => if n < b k then a k c else 0) := by grind
    rw [e2, ← sm_mul]
    exact sm_congr fun k _ => by split <;> grind
  rw [e, sm_comm]
  refine sm_zero fun k hk => ?_
  by_cases hb : n < b k
  · rw [sm_congr (g := fun c => a k c * v c) fun c _ => if_pos hb]; exact h k hk
  · exact sm_zero fun c _ => if_neg hb
theorem gain_basic {m N n : Nat} {a0 a : Nat → Nat → Rat} {b : Nat → Nat} (D : Dic m N a0 a b) {l : Nat} (hl : l < m) : gain m n a b (b l) = if n < b l then 1 else 0 := by
  show sm m (fun k => if n < b k then a k (b l) else 0) = _
  rw [sm_single (j := l) hl fun k hk h => by rw [D.zero k l hk hl h]; split <;> rfl, D.one l hl]
theorem gain_piv {m n : Nat} {a : Nat → Nat → Rat} {b : Nat → Nat} {r s : Nat} (hr : r < m) (hs : s ≤ n) (h : a r s ≠ 0) (c : Nat) :
    gain m n (piv a r s) (upB b r s) c = gain m n a b c - gain m n a b s * (a r c / a r s) := by
  show sm m (fun k => if n < upB b r s k then piv a r s k c else 0) = sm m (fun k => if n < b k then a k c else 0) - sm m (fun k => if n < b k then a k s else 0) * (a r c / a r s)
  have e2 : sm m (fun k => if n < b k then a k s else 0) * (a r c / a r s) = (a r c / a r s) * sm m (fun k => if n < b k then a k s else 0) := by grind
  rw [e2, ← sm_mul, ← sm_sub]
  refine sm_congr fun k _ => ?_
  by_cases e : k = r
  · subst e
    rw [upB_r, if_neg (by omega)]
    split <;> grind
  · rw [upB_k e, piv_k e]
    split <;> grind

/-- one turn by Bland's rule -/
structure Stp (m n : Nat) (a : Nat → Nat → Rat) (b : Nat → Nat) (s l : Nat) : Prop where
  hs : s < n
  nb : ∀ k, k < m → b k ≠ s
  gp : 0 < gain m n a b s
  least : ∀ c, c < s → (∀ k, k < m → b k ≠ c) → gain m n a b c ≤ 0
  hl : l < m
  pos : 0 < a l s
  mn : ∀ k, k < m → 0 < a k s → a l n * a k s ≤ a k n * a l s
  tie : ∀ k, k < m → 0 < a k s → a l n * a k s = a k n * a l s → b l ≤ n → b k ≤ n ∧ b l ≤ b k

/-- the right sides stay 0 or more -/
theorem Stp.feas {m n : Nat} {a : Nat → Nat → Rat} {b : Nat → Nat} {s l : Nat} (S : Stp m n a b s l) (h : ∀ k, k < m → 0 ≤ a k n) : ∀ k, k < m → 0 ≤ piv a l s k n := fun k hk => by
  have hp := S.pos
  have h1 : 0 ≤ a l n / a l s := by
    rw [Rat.div_def]
    exact Rat.mul_nonneg (h l S.hl) (Rat.le_of_lt (Rat.inv_pos.mpr hp))
  by_cases e : k = l
  · rw [e, piv_r]; exact h1
  · rw [piv_k e]
    have h2 := h k hk
    by_cases q : 0 < a k s
    · have h3 := S.mn k hk q
      have h4 : a k s * (a l n / a l s) ≤ a k n := by
        have h5 : a k s * (a l n / a l s) * a l s ≤ a k n * a l s := by
          have : a k s * (a l n / a l s) * a l s = a l n * a k s := by grind
          rw [this]; exact h3
        exact Rat.le_of_mul_le_mul_right h5 hp
      grind
    · have h6 : 0 ≤ (-(a k s)) * (a l n / a l s) := Rat.mul_nonneg (by grind) h1
      grind
end K47
end
section
/-! Bland's rule: no run without end. -/
namespace K47

theorem pigeon : ∀ (M : Nat) (f : Nat → Nat), (∀ i, f i < M) → ∃ i j, i < j ∧ f i = f j
  | 0, f, h => absurd (h 0) (by omega)
  | M + 1, f, h => by
    by_cases e : ∃ i, f (i + 1) = f 0
    · obtain ⟨i, q⟩ := e
      exact ⟨0, i + 1, by omega, q.symm⟩
    · have hne : ∀ i, f (i + 1) ≠ f 0 := fun i q => e ⟨i, q⟩
      obtain ⟨i, j, hij, q⟩ := pigeon M (fun i => if f 0 < f (i + 1) then f (i + 1) - 1 else f (i + 1)) fun i => by
        have h1 := h 0
        have h2 := h (i + 1)
        have h3 := hne i
        show (if f 0 < f (i + 1) then f (i + 1) - 1 else f (i + 1)) < M
        split <;> omega
      refine ⟨i + 1, j + 1, by omega, ?_⟩
      have h1 := hne i
      have h2 := hne j
      have q' : (if f 0 < f (i + 1) then f (i + 1) - 1 else f (i + 1)) = (if f 0 < f (j + 1) then f (j + 1) - 1 else f (j + 1)) := q
      split at q' <;> split at q' <;> omega

/-- a row of numbers below N as one number -/
def codeN (N : Nat) (f : Nat → Nat) : Nat → Nat
  | 0 => 0
  | m + 1 => codeN N f m * N + f m
theorem codeN_lt {N : Nat} {f : Nat → Nat} : ∀ {m : Nat}, (∀ k, k < m → f k < N) → codeN N f m < N ^ m
  | 0, _ => by show 0 < 1; omega
  | m + 1, h => by
    have h1 := codeN_lt (m := m) fun k hk => h k (by omega)
    have h2 := h m (by omega)
    show codeN N f m * N + f m < N ^ m * N
    have h3 : (codeN N f m + 1) * N ≤ N ^ m * N := Nat.mul_le_mul_right N h1
    rw [Nat.add_mul] at h3
    omega
theorem codeN_inj {N : Nat} {f g : Nat → Nat} : ∀ {m : Nat}, (∀ k, k < m → f k < N) → (∀ k, k < m → g k < N) → codeN N f m = codeN N g m → ∀ k, k < m → f k = g k
  | 0, _, _, _, k, hk => absurd hk (by omega)
  | m + 1, hf, hg, e, k, hk => by
    have h1 := hf m (by omega)
    have h2 := hg m (by omega)
    have e' : codeN N f m * N + f m = codeN N g m * N + g m := e
    have e1 : f m = g m := by
      have a1 : (codeN N f m * N + f m) % N = f m := by rw [Nat.mul_comm, Nat.mul_add_mod, Nat.mod_eq_of_lt h1]
      have a2 : (codeN N g m * N + g m) % N = g m := by rw [Nat.mul_comm, Nat.mul_add_mod, Nat.mod_eq_of_lt h2]
      rw [e', a2] at a1
      exact a1.symm
    have e2 : codeN N f m = codeN N g m := by
      rw [e1] at e'
      exact Nat.eq_of_mul_eq_mul_right (show 0 < N by omega) (Nat.add_right_cancel e')
    by_cases q : k = m
    · rw [q]; exact e1
    · exact codeN_inj (fun k hk => hf k (by omega)) (fun k hk => hg k (by omega)) e2 k (by omega)

/-- between a place where P holds and a later one where it does not, it falls -/
theorem falls {P : Nat → Prop} {u : Nat} (hu : P u) : ∀ (d : Nat), ¬ P (u + d) → ∃ p, u ≤ p ∧ p < u + d ∧ P p ∧ ¬ P (p + 1)
  | 0, h => absurd hu h
  | d + 1, h => by
    by_cases e : P (u + d)
    · exact ⟨u + d, by omega, by omega, e, h⟩
    · obtain ⟨p, h1, h2, h3⟩ := falls hu d e
      exact ⟨p, h1, by omega, h3⟩
theorem falls_to {P : Nat → Prop} {u v : Nat} (huv : u ≤ v) (hu : P u) (hv : ¬ P v) : ∃ p, u ≤ p ∧ p < v ∧ P p ∧ ¬ P (p + 1) := by
  have e : u + (v - u) = v := by omega
  obtain ⟨p, h1, h2, h3⟩ := falls hu (v - u) (by rw [e]; exact hv)
  exact ⟨p, h1, by omega, h3⟩
theorem both_ways {P : Nat → Prop} {i j u v : Nat} (hij : P i ↔ P j) (h1 : i ≤ u) (h2 : u ≤ j) (h3 : i ≤ v) (h4 : v ≤ j) (hu : P u) (hv : ¬ P v) :
    (∃ p, i ≤ p ∧ p < j ∧ P p ∧ ¬ P (p + 1)) ∧ (∃ q, i ≤ q ∧ q < j ∧ ¬ P q ∧ P (q + 1)) := by
  by_cases hi : P i
  · obtain ⟨p, a1, a2, a3⟩ := falls_to h3 hi hv
    obtain ⟨q, c1, c2, c3, c4⟩ := falls_to (P := fun x => ¬ P x) h4 hv (fun z => z (hij.mp hi))
    exact ⟨⟨p, a1, by omega, a3⟩, ⟨q, by omega, c2, c3, Classical.byContradiction c4⟩⟩
  · obtain ⟨p, a1, a2, a3⟩ := falls_to h2 hu (fun z => hi (hij.mpr z))
    obtain ⟨q, c1, c2, c3, c4⟩ := falls_to (P := fun x => ¬ P x) h1 hi (fun z => z hu)
    exact ⟨⟨p, by omega, a2, a3⟩, ⟨q, c1, by omega, c3, Classical.byContradiction c4⟩⟩

/-- the greatest below n -/
theorem greatest {P : Nat → Prop} : ∀ (n : Nat), (∃ x, x < n ∧ P x) → ∃ t, t < n ∧ P t ∧ ∀ x, x < n → P x → x ≤ t
  | 0, h => by obtain ⟨x, hx, _⟩ := h; omega
  | n + 1, h => by
    by_cases e : P n
    · exact ⟨n, by omega, e, fun x hx _ => by omega⟩
    · obtain ⟨x, hx, px⟩ := h
      have hxn : x ≠ n := fun z => e (z ▸ px)
      obtain ⟨t, h1, h2, h3⟩ := greatest n ⟨x, by omega, px⟩
      refine ⟨t, by omega, h2, fun y hy py => ?_⟩
      have : y ≠ n := fun z => e (z ▸ py)
      exact h3 y (by omega) py

/-- a run of turns -/
structure Run (m n N : Nat) (a0 : Nat → Nat → Rat) (a : Nat → Nat → Nat → Rat) (b : Nat → Nat → Nat) (s l : Nat → Nat) : Prop where
  dic : ∀ i, Dic m N a0 (a i) (b i)
  hn : n < N
  feas : ∀ i k, k < m → 0 ≤ a i k n
  stp : ∀ i, Stp m n (a i) (b i) (s i) (l i)
  na : ∀ i, a (i + 1) = piv (a i) (l i) (s i)
  nb : ∀ i, b (i + 1) = upB (b i) (l i) (s i)
  hlp : ∀ i k, k < m → n < b i k → b i k = n + 1 + k

section
variable {m n N : Nat} {a0 : Nat → Nat → Rat} {a : Nat → Nat → Nat → Rat} {b : Nat → Nat → Nat} {s l : Nat → Nat}

theorem Run.ne (R : Run m n N a0 a b s l) (i : Nat) : a i (l i) (s i) ≠ 0 := by
  have := (R.stp i).pos
  grind
/-- a row whose helper has gone keeps a fact -/
theorem Run.gone (R : Run m n N a0 a b s l) {k : Nat} : ∀ (d i : Nat), b i k ≤ n → b (i + d) k ≤ n
  | 0, _, h => h
  | d + 1, i, h => by
    have h1 := R.gone d i h
    have e := R.nb (i + d)
    show b (i + d + 1) k ≤ n
    rw [e]
    by_cases q : k = l (i + d)
    · rw [q, upB_r]; exact Nat.le_of_lt (R.stp _).hs
    · rw [upB_k q]; exact h1
theorem Run.obj (R : Run m n N a0 a b s l) (i : Nat) : gain m n (a (i + 1)) (b (i + 1)) n = gain m n (a i) (b i) n - gain m n (a i) (b i) (s i) * (a i (l i) n / a i (l i) (s i)) := by
  rw [R.na i, R.nb i]
  exact gain_piv (R.stp i).hl (Nat.le_of_lt (R.stp i).hs) (R.ne i) n
theorem Run.th (R : Run m n N a0 a b s l) (i : Nat) : 0 ≤ a i (l i) n / a i (l i) (s i) := by
  rw [Rat.div_def]
  exact Rat.mul_nonneg (R.feas i _ (R.stp i).hl) (Rat.le_of_lt (Rat.inv_pos.mpr (R.stp i).pos))
theorem Run.down (R : Run m n N a0 a b s l) (i : Nat) : gain m n (a (i + 1)) (b (i + 1)) n ≤ gain m n (a i) (b i) n := by
  rw [R.obj i]
  have h := Rat.mul_nonneg (Rat.le_of_lt (R.stp i).gp) (R.th i)
  grind
theorem Run.downs (R : Run m n N a0 a b s l) (i : Nat) : ∀ d, gain m n (a (i + d)) (b (i + d)) n ≤ gain m n (a i) (b i) n
  | 0 => by show gain m n (a i) (b i) n ≤ _; grind
  | d + 1 => by
    have h1 := R.downs i d
    have h2 := R.down (i + d)
    show gain m n (a (i + d + 1)) (b (i + d + 1)) n ≤ _
    grind

theorem gain_congr {a a' : Nat → Nat → Rat} {b b' : Nat → Nat} {c : Nat} (h : ∀ k, k < m → a k c = a' k c) (hb : ∀ k, k < m → b k = b' k) : gain m n a b c = gain m n a' b' c :=
  sm_congr fun k hk => by rw [h k hk, hb k hk]

theorem no_run (R : Run m n N a0 a b s l) : False := by
  obtain ⟨i, j, hij, e⟩ := pigeon (N ^ m) (fun i => codeN N (b i) m) fun i => codeN_lt (R.dic i).lt
  have hb : ∀ k, k < m → b i k = b j k := codeN_inj (R.dic i).lt (R.dic j).lt e
  -- nothing is gained between
  have hz : gain m n (a i) (b i) n = gain m n (a j) (b j) n := gain_congr (fun k hk => (R.dic i).unique (R.dic j) hb hk R.hn) hb
  have hflat : ∀ p, i ≤ p → p < j → a p (l p) n = 0 := fun p h1 h2 => by
    have d1 := R.downs i (p - i)
    have d2 := R.downs (p + 1) (j - (p + 1))
    rw [show i + (p - i) = p by omega] at d1
    rw [show p + 1 + (j - (p + 1)) = j by omega] at d2
    have o := R.obj p
    have h := Rat.mul_nonneg (Rat.le_of_lt (R.stp p).gp) (R.th p)
    have e0 : gain m n (a p) (b p) (s p) * (a p (l p) n / a p (l p) (s p)) = 0 := by grind
    have g := (R.stp p).gp
    have ps := (R.stp p).pos
    grind
  have hrho : ∀ k, k < m → ∀ d, i + d ≤ j → a (i + d) k n = a i k n := fun k hk d => by
    induction d with
    | zero => intro _; rfl
    | succ d ih =>
      intro hd
      rw [← ih (by omega)]
      have f := hflat (i + d) (by omega) (by omega)
      show a (i + d + 1) k n = _
      rw [R.na (i + d)]
      by_cases q : k = l (i + d)
      · rw [q, piv_r, f]; grind
      · rw [piv_k q, f]; grind
  have hrho' : ∀ k, k < m → ∀ p, i ≤ p → p ≤ j → a p k n = a i k n := fun k hk p h1 h2 => by
    have := hrho k hk (p - i) (by omega)
    rw [show i + (p - i) = p by omega] at this
    exact this
  -- a row whose basic column changes between has nothing on its right side
  have hchg : ∀ k, k < m → ∀ p q, i ≤ p → p ≤ q → q ≤ j → b p k ≠ b q k → a i k n = 0 := fun k hk p q h1 h2 h3 hne => by
    obtain ⟨u, c1, c2, c3, c4⟩ := falls_to (P := fun x => b x k = b p k) h2 rfl (fun z => hne z.symm)
    have ek : k = l u := by
      apply Classical.byContradiction
      intro hk'
      apply c4
      show b (u + 1) k = b p k
      rw [R.nb u, upB_k hk']; exact c3
    rw [← hrho' k hk u (by omega) (by omega), ek]
    exact hflat u (by omega) (by omega)
  -- helpers stay the same between
  have hhlp : ∀ k, k < m → ∀ p, i ≤ p → p ≤ j → (b p k ≤ n ↔ b i k ≤ n) := fun k hk p h1 h2 => by
    constructor
    · intro h
      have := R.gone (j - p) p h
      rw [show p + (j - p) = j by omega, ← hb k hk] at this
      exact this
    · intro h
      have := R.gone (p - i) i h
      rw [show i + (p - i) = p by omega] at this
      exact this
  -- the greatest fickle fact
  have hrange : ∀ x, (∃ k, k < m ∧ b i k = x) ↔ (∃ k, k < m ∧ b j k = x) := fun x => by
    constructor
    · rintro ⟨k, hk, q⟩; exact ⟨k, hk, by rw [← hb k hk]; exact q⟩
    · rintro ⟨k, hk, q⟩; exact ⟨k, hk, by rw [hb k hk]; exact q⟩
  have hup : ∀ p, ∃ k, k < m ∧ b (p + 1) k = s p := fun p => ⟨l p, (R.stp p).hl, by rw [R.nb p, upB_r]⟩
  obtain ⟨t, htn, ⟨⟨u, hu1, hu2, hu3⟩, ⟨v, hv1, hv2, hv3⟩⟩, htm⟩ := greatest (P := fun x => (∃ u, i ≤ u ∧ u ≤ j ∧ ∃ k, k < m ∧ b u k = x) ∧ (∃ v, i ≤ v ∧ v ≤ j ∧ ¬ ∃ k, k < m ∧ b v k = x)) n
    ⟨s i, (R.stp i).hs, ⟨i + 1, by omega, by omega, hup i⟩, ⟨i, by omega, by omega, fun ⟨k, hk, q⟩ => (R.stp i).nb k hk q⟩⟩
  obtain ⟨⟨p, hp1, hp2, ⟨kt, hkt, hbt⟩, hp4⟩, ⟨q, hq1, hq2, hq3, ⟨kq, hkq, hbq⟩⟩⟩ := both_ways (P := fun x => ∃ k, k < m ∧ b x k = t) (hrange t) hu1 hu2 hv1 hv2 hu3 hv3
  -- at p the fact t leaves
  have hlt : kt = l p := by
    apply Classical.byContradiction
    intro hne
    exact hp4 ⟨kt, hkt, by rw [R.nb p, upB_k hne]; exact hbt⟩
  subst hlt
  -- at q it enters
  have hst : t = s q := by
    rw [R.nb q] at hbq
    by_cases e1 : kq = l q
    · rw [e1, upB_r] at hbq; exact hbq.symm
    · rw [upB_k e1] at hbq; exact absurd ⟨kq, hkq, hbq⟩ hq3
  have Dp := R.dic p
  have Dq := R.dic q
  have Sp := R.stp p
  have Sq := R.stp q
  -- the objective of q at the direction of p
  have key : gain m n (a q) (b q) (s p) - sm m (fun k => a p k (s p) * gain m n (a q) (b q) (b p k)) = 0 := by
    rw [← form_vec Dp (Nat.lt_trans Sp.hs R.hn)]
    exact gain_null ((Dq.null _).mpr ((Dp.null _).mp (vec_null Dp (Nat.lt_trans Sp.hs R.hn))))
  have split : sm m (fun k => a p k (s p) * gain m n (a q) (b q) (b p k)) = gain m n (a p) (b p) (s p) + sm m (fun k => if n < b p k then 0 else a p k (s p) * gain m n (a q) (b q) (b p k)) := by
    show _ = sm m (fun k => if n < b p k then a p k (s p) else 0) + _
    rw [← sm_add]
    refine sm_congr fun k hk => ?_
    by_cases h : n < b p k
    · rw [if_pos h, if_pos h]
      have hq' : n < b q k := by
        have x1 := hhlp k hk p hp1 (by omega)
        have x2 := hhlp k hk q hq1 (by omega)
        omega
      have e1 : b p k = b q k := by rw [R.hlp p k hk h, R.hlp q k hk hq']
      rw [e1, gain_basic Dq hk, if_pos hq']
      grind
    · rw [if_neg h, if_neg h]; grind
  have hgs : gain m n (a q) (b q) (s p) ≤ 0 := by
    by_cases hbas : ∃ k, k < m ∧ b q k = s p
    · obtain ⟨k, hk, e1⟩ := hbas
      rw [← e1, gain_basic Dq hk, if_neg (by rw [e1]; have := Sp.hs; omega)]
      grind
    · refine Sq.least (s p) ?_ fun k hk e1 => hbas ⟨k, hk, e1⟩
      rw [← hst]
      have h1 : s p ≤ t := htm (s p) Sp.hs ⟨⟨p + 1, by omega, by omega, hup p⟩, ⟨p, hp1, by omega, fun ⟨k, hk, e1⟩ => Sp.nb k hk e1⟩⟩
      have h2 : s p ≠ t := fun e1 => Sp.nb _ hkt (hbt.trans e1.symm)
      omega
  have hgp := Sp.gp
  obtain ⟨k, hk, hneg⟩ := sm_neg_ex (n := m) (f := fun k => if n < b p k then 0 else a p k (s p) * gain m n (a q) (b q) (b p k)) (by grind)
  have hkn : ¬ n < b p k := fun h => by
    have hneg' : (if n < b p k then 0 else a p k (s p) * gain m n (a q) (b q) (b p k)) < 0 := hneg
    rw [if_pos h] at hneg'
    grind
  have hneg2 : a p k (s p) * gain m n (a q) (b q) (b p k) < 0 := by
    have hneg' : (if n < b p k then 0 else a p k (s p) * gain m n (a q) (b q) (b p k)) < 0 := hneg
    rw [if_neg hkn] at hneg'
    exact hneg'
  -- b p k is a fact that is not basic at q
  have hrn : b p k ≠ n := fun e1 => by
    -- the right side's column is never basic: it would be a unit column of both
    have hnb : ∀ x, i + x ≤ j → ∀ k', k' < m → b i k' ≠ n → b (i + x) k' ≠ n := fun x => by
      induction x with
      | zero => intro _ _ _ h; exact h
      | succ x ih =>
        intro hx k' hk' h
        show b (i + x + 1) k' ≠ n
        rw [R.nb (i + x)]
        by_cases z : k' = l (i + x)
        · rw [z, upB_r]; exact Nat.ne_of_lt (R.stp _).hs
        · rw [upB_k z]; exact ih (by omega) k' hk' h
    by_cases z : b i k = n
    · -- then row k keeps it all the way, or changes: either way the objective of q is 0 there
      by_cases y : b q k = n
      · rw [e1, ← y, gain_basic Dq hk, if_neg (by omega)] at hneg2
        grind
      · have := R.gone (j - q) q (show b q k ≤ n by have := (hhlp k hk q hq1 (by omega)).mpr (by omega); exact this)
        have back : b j k = n := by rw [← hb k hk]; exact z
        -- from q on it is not n any more
        have fwd : ∀ x, b (q + x) k ≠ n := fun x => by
          induction x with
          | zero => exact y
          | succ x ih =>
            show b (q + x + 1) k ≠ n
            rw [R.nb (q + x)]
            by_cases z' : k = l (q + x)
            · rw [z', upB_r]; exact Nat.ne_of_lt (R.stp _).hs
            · rw [upB_k z']; exact ih
        have := fwd (j - q)
        rw [show q + (j - q) = j by omega] at this
        exact this back
    · have := hnb (p - i) (by omega) k hk z
      rw [show i + (p - i) = p by omega] at this
      exact this e1
  have hrlt : b p k < n := by omega
  have hnbq : ¬ ∃ k', k' < m ∧ b q k' = b p k := fun ⟨k', hk', e1⟩ => by
    rw [← e1, gain_basic Dq hk', if_neg (by rw [e1]; omega)] at hneg2
    grind
  have hrt : b p k ≤ t := htm _ hrlt ⟨⟨p, hp1, by omega, ⟨k, hk, rfl⟩⟩, ⟨q, hq1, by omega, hnbq⟩⟩
  have hgt : 0 < gain m n (a q) (b q) t := by rw [hst]; exact Sq.gp
  have hne : b p k ≠ t := fun e1 => by
    have ek : k = l p := Dp.inj hk Sp.hl (e1.trans hbt.symm)
    rw [e1] at hneg2
    rw [ek] at hneg2
    have := Rat.mul_pos Sp.pos hgt
    grind
  have hgr : gain m n (a q) (b q) (b p k) ≤ 0 := Sq.least _ (by rw [← hst]; omega) fun k' hk' e1 => hnbq ⟨k', hk', e1⟩
  have hpos : 0 < a p k (s p) := by
    apply Classical.byContradiction
    intro hc
    have := Rat.mul_nonneg (show 0 ≤ -(a p k (s p)) by grind) (show 0 ≤ -(gain m n (a q) (b q) (b p k)) by grind)
    grind
  have hbk : b p k ≠ b q k := fun e1 => hnbq ⟨k, hk, e1.symm⟩
  have hk0 : a p k n = 0 := by
    rw [hrho' k hk p hp1 (by omega)]
    rcases Nat.le_total p q with h | h
    · exact hchg k hk p q hp1 h (by omega) hbk
    · exact hchg k hk q p hq1 h (by omega) (Ne.symm hbk)
  have hl0 := hflat p hp1 hp2
  have ht := Sp.tie k hk hpos (by rw [hl0, hk0]; grind) (by rw [hbt]; omega)
  rw [hbt] at ht
  omega
end
end K47
end
section
/-! Sizes: each row of a dictionary is a multiple of a small whole vector. -/
namespace K47

def si : Nat → (Nat → Int) → Int
  | 0, _ => 0
  | n + 1, f => si n f + f n
theorem si_congr {f g : Nat → Int} : ∀ {n : Nat}, (∀ i, i < n → f i = g i) → si n f = si n g
  | 0, _ => rfl
  | n + 1, h => by
    show si n f + f n = si n g + g n
    rw [si_congr fun i hi => h i (by omega), h n (by omega)]
theorem si_lin {f g : Nat → Int} (c d : Int) : ∀ n, si n (fun i => c * f i - d * g i) = c * si n f - d * si n g
  | 0 => by show (0 : Int) = c * 0 - d * 0; omega
  | n + 1 => by
    show si n (fun i => c * f i - d * g i) + (c * f n - d * g n) = c * (si n f + f n) - d * (si n g + g n)
    rw [si_lin c d n]; grind
theorem si_cast {f : Nat → Int} : ∀ n, ((si n f : Int) : Rat) = sm n (fun i => (f i : Rat))
  | 0 => rfl
  | n + 1 => by
    show ((si n f + f n : Int) : Rat) = sm n (fun i => (f i : Rat)) + (f n : Rat)
    rw [← si_cast n]; push_cast; rfl
theorem si_abs {f : Nat → Int} {B : Nat} : ∀ {n : Nat}, (∀ i, i < n → (f i).natAbs ≤ B) → (si n f).natAbs ≤ n * B
  | 0, _ => by show (0 : Int).natAbs ≤ 0 * B; simp
  | n + 1, h => by
    have h1 := si_abs (n := n) fun i hi => h i (by omega)
    have h2 := h n (by omega)
    have h3 := Int.natAbs_add_le (si n f) (f n)
    show (si n f + f n).natAbs ≤ (n + 1) * B
    rw [Nat.add_mul]; omega
theorem si_single {f : Nat → Int} {j : Nat} : ∀ {n : Nat}, j < n → (∀ i, i < n → i ≠ j → f i = 0) → si n f = f j
  | n + 1, hj, h => by
    show si n f + f n = f j
    have hz : ∀ m, (∀ i, i < m → f i = 0) → si m f = 0 := fun m => by
      induction m with
      | zero => intro _; rfl
      | succ m ih =>
        intro q
        show si m f + f m = 0
        rw [ih fun i hi => q i (by omega), q m (by omega)]; rfl
    by_cases e : j = n
    · subst e
      rw [hz j fun i hi => h i (by omega) (by omega)]; omega
    · rw [si_single (n := n) (by omega) fun i hi => h i (by omega), h n (by omega) (fun z => e z.symm)]; omega

theorem pigeonB : ∀ (M : Nat) (f : Nat → Nat), (∀ i, i ≤ M → f i < M) → ∃ i j, i < j ∧ j ≤ M ∧ f i = f j
  | 0, f, h => absurd (h 0 (Nat.le_refl 0)) (by omega)
  | M + 1, f, h => by
    by_cases e : ∃ i, i ≤ M ∧ f (i + 1) = f 0
    · obtain ⟨i, hi, q⟩ := e
      exact ⟨0, i + 1, by omega, by omega, q.symm⟩
    · have hne : ∀ i, i ≤ M → f (i + 1) ≠ f 0 := fun i hi q => e ⟨i, hi, q⟩
      obtain ⟨i, j, hij, hj, q⟩ := pigeonB M (fun i => if f 0 < f (i + 1) then f (i + 1) - 1 else f (i + 1)) fun i hi => by
        have h1 := h 0 (by omega)
        have h2 := h (i + 1) (by omega)
        have h3 := hne i hi
        show (if f 0 < f (i + 1) then f (i + 1) - 1 else f (i + 1)) < M
        split <;> omega
      refine ⟨i + 1, j + 1, by omega, by omega, ?_⟩
      have h1 := hne i (by omega)
      have h2 := hne j hj
      have q' : (if f 0 < f (i + 1) then f (i + 1) - 1 else f (i + 1)) = (if f 0 < f (j + 1) then f (j + 1) - 1 else f (j + 1)) := q
      split at q' <;> split at q' <;> omega
/-- the digits of a number tell it -/
def dig (Q e k : Nat) : Nat := e / Q ^ k % Q
theorem dig_inj {Q : Nat} (hQ : 0 < Q) : ∀ {m e e' : Nat}, e < Q ^ m → e' < Q ^ m → (∀ k, k < m → dig Q e k = dig Q e' k) → e = e'
  | 0, e, e', h, h', _ => by
    have h0 : e < 1 := h
    have h1 : e' < 1 := h'
    omega
  | m + 1, e, e', h, h', hd => by
    have d0 := hd 0 (by omega)
    unfold dig at d0
    rw [Nat.pow_zero, Nat.div_one, Nat.div_one] at d0
    have q : e / Q = e' / Q := dig_inj hQ (m := m) (Nat.div_lt_of_lt_mul (by rw [Nat.pow_succ, Nat.mul_comm] at h; exact h)) (Nat.div_lt_of_lt_mul (by rw [Nat.pow_succ, Nat.mul_comm] at h'; exact h')) fun k hk => by
      have := hd (k + 1) (by omega)
      unfold dig at this ⊢
      rw [Nat.div_div_eq_div_mul, Nat.div_div_eq_div_mul, Nat.mul_comm, ← Nat.pow_succ]
      exact this
    rw [← Nat.div_add_mod e Q, ← Nat.div_add_mod e' Q, q, d0]
/-- fewer columns than places: a small vector orthogonal to all -/
theorem ortho {t B M : Nat} {cols : Nat → Nat → Int} (hB : 2 * ((t + 1) * M) ≤ 2 ^ B) (h : ∀ j k, j < t → k < t + 1 → (cols j k).natAbs ≤ M) :
    ∃ y : Nat → Int, (∃ k, k < t + 1 ∧ y k ≠ 0) ∧ (∀ j, j < t → si (t + 1) (fun k => y k * cols j k) = 0) ∧ ∀ k, k < t + 1 → (y k).natAbs ≤ 2 ^ (B * t) := by
  have hH : 0 < 2 ^ (B * t) := Nat.pow_pos (by omega)
  have hdg : ∀ e k, dig (2 ^ (B * t) + 1) e k ≤ 2 ^ (B * t) := fun e k => by
    have := Nat.mod_lt (e / (2 ^ (B * t) + 1) ^ k) (show 0 < 2 ^ (B * t) + 1 by omega)
    unfold dig
    omega
  have hs : ∀ e j, j < t → (si (t + 1) (fun k => ((dig (2 ^ (B * t) + 1) e k : Nat) : Int) * cols j k)).natAbs ≤ (t + 1) * (2 ^ (B * t) * M) := fun e j hj =>
    si_abs fun k hk => by
      rw [Int.natAbs_mul]
      exact Nat.mul_le_mul (by rw [Int.natAbs_natCast]; exact hdg e k) (h j k hj hk)
  have hR : (t + 1) * (2 ^ (B * t) * M) * 2 + 1 ≤ 2 ^ B * (2 ^ (B * t) + 1) := by
    have e1 : (t + 1) * (2 ^ (B * t) * M) * 2 = 2 * ((t + 1) * M) * 2 ^ (B * t) := by grind
    have e2 := Nat.mul_le_mul_right (2 ^ (B * t)) hB
    have e3 : 0 < 2 ^ B := Nat.pow_pos (by omega)
    rw [Nat.mul_add, e1]
    omega
  have hcount : (2 ^ B * (2 ^ (B * t) + 1)) ^ t < (2 ^ (B * t) + 1) ^ (t + 1) := by
    rw [Nat.mul_pow, ← Nat.pow_mul, Nat.pow_succ, Nat.mul_comm ((2 ^ (B * t) + 1) ^ t)]
    exact Nat.mul_lt_mul_of_pos_right (by omega) (Nat.pow_pos (by omega))
  have hf : ∀ e j, j < t → (si (t + 1) (fun k => ((dig (2 ^ (B * t) + 1) e k : Nat) : Int) * cols j k) + ((t + 1) * (2 ^ (B * t) * M) : Nat)).toNat < 2 ^ B * (2 ^ (B * t) + 1) := fun e j hj => by
    have h1 := hs e j hj
    generalize (t + 1) * (2 ^ (B * t) * M) = R at h1 hR ⊢
    generalize 2 ^ B * (2 ^ (B * t) + 1) = R' at hR ⊢
    omega
  obtain ⟨e, e', hlt, hle, q⟩ := pigeonB ((2 ^ B * (2 ^ (B * t) + 1)) ^ t) (fun e => codeN (2 ^ B * (2 ^ (B * t) + 1)) (fun j => (si (t + 1) (fun k => ((dig (2 ^ (B * t) + 1) e k : Nat) : Int) * cols j k) + ((t + 1) * (2 ^ (B * t) * M) : Nat)).toNat) t)
    fun e _ => codeN_lt (hf e)
  have hq := codeN_inj (hf e) (hf e') q
  refine ⟨fun k => ((dig (2 ^ (B * t) + 1) e k : Nat) : Int) - ((dig (2 ^ (B * t) + 1) e' k : Nat) : Int), ?_, fun j hj => ?_, fun k hk => ?_⟩
  · apply Classical.byContradiction
    intro hn
    have heq : e = e' := dig_inj (Q := 2 ^ (B * t) + 1) (m := t + 1) (by omega) (by omega) (by omega) fun k hk => by
      apply Classical.byContradiction
      intro hd
      exact hn ⟨k, hk, by show ((dig (2 ^ (B * t) + 1) e k : Nat) : Int) - ((dig (2 ^ (B * t) + 1) e' k : Nat) : Int) ≠ 0; omega⟩
    omega
  · have h1 := hq j hj
    have h2 := hs e j hj
    have h3 := hs e' j hj
    have e1 : si (t + 1) (fun k => (((dig (2 ^ (B * t) + 1) e k : Nat) : Int) - ((dig (2 ^ (B * t) + 1) e' k : Nat) : Int)) * cols j k) = 1 * si (t + 1) (fun k => ((dig (2 ^ (B * t) + 1) e k : Nat) : Int) * cols j k) - 1 * si (t + 1) (fun k => ((dig (2 ^ (B * t) + 1) e' k : Nat) : Int) * cols j k) := by
      rw [← si_lin]; exact si_congr fun k _ => by grind
    rw [e1]
    generalize (t + 1) * (2 ^ (B * t) * M) = R at h1 h2 h3
    omega
  · have h1 := hdg e k
    have h2 := hdg e' k
    show (((dig (2 ^ (B * t) + 1) e k : Nat) : Int) - ((dig (2 ^ (B * t) + 1) e' k : Nat) : Int)).natAbs ≤ _
    omega

/-- the first dictionary: whole numbers, the helpers' columns a unit matrix -/
structure Org (m n : Nat) (A : Nat → Nat → Int) (M : Nat) : Prop where
  unit : ∀ i j, i < m → j < m → A i (n + 1 + j) = if i = j then 1 else 0
  sz : ∀ i c, i < m → c < n + 1 + m → (A i c).natAbs ≤ M

theorem row_small {m n B M : Nat} {A : Nat → Nat → Int} {a : Nat → Nat → Rat} {b : Nat → Nat} (O : Org m n A M) (D : Dic m (n + 1 + m) (fun i c => (A i c : Rat)) a b) (hB : 2 * (m * M) ≤ 2 ^ B) (hm : m ≤ 13) {k : Nat} (hk : k < m) :
    ∃ w : Nat → Int, w (b k) ≠ 0 ∧ (∀ c, c < n + 1 + m → (w c : Rat) = a k c * (w (b k) : Rat)) ∧ ∀ c, c < n + 1 + m → (w c).natAbs ≤ 2 ^ (13 * B) := by
  have hsk : ∀ j, j < m - 1 → (if j < k then j else j + 1) < m ∧ (if j < k then j else j + 1) ≠ k := fun j hj => by split <;> omega
  obtain ⟨t, ht⟩ : ∃ t, m = t + 1 := ⟨m - 1, by omega⟩
  obtain ⟨y, ⟨i0, hi0, hy0⟩, hort, hsz⟩ := ortho (t := t) (B := B) (M := M) (cols := fun j i => A i (b (if j < k then j else j + 1))) (by rw [← ht]; exact hB) fun j i hj hi => O.sz i _ (by omega) (D.lt _ (hsk j (by omega)).1)
  rw [← ht] at hi0 hort hsz
  -- the form that y makes
  have hnull : ∀ v, Null m (n + 1 + m) a v → sm (n + 1 + m) (fun c => ((si m (fun i => y i * A i c) : Int) : Rat) * v c) = 0 := fun v hv => by
    have hv0 := (D.null v).mp hv
    have e : sm (n + 1 + m) (fun c => ((si m (fun i => y i * A i c) : Int) : Rat) * v c) = sm (n + 1 + m) (fun c => sm m (fun i => (y i : Rat) * ((A i c : Rat) * v c))) := sm_congr fun c _ => by
      rw [si_cast]
      have e2 : sm m (fun i => ((y i * A i c : Int) : Rat)) * v c = v c * sm m (fun i => ((y i * A i c : Int) : Rat)) := by grind
      rw [e2, ← sm_mul]
      exact sm_congr fun i _ => by push_cast; grind
    rw [e, sm_comm]
    refine sm_zero fun i hi => ?_
    rw [sm_mul, hv0 i hi]; grind
  have hz : ∀ l, l < m → l ≠ k → si m (fun i => y i * A i (b l)) = 0 := fun l hl hlk => by
    have h := hort (if l < k then l else l - 1) (by split <;> omega)
    have e : (if (if l < k then l else l - 1) < k then (if l < k then l else l - 1) else (if l < k then l else l - 1) + 1) = l := by
      by_cases q : l < k
      · rw [if_pos q, if_pos q]
      · rw [if_neg q, if_neg (by omega)]; omega
    rw [e] at h
    exact h
  have hrow : ∀ c, c < n + 1 + m → ((si m (fun i => y i * A i c) : Int) : Rat) = a k c * ((si m (fun i => y i * A i (b k)) : Int) : Rat) := fun c hc => by
    have h := hnull _ (vec_null D hc)
    rw [form_vec D hc, sm_single (j := k) hk fun l hl hlk => by rw [hz l hl hlk]; push_cast; grind] at h
    grind
  refine ⟨fun c => si m (fun i => y i * A i c), fun h0 => ?_, hrow, fun c hc => ?_⟩
  · have h1 := hrow (n + 1 + i0) (by omega)
    have h0' : si m (fun i => y i * A i (b k)) = 0 := h0
    rw [h0'] at h1
    have h2 : ((si m (fun i => y i * A i (n + 1 + i0)) : Int) : Rat) = ((0 : Int) : Rat) := by rw [h1]; push_cast; grind
    have h3 : si m (fun i => y i * A i (n + 1 + i0)) = 0 := Rat.intCast_inj.mp h2
    rw [si_single (j := i0) hi0 fun i hi hne => by rw [O.unit i i0 hi hi0, if_neg hne]; omega, O.unit i0 i0 hi0 hi0, if_pos rfl] at h3
    exact hy0 (by omega)
  · have h1 : (si m (fun i => y i * A i c)).natAbs ≤ m * (2 ^ (B * t) * M) := si_abs fun i hi => by
      rw [Int.natAbs_mul]; exact Nat.mul_le_mul (hsz i hi) (O.sz i c hi hc)
    have h3 : m * (2 ^ (B * t) * M) = (m * M) * 2 ^ (B * t) := by grind
    have h4 : (m * M) * 2 ^ (B * t) ≤ 2 ^ B * 2 ^ (B * t) := Nat.mul_le_mul_right _ (by omega)
    have h5 : 2 ^ B * 2 ^ (B * t) = 2 ^ (B * (t + 1)) := by rw [← Nat.pow_add]; congr 1; grind
    have h6 : 2 ^ (B * (t + 1)) ≤ 2 ^ (13 * B) := Nat.pow_le_pow_right (by omega) (by rw [Nat.mul_comm 13 B]; exact Nat.mul_le_mul_left _ (by omega))
    show (si m (fun i => y i * A i c)).natAbs ≤ _
    omega

/-- a row of whole numbers that nothing divides but 1, a multiple of a small one, is small -/
theorem prim_small {xs : List Int} {p : Int} {o : Int} {W : Nat} (ho : o ≠ 0) (hp : p ≠ 0) (hprim : ∀ d : Nat, (∀ x ∈ xs, d ∣ x.natAbs) → d = 1) (h : ∀ x ∈ xs, ∃ w : Int, x * p = o * w ∧ w.natAbs ≤ W) : ∀ x ∈ xs, x.natAbs ≤ W := by
  have hg : 0 < Nat.gcd o.natAbs p.natAbs := Nat.gcd_pos_of_pos_left _ (by omega)
  obtain ⟨o', ho'⟩ := Nat.gcd_dvd_left o.natAbs p.natAbs
  obtain ⟨p', hp'⟩ := Nat.gcd_dvd_right o.natAbs p.natAbs
  have hc : Nat.Coprime o' p' := by
    have h1 := Nat.coprime_div_gcd_div_gcd (m := o.natAbs) (n := p.natAbs) hg
    have e1 : o.natAbs / Nat.gcd o.natAbs p.natAbs = o' := Nat.div_eq_of_eq_mul_right hg ho'
    have e2 : p.natAbs / Nat.gcd o.natAbs p.natAbs = p' := Nat.div_eq_of_eq_mul_right hg hp'
    rw [e1, e2] at h1
    exact h1
  have hx : ∀ x ∈ xs, ∃ w : Int, x.natAbs * p' = o' * w.natAbs ∧ w.natAbs ≤ W := fun x hm => by
    obtain ⟨w, e, hw⟩ := h x hm
    refine ⟨w, ?_, hw⟩
    have e1 : x.natAbs * p.natAbs = o.natAbs * w.natAbs := by rw [← Int.natAbs_mul, ← Int.natAbs_mul, e]
    have e2 : Nat.gcd o.natAbs p.natAbs * (x.natAbs * p') = Nat.gcd o.natAbs p.natAbs * (o' * w.natAbs) := by
      rw [← Nat.mul_assoc, ← Nat.mul_assoc, ← ho', Nat.mul_comm _ x.natAbs, Nat.mul_assoc, ← hp', e1]
    exact Nat.eq_of_mul_eq_mul_left hg e2
  have ho1 : o' = 1 := hprim o' fun x hm => by
    obtain ⟨w, e, _⟩ := hx x hm
    exact hc.dvd_of_dvd_mul_right (e ▸ Nat.dvd_mul_right o' w.natAbs)
  intro x hm
  obtain ⟨w, e, hw⟩ := hx x hm
  have hp1 : 0 < p' := by
    rcases Nat.eq_zero_or_pos p' with z | z
    · rw [z, Nat.mul_zero] at hp'; omega
    · exact z
  rw [ho1, Nat.one_mul] at e
  have h2 : x.natAbs * 1 ≤ x.natAbs * p' := Nat.mul_le_mul_left _ hp1
  omega
end K47
end
section
/-! The table of whole numbers: what each method comes to; its link with a dictionary. -/
namespace K47

def gcdL (xs : List Int) : Int := xs.foldl (fun g x => ((Int.gcd g x : Nat) : Int)) 0
/-- the row by its greatest divisor -/
def short (xs : List Int) : List Int := if gcdL xs ≤ 1 then xs else xs.map (· / gcdL xs)

structure TS where
  rows : List (List Int)
  basis : List (Option Nat)

def TS.at (T : TS) (k c : Nat) : Int := (T.rows.getD k []).getD c 0
def TS.bs (T : TS) (k : Nat) : Option Nat := T.basis.getD k none
def helpersI (T : TS) : List Nat := (List.range T.rows.length).filter fun k => (T.bs k).isNone
def gstep (l x : Int) (p : Int × Int) : Int × Int := ((p.1 * l + x * p.2) / ((Int.gcd (p.1 * l + x * p.2) (p.2 * l) : Nat) : Int), (p.2 * l) / ((Int.gcd (p.1 * l + x * p.2) (p.2 * l) : Nat) : Int))
def gainI (n : Nat) (T : TS) (f : Nat) : Int := ((helpersI T).foldl (fun p k => gstep (T.at k (n + 1)) (T.at k f) p) (0, 1)).1
def enterI (n : Nat) (T : TS) : Option Nat := (List.range n).find? fun f => !(T.basis.contains (some f)) && decide (0 < gainI n T f)
def aheadI (n : Nat) (T : TS) (one other f : Nat) : Bool :=
  if T.at one n * T.at other f ≠ T.at other n * T.at one f then decide (T.at one n * T.at other f < T.at other n * T.at one f)
  else match T.bs other with
    | none => false
    | some q => match T.bs one with
      | none => true
      | some p => decide (p < q)
def leaveStep (n : Nat) (T : TS) (f : Nat) (best : Option Nat) (k : Nat) : Option Nat :=
  if 0 < T.at k f then (match best with
    | none => some k
    | some q => if aheadI n T k q f then some k else some q) else best
def leaveI (n : Nat) (T : TS) (f : Nat) : Option Nat := (List.range T.rows.length).foldl (leaveStep n T f) none
def freshI (n : Nat) (by_ row : List Int) (s : Nat) : List Int := (List.range (n + 1)).map (fun j => row.getD j 0 * by_.getD s 0 - by_.getD j 0 * row.getD s 0) ++ [row.getD (n + 1) 0 * by_.getD s 0]
def turnRow (n : Nat) (by_ : List Int) (r s k : Nat) (row : List Int) : List Int := if k ≠ r ∧ row.getD s 0 ≠ 0 then short (freshI n by_ row s) else row
def turnI (n : Nat) (T : TS) (r s : Nat) : TS :=
  ⟨(T.rows.mapIdx (turnRow n (T.rows.getD r []) r s)).set r (short ((T.rows.getD r []).take (n + 1) ++ [0])), T.basis.set r (some s)⟩

/-! ### the greatest divisor -/
theorem gcdF_dvd : ∀ (xs : List Int) (g : Int), ((xs.foldl (fun g x => ((Int.gcd g x : Nat) : Int)) g) ∣ g) ∧ ∀ x ∈ xs, (xs.foldl (fun g x => ((Int.gcd g x : Nat) : Int)) g) ∣ x
  | [], g => ⟨Int.dvd_refl g, fun _ h => by simp at h⟩
  | y :: ys, g => by
    obtain ⟨h1, h2⟩ := gcdF_dvd ys ((Int.gcd g y : Nat) : Int)
    refine ⟨Int.dvd_trans h1 (Int.gcd_dvd_left g y), fun x hx => ?_⟩
    rcases List.mem_cons.mp hx with e | hx
    · subst e; exact Int.dvd_trans h1 (Int.gcd_dvd_right g x)
    · exact h2 x hx
theorem gcdF_greatest {d : Nat} : ∀ (xs : List Int) (g : Int), (d : Int) ∣ g → (∀ x ∈ xs, (d : Int) ∣ x) → (d : Int) ∣ xs.foldl (fun g x => ((Int.gcd g x : Nat) : Int)) g
  | [], g, h, _ => h
  | y :: ys, g, h, hx => gcdF_greatest ys _ (by
      have := Int.dvd_gcd h (hx y List.mem_cons_self)
      exact Int.dvd_coe_gcd h (hx y List.mem_cons_self)) fun x hm => hx x (List.mem_cons_of_mem _ hm)
theorem gcdF_nonneg : ∀ (xs : List Int) (g : Int), 0 ≤ g → 0 ≤ xs.foldl (fun g x => ((Int.gcd g x : Nat) : Int)) g
  | [], g, h => h
  | y :: ys, g, _ => gcdF_nonneg ys _ (show (0 : Int) ≤ ((Int.gcd g y : Nat) : Int) by omega)
theorem gcdL_nonneg (xs : List Int) : 0 ≤ gcdL xs := gcdF_nonneg xs 0 (Int.le_refl 0)
theorem gcdL_dvd {xs : List Int} {x : Int} (h : x ∈ xs) : gcdL xs ∣ x := (gcdF_dvd xs 0).2 x h
theorem gcdL_greatest {xs : List Int} {d : Nat} (h : ∀ x ∈ xs, (d : Int) ∣ x) : (d : Int) ∣ gcdL xs := gcdF_greatest xs 0 (Int.dvd_zero _) h

/-- what short gives: the row by some g, nothing divides it but 1 -/
theorem short_spec {xs : List Int} (h : ∃ x ∈ xs, x ≠ 0) : ∃ g : Int, 0 < g ∧ (short xs).length = xs.length ∧ (∀ c, (xs.getD c 0) = g * (short xs).getD c 0) ∧ ∀ d : Nat, (∀ x ∈ short xs, d ∣ x.natAbs) → d = 1 := by
  have h0 := gcdL_nonneg xs
  have hne : gcdL xs ≠ 0 := fun e => by
    obtain ⟨x, hx, hn⟩ := h
    have := gcdL_dvd hx
    rw [e] at this
    exact hn (Int.zero_dvd.mp this)
  unfold short
  by_cases hg : gcdL xs ≤ 1
  · have e1 : gcdL xs = 1 := by omega
    rw [if_pos hg]
    refine ⟨1, by omega, rfl, fun c => by omega, fun d hd => ?_⟩
    have := gcdL_greatest (xs := xs) (d := d) fun x hx => Int.ofNat_dvd_left.mpr (hd x hx)
    rw [e1] at this
    have h2 : d ∣ 1 := by exact_mod_cast this
    exact Nat.dvd_one.mp h2
  · rw [if_neg hg]
    refine ⟨gcdL xs, by omega, List.length_map .., fun c => ?_, fun d hd => ?_⟩
    · rw [List.getD_eq_getElem?_getD, List.getD_eq_getElem?_getD, List.getElem?_map]
      cases e : xs[c]? with
      | none => simp
      | some x =>
        show x = gcdL xs * (x / gcdL xs)
        rw [Int.mul_ediv_cancel' (gcdL_dvd (List.mem_of_getElem? e))]
    · have h3 : ((d * (gcdL xs).natAbs : Nat) : Int) ∣ gcdL xs := gcdL_greatest fun x hx => by
        obtain ⟨q, hq⟩ := gcdL_dvd hx
        have hm : x / gcdL xs ∈ xs.map (· / gcdL xs) := List.mem_map.mpr ⟨x, hx, rfl⟩
        have hdq := hd _ hm
        have e2 : x / gcdL xs = q := by rw [hq]; exact Int.mul_ediv_cancel_left q hne
        rw [e2] at hdq
        obtain ⟨z, hz⟩ := hdq
        refine Int.ofNat_dvd_left.mpr ?_
        rw [hq, Int.natAbs_mul, hz]
        exact ⟨z, by grind⟩
      have h4 : d * (gcdL xs).natAbs ∣ (gcdL xs).natAbs := Int.ofNat_dvd_left.mp h3
      have h5 : 0 < (gcdL xs).natAbs := by omega
      have h6 : d * (gcdL xs).natAbs ∣ 1 * (gcdL xs).natAbs := by rw [Nat.one_mul]; exact h4
      exact Nat.dvd_one.mp (Nat.dvd_of_mul_dvd_mul_right h5 h6)

/-! ### the link -/
structure RowOk (n : Nat) (ak : Nat → Rat) (bk : Option Nat) (row : List Int) (o : Rat) : Prop where
  pos : 0 < o
  len : row.length = n + 2
  ent : ∀ c, c ≤ n → ((row.getD c 0 : Int) : Rat) = o * ak c
  last : ((row.getD (n + 1) 0 : Int) : Rat) = if bk = none then o else 0

structure Lnk (n m : Nat) (A : Nat → Nat → Int) (W : Nat) (T : TS) (a : Nat → Nat → Rat) (b : Nat → Nat) : Prop where
  rl : T.rows.length = m
  bl : T.basis.length = m
  dic : Dic m (n + 1 + m) (fun i c => (A i c : Rat)) a b
  row : ∀ k, k < m → ∃ o, RowOk n (a k) (T.bs k) (T.rows.getD k []) o
  bas : ∀ k, k < m → (T.bs k = none ∧ b k = n + 1 + k) ∨ (∃ j, j < n ∧ T.bs k = some j ∧ b k = j)
  feas : ∀ k, k < m → 0 ≤ a k n
  bnd : ∀ k, k < m → ∀ x ∈ T.rows.getD k [], x.natAbs ≤ W

section
variable {n m W : Nat} {A : Nat → Nat → Int} {T : TS} {a : Nat → Nat → Rat} {b : Nat → Nat}
theorem Lnk.hlp (L : Lnk n m A W T a b) {k : Nat} (hk : k < m) : n < b k ↔ T.bs k = none := by
  rcases L.bas k hk with ⟨h1, h2⟩ | ⟨j, h0, h1, h2⟩
  · rw [h1, h2]; exact ⟨fun _ => rfl, fun _ => by omega⟩
  · rw [h1, h2]; exact ⟨fun h => by omega, fun h => nomatch h⟩
/-- the sign of an entry -/
theorem RowOk.sign {ak : Nat → Rat} {bk : Option Nat} {row : List Int} {o : Rat} (R : RowOk n ak bk row o) {c : Nat} (hc : c ≤ n) : 0 < row.getD c 0 ↔ 0 < ak c := by
  have h := R.ent c hc
  constructor
  · intro hp
    have h1 : (0 : Rat) < ((row.getD c 0 : Int) : Rat) := by exact_mod_cast hp
    rw [h] at h1
    apply Classical.byContradiction
    intro hn
    have := Rat.mul_nonneg (Rat.le_of_lt R.pos) (show 0 ≤ -(ak c) by grind)
    grind
  · intro hp
    have h1 := Rat.mul_pos R.pos hp
    rw [← h] at h1
    exact_mod_cast h1
theorem RowOk.zero {ak : Nat → Rat} {bk : Option Nat} {row : List Int} {o : Rat} (R : RowOk n ak bk row o) {c : Nat} (hc : c ≤ n) : row.getD c 0 = 0 ↔ ak c = 0 := by
  have h := R.ent c hc
  have hp := R.pos
  constructor
  · intro hz
    rw [hz] at h
    have h0 : ((0 : Int) : Rat) = 0 := by push_cast; rfl
    rw [h0] at h
    grind
  · intro hz
    rw [hz] at h
    have h1 : ((row.getD c 0 : Int) : Rat) = ((0 : Int) : Rat) := by rw [h]; push_cast; grind
    exact Rat.intCast_inj.mp h1
/-- a row of a basic fact or helper has a number that is not 0 -/
theorem RowOk.some_ne {ak : Nat → Rat} {bk : Option Nat} {row : List Int} {o : Rat} (R : RowOk n ak bk row o) (h : bk = none ∨ ∃ j, j ≤ n ∧ ak j = 1) : ∃ x ∈ row, x ≠ 0 := by
  have hp := R.pos
  have hl := R.len
  rcases h with h | ⟨j, hj, h⟩
  · have e := R.last
    rw [if_pos h] at e
    refine ⟨row.getD (n + 1) 0, ?_, fun z => ?_⟩
    · rw [List.getD_eq_getElem?_getD, List.getElem?_eq_getElem (show n + 1 < row.length by omega)]; exact List.getElem_mem _
    · rw [z] at e; push_cast at e; grind
  · have e := R.ent j hj
    refine ⟨row.getD j 0, ?_, fun z => ?_⟩
    · rw [List.getD_eq_getElem?_getD, List.getElem?_eq_getElem (show j < row.length by omega)]; exact List.getElem_mem _
    · rw [z, h] at e; push_cast at e; grind

theorem RowOk.short {ak : Nat → Rat} {bk : Option Nat} {row : List Int} {o : Rat} (R : RowOk n ak bk row o) (h : bk = none ∨ ∃ j, j ≤ n ∧ ak j = 1) :
    (∃ o', RowOk n ak bk (short row) o') ∧ ∀ d : Nat, (∀ x ∈ K47.short row, d ∣ x.natAbs) → d = 1 := by
  obtain ⟨g, hg, hl, he, hd⟩ := short_spec (R.some_ne h)
  have hg' : (0 : Rat) < (g : Rat) := by exact_mod_cast hg
  have hne : (g : Rat) ≠ 0 := by grind
  have hp := R.pos
  refine ⟨⟨o / g, ?_, by rw [hl]; exact R.len, fun c hc => ?_, ?_⟩, hd⟩
  · rw [Rat.div_def]; exact Rat.mul_pos hp (Rat.inv_pos.mpr hg')
  · have h1 := R.ent c hc
    rw [he c] at h1
    push_cast at h1
    grind
  · have h1 := R.last
    rw [he (n + 1)] at h1
    push_cast at h1
    split <;> rename_i q
    · rw [if_pos q] at h1; grind
    · rw [if_neg q] at h1; grind

/-- the bound of a row that nothing divides but 1 -/
theorem RowOk.small {M B : Nat} {row : List Int} {o : Rat} {bk : Option Nat} {k : Nat} (O : Org m n A M) (D : Dic m (n + 1 + m) (fun i c => (A i c : Rat)) a b) (hB : 2 * (m * M) ≤ 2 ^ B) (hm : m ≤ 13) (hk : k < m)
    (hb : (bk = none ∧ b k = n + 1 + k) ∨ (∃ j, j < n ∧ bk = some j ∧ b k = j)) (R : RowOk n (a k) bk row o) (hp : ∀ d : Nat, (∀ x ∈ row, d ∣ x.natAbs) → d = 1) : ∀ x ∈ row, x.natAbs ≤ 2 ^ (13 * B) := by
  obtain ⟨w, hw0, hw, hws⟩ := row_small O D hB hm hk
  have hlen := R.len
  have hpos := R.pos
  -- the row's own number is whole
  obtain ⟨oi, hoi⟩ : ∃ oi : Int, (oi : Rat) = o := by
    rcases hb with ⟨h1, _⟩ | ⟨j, h0, h1, h2⟩
    · exact ⟨row.getD (n + 1) 0, by rw [R.last, if_pos h1]⟩
    · refine ⟨row.getD j 0, ?_⟩
      rw [R.ent j (by omega), ← h2, D.one k hk]; grind
  have hoi0 : oi ≠ 0 := fun z => by rw [z] at hoi; push_cast at hoi; grind
  refine prim_small (o := oi) (p := w (b k)) hoi0 hw0 hp fun x hx => ?_
  obtain ⟨c, hc, rfl⟩ := List.getElem_of_mem hx
  have e : row[c] = row.getD c 0 := by rw [List.getD_eq_getElem?_getD, List.getElem?_eq_getElem hc]; rfl
  rw [e]
  by_cases hcn : c ≤ n
  · refine ⟨w c, ?_, hws c (by omega)⟩
    have h1 := R.ent c hcn
    have h2 := hw c (by omega)
    have h3 : ((row.getD c 0 * w (b k) : Int) : Rat) = ((oi * w c : Int) : Rat) := by push_cast; rw [h1, h2, hoi]; grind
    exact Rat.intCast_inj.mp h3
  · have ec : c = n + 1 := by omega
    subst ec
    have h1 := R.last
    by_cases q : bk = none
    · rw [if_pos q] at h1
      refine ⟨w (b k), ?_, hws _ (D.lt k hk)⟩
      have h3 : ((row.getD (n + 1) 0 * w (b k) : Int) : Rat) = ((oi * w (b k) : Int) : Rat) := by push_cast; rw [h1, hoi]
      exact Rat.intCast_inj.mp h3
    · rw [if_neg q] at h1
      have h3 : row.getD (n + 1) 0 = 0 := by
        have : ((row.getD (n + 1) 0 : Int) : Rat) = ((0 : Int) : Rat) := by rw [h1]; push_cast; rfl
        exact Rat.intCast_inj.mp this
      exact ⟨0, by rw [h3]; omega, by simp⟩

/-! ### a turn -/
theorem getD_map_range (f : Nat → Int) (t : List Int) (N c : Nat) (hc : c < N) : ((List.range N).map f ++ t).getD c 0 = f c := by
  rw [List.getD_eq_getElem?_getD, List.getElem?_append_left (by simpa using hc), List.getElem?_map, List.getElem?_range hc]; rfl
theorem getD_map_last (f : Nat → Int) (x : Int) (N : Nat) : ((List.range N).map f ++ [x]).getD N 0 = x := by
  rw [List.getD_eq_getElem?_getD, List.getElem?_append_right (by simp)]; simp
theorem getD_take_snoc {xs : List Int} {N c : Nat} (hN : N ≤ xs.length) (hc : c < N) (x : Int) : (xs.take N ++ [x]).getD c 0 = xs.getD c 0 := by
  rw [List.getD_eq_getElem?_getD, List.getElem?_append_left (by rw [List.length_take]; omega), List.getElem?_take_of_lt hc, List.getD_eq_getElem?_getD]
theorem getD_take_last {xs : List Int} {N : Nat} (hN : N ≤ xs.length) (x : Int) : (xs.take N ++ [x]).getD N 0 = x := by
  rw [List.getD_eq_getElem?_getD, List.getElem?_append_right (by rw [List.length_take]; omega), List.length_take, Nat.min_eq_left hN]; simp

theorem turn_rows {r s k : Nat} (hk : k < T.rows.length) (hr : r < T.rows.length) : (turnI n T r s).rows.getD k [] = if k = r then short ((T.rows.getD r []).take (n + 1) ++ [0]) else turnRow n (T.rows.getD r []) r s k (T.rows.getD k []) := by
  unfold turnI
  rw [List.getD_eq_getElem?_getD]
  by_cases e : k = r
  · subst e
    rw [if_pos rfl, List.getElem?_set_self (by rw [List.length_mapIdx]; exact hk)]; rfl
  · rw [if_neg e, List.getElem?_set_ne (Ne.symm e), List.getElem?_mapIdx, List.getElem?_eq_getElem hk]
    show turnRow n (T.rows.getD r []) r s k T.rows[k] = _
    rw [List.getD_eq_getElem?_getD (l := T.rows) (i := k), List.getElem?_eq_getElem hk]; rfl
theorem turn_bs {r s k : Nat} (hr : r < T.basis.length) : (turnI n T r s).bs k = if k = r then some s else T.bs k := by
  unfold turnI TS.bs
  rw [List.getD_eq_getElem?_getD]
  by_cases e : k = r
  · subst e
    rw [if_pos rfl, List.getElem?_set_self hr]; rfl
  · rw [if_neg e, List.getElem?_set_ne (Ne.symm e), List.getD_eq_getElem?_getD]

theorem Lnk.turn {M B : Nat} (L : Lnk n m A (2 ^ (13 * B)) T a b) (O : Org m n A M) (hB : 2 * (m * M) ≤ 2 ^ B) (hm : m ≤ 13) {r s : Nat} (S : Stp m n a b s r) :
    Lnk n m A (2 ^ (13 * B)) (turnI n T r s) (piv a r s) (upB b r s) := by
  have hpos := S.pos
  have hne : a r s ≠ 0 := by grind
  have hr := S.hl
  have hs := S.hs
  have D' := L.dic.pivot hr (show s < n + 1 + m by omega) hne
  have hrl := L.rl
  have hbl := L.bl
  obtain ⟨obr, Rr⟩ := L.row r hr
  have hbys := Rr.ent s (by omega)
  have hby : ∀ c, c ≤ n → (((T.rows.getD r []).getD c 0 : Int) : Rat) = obr * a r c := fun c hc => Rr.ent c hc
  have hop := Rr.pos
  have hbas : ∀ k, k < m → ((turnI n T r s).bs k = none ∧ upB b r s k = n + 1 + k) ∨ (∃ j, j < n ∧ (turnI n T r s).bs k = some j ∧ upB b r s k = j) := fun k hk => by
    rw [turn_bs (by omega)]
    by_cases e : k = r
    · rw [if_pos e, e, upB_r]; exact .inr ⟨s, hs, rfl, rfl⟩
    · rw [if_neg e, upB_k e]; exact L.bas k hk
  have hone : ∀ k, k < m → (turnI n T r s).bs k = none ∨ ∃ j, j ≤ n ∧ piv a r s k j = 1 := fun k hk => by
    rcases hbas k hk with ⟨h, _⟩ | ⟨j, h0, _, h2⟩
    · exact .inl h
    · exact .inr ⟨j, by omega, by rw [← h2]; exact D'.one k hk⟩
  have hrow : ∀ k, k < m → ∃ o, RowOk n (piv a r s k) ((turnI n T r s).bs k) ((turnI n T r s).rows.getD k []) o ∧ ∀ x ∈ (turnI n T r s).rows.getD k [], x.natAbs ≤ 2 ^ (13 * B) := fun k hk => by
    rw [turn_rows (by omega) (by omega)]
    by_cases e : k = r
    · subst e
      rw [if_pos rfl]
      have R1 : RowOk n (piv a k s k) ((turnI n T k s).bs k) ((T.rows.getD k []).take (n + 1) ++ [0]) (obr * a k s) := by
        refine ⟨Rat.mul_pos hop hpos, ?_, fun c hc => ?_, ?_⟩
        · rw [List.length_append, List.length_take, Rr.len]; simp
        · rw [getD_take_snoc (by rw [Rr.len]; omega) (by omega), hby c hc, piv_r]; grind
        · rw [getD_take_last (by rw [Rr.len]; omega), turn_bs (by omega), if_pos rfl, if_neg (fun z => nomatch z)]; push_cast; rfl
      obtain ⟨⟨o', R2⟩, hd⟩ := R1.short (hone k hk)
      exact ⟨o', R2, RowOk.small O D' hB hm hk (hbas k hk) R2 hd⟩
    · rw [if_neg e]
      obtain ⟨ok, Rk⟩ := L.row k hk
      have hbs : (turnI n T r s).bs k = T.bs k := by rw [turn_bs (by omega), if_neg e]
      unfold turnRow
      by_cases h0 : (T.rows.getD k []).getD s 0 ≠ 0
      · rw [if_pos ⟨e, h0⟩]
        have R1 : RowOk n (piv a r s k) ((turnI n T r s).bs k) (freshI n (T.rows.getD r []) (T.rows.getD k []) s) (ok * (obr * a r s)) := by
          refine ⟨Rat.mul_pos Rk.pos (Rat.mul_pos hop hpos), ?_, fun c hc => ?_, ?_⟩
          · unfold freshI; rw [List.length_append, List.length_map, List.length_range]; rfl
          · unfold freshI
            rw [getD_map_range _ _ _ _ (by omega)]
            push_cast
            rw [Rk.ent c hc, hby s (by omega), hby c hc, Rk.ent s (by omega), piv_k e]
            grind
          · unfold freshI
            rw [getD_map_last]
            push_cast
            rw [Rk.last, hby s (by omega), hbs]
            split <;> grind
        obtain ⟨⟨o', R2⟩, hd⟩ := R1.short (hone k hk)
        exact ⟨o', R2, RowOk.small O D' hB hm hk (hbas k hk) R2 hd⟩
      · rw [if_neg (fun z => h0 z.2)]
        have hz : a k s = 0 := (Rk.zero (by omega)).mp (by omega)
        refine ⟨ok, ⟨Rk.pos, Rk.len, fun c hc => ?_, ?_⟩, L.bnd k hk⟩
        · rw [Rk.ent c hc, piv_k e, hz]; grind
        · rw [Rk.last, hbs]
  refine ⟨?_, ?_, D', fun k hk => ?_, hbas, S.feas L.feas, fun k hk => ?_⟩
  · show ((T.rows.mapIdx _).set r _).length = m
    rw [List.length_set, List.length_mapIdx]; exact hrl
  · show (T.basis.set r (some s)).length = m
    rw [List.length_set]; exact hbl
  · obtain ⟨o, R, _⟩ := hrow k hk; exact ⟨o, R⟩
  · obtain ⟨o, _, h⟩ := hrow k hk; exact h
end
end K47
end
section
/-! What enters, what leaves, and that it ends. -/
namespace K47
section
variable {n m W : Nat} {A : Nat → Nat → Int} {T : TS} {a : Nat → Nat → Rat} {b : Nat → Nat}

/-! ### gain -/
theorem gstep_spec {l x : Int} {p : Int × Int} (hl : 0 < l) (hp : 0 < p.2) : ∃ g : Int, 0 < g ∧ p.1 * l + x * p.2 = g * (gstep l x p).1 ∧ p.2 * l = g * (gstep l x p).2 ∧ 0 < (gstep l x p).2 ∧ g = ((Int.gcd (p.1 * l + x * p.2) (p.2 * l) : Nat) : Int) := by
  have h1 : 0 < p.2 * l := Int.mul_pos hp hl
  have hg : 0 < ((Int.gcd (p.1 * l + x * p.2) (p.2 * l) : Nat) : Int) := by
    have : 0 < Int.gcd (p.1 * l + x * p.2) (p.2 * l) := Int.gcd_pos_of_ne_zero_right _ (by omega)
    omega
  have e1 : p.1 * l + x * p.2 = ((Int.gcd (p.1 * l + x * p.2) (p.2 * l) : Nat) : Int) * (gstep l x p).1 := (Int.mul_ediv_cancel' (Int.gcd_dvd_left _ _)).symm
  have e2 : p.2 * l = ((Int.gcd (p.1 * l + x * p.2) (p.2 * l) : Nat) : Int) * (gstep l x p).2 := (Int.mul_ediv_cancel' (Int.gcd_dvd_right _ _)).symm
  refine ⟨_, hg, e1, e2, ?_, rfl⟩
  rw [e2] at h1
  exact Int.lt_of_mul_lt_mul_left (by rw [Int.mul_zero]; exact h1) (Int.le_of_lt hg)
theorem gstep_sz {l x : Int} {p : Int × Int} {e w : Nat} (hl : 0 < l) (hp : 0 < p.2) (h1 : l.natAbs ≤ 2 ^ w) (h2 : x.natAbs ≤ 2 ^ w) (h3 : p.1.natAbs ≤ 2 ^ e) (h4 : p.2.natAbs ≤ 2 ^ e) :
    (gstep l x p).1.natAbs ≤ 2 ^ (e + (w + 1)) ∧ (gstep l x p).2.natAbs ≤ 2 ^ (e + (w + 1)) := by
  obtain ⟨g, hg, e1, e2, _, _⟩ := gstep_spec (x := x) hl hp
  have a1 : (p.1 * l).natAbs ≤ 2 ^ e * 2 ^ w := by rw [Int.natAbs_mul]; exact Nat.mul_le_mul h3 h1
  have a2 : (x * p.2).natAbs ≤ 2 ^ w * 2 ^ e := by rw [Int.natAbs_mul]; exact Nat.mul_le_mul h2 h4
  have a3 : (p.2 * l).natAbs ≤ 2 ^ e * 2 ^ w := by rw [Int.natAbs_mul]; exact Nat.mul_le_mul h4 h1
  have a4 := Int.natAbs_add_le (p.1 * l) (x * p.2)
  have a5 : 2 ^ (e + (w + 1)) = 2 * (2 ^ e * 2 ^ w) := by rw [← Nat.add_assoc, Nat.pow_succ, Nat.pow_add]; omega
  have a6 : 2 ^ w * 2 ^ e = 2 ^ e * 2 ^ w := Nat.mul_comm _ _
  have hgn : 1 ≤ g.natAbs := by omega
  rw [e1, Int.natAbs_mul] at a4
  rw [e2, Int.natAbs_mul] at a3
  have b1 : 1 * (gstep l x p).1.natAbs ≤ g.natAbs * (gstep l x p).1.natAbs := Nat.mul_le_mul_right _ hgn
  have b2 : 1 * (gstep l x p).2.natAbs ≤ g.natAbs * (gstep l x p).2.natAbs := Nat.mul_le_mul_right _ hgn
  omega
def gfold (n : Nat) (T : TS) (f : Nat) (ks : List Nat) : Int × Int := ks.foldl (fun p k => gstep (T.at k (n + 1)) (T.at k f) p) (0, 1)
theorem gfold_snoc (n : Nat) (T : TS) (f : Nat) (ks : List Nat) (k : Nat) : gfold n T f (ks ++ [k]) = gstep (T.at k (n + 1)) (T.at k f) (gfold n T f ks) := by
  unfold gfold; rw [List.foldl_append]; rfl
theorem snoc_ind {α : Type} {P : List α → Prop} (h0 : P []) (h1 : ∀ xs x, P xs → P (xs ++ [x])) (xs : List α) : P xs := by
  have : ∀ n (xs : List α), xs.length = n → P xs := fun n => by
    induction n with
    | zero => intro xs h; rw [List.length_eq_zero_iff.mp h]; exact h0
    | succ n ih =>
      intro xs h
      have hne : xs ≠ [] := fun e => by rw [e] at h; simp at h
      rw [← List.dropLast_concat_getLast hne]
      exact h1 _ _ (ih _ (by rw [List.length_dropLast]; omega))
  exact this _ xs rfl
theorem gfold_bd {f w : Nat} (ks : List Nat) : (∀ k ∈ ks, 0 < T.at k (n + 1) ∧ (T.at k (n + 1)).natAbs ≤ 2 ^ w ∧ (T.at k f).natAbs ≤ 2 ^ w) →
    0 < (gfold n T f ks).2 ∧ (gfold n T f ks).1.natAbs ≤ 2 ^ (ks.length * (w + 1)) ∧ (gfold n T f ks).2.natAbs ≤ 2 ^ (ks.length * (w + 1)) := by
  induction ks using snoc_ind with
  | h0 => intro _; refine ⟨?_, ?_, ?_⟩ <;> simp [gfold]
  | h1 ks k ih =>
    intro h
    obtain ⟨i1, i2, i3⟩ := ih fun k' hk' => h k' (List.mem_append_left _ hk')
    obtain ⟨c1, c2, c3⟩ := h k (by simp)
    rw [gfold_snoc]
    have e : (ks ++ [k]).length * (w + 1) = ks.length * (w + 1) + (w + 1) := by rw [List.length_append, Nat.add_mul]; simp
    rw [e]
    obtain ⟨_, _, _, _, q, _⟩ := gstep_spec (x := T.at k f) c1 i1
    exact ⟨q, gstep_sz c1 i1 c2 c3 i2 i3⟩

theorem Lnk.helper (L : Lnk n m A W T a b) {k : Nat} (hk : k < m) (h : T.bs k = none) : 0 < T.at k (n + 1) ∧ ∀ c, c ≤ n → ((T.at k c : Int) : Rat) = ((T.at k (n + 1) : Int) : Rat) * a k c := by
  obtain ⟨o, R⟩ := L.row k hk
  have h1 := R.last
  rw [if_pos h] at h1
  have hp := R.pos
  rw [← h1] at hp
  refine ⟨by exact_mod_cast hp, fun c hc => ?_⟩
  show (((T.rows.getD k []).getD c 0 : Int) : Rat) = (((T.rows.getD k []).getD (n + 1) 0 : Int) : Rat) * a k c
  rw [h1]; exact R.ent c hc
theorem Lnk.entSz (L : Lnk n m A W T a b) {k c : Nat} (hk : k < m) : (T.at k c).natAbs ≤ W := by
  show ((T.rows.getD k []).getD c 0).natAbs ≤ W
  rw [List.getD_eq_getElem?_getD (l := T.rows.getD k [])]
  cases e : (T.rows.getD k [])[c]? with
  | none => simp
  | some x => exact L.bnd k hk x (List.mem_of_getElem? e)
/-- the helpers among the first i rows -/
def helpersTo (T : TS) (i : Nat) : List Nat := (List.range i).filter fun k => (T.bs k).isNone
theorem helpersTo_succ (T : TS) (i : Nat) : helpersTo T (i + 1) = if T.bs i = none then helpersTo T i ++ [i] else helpersTo T i := by
  unfold helpersTo
  rw [List.range_succ, List.filter_append]
  by_cases h : T.bs i = none
  · rw [if_pos h, List.filter_cons_of_pos (by rw [h]; rfl)]; rfl
  · rw [if_neg h, List.filter_cons_of_neg (by intro z; exact h (Option.isNone_iff_eq_none.mp z))]; simp
theorem mem_helpersTo {T : TS} {i k : Nat} : k ∈ helpersTo T i ↔ k < i ∧ T.bs k = none := by
  unfold helpersTo
  rw [List.mem_filter, List.mem_range]
  simp
theorem helpersI_eq (L : Lnk n m A W T a b) : helpersI T = helpersTo T m := by
  unfold helpersI helpersTo; rw [L.rl]
theorem gain_rat (L : Lnk n m A W T a b) {f : Nat} (hf : f ≤ n) : ∀ i, i ≤ m → 0 < (gfold n T f (helpersTo T i)).2 ∧
    (((gfold n T f (helpersTo T i)).1 : Int) : Rat) = (((gfold n T f (helpersTo T i)).2 : Int) : Rat) * sm i (fun k => if n < b k then a k f else 0)
  | 0, _ => by
    refine ⟨by show (0 : Int) < 1; omega, ?_⟩
    show ((0 : Int) : Rat) = ((1 : Int) : Rat) * 0
    push_cast; grind
  | i + 1, hi => by
    obtain ⟨h1, h2⟩ := gain_rat L hf i (by omega)
    show _ ∧ _ = _ * (sm i (fun k => if n < b k then a k f else 0) + if n < b i then a i f else 0)
    rw [helpersTo_succ]
    by_cases hb : T.bs i = none
    · rw [if_pos hb, if_pos ((L.hlp (by omega)).mpr hb), gfold_snoc]
      obtain ⟨c1, c2⟩ := L.helper (by omega) hb
      obtain ⟨g, g1, g2, g3, g4, _⟩ := gstep_spec (x := T.at i f) c1 h1
      refine ⟨g4, ?_⟩
      have e1 : (((gfold n T f (helpersTo T i)).1 * T.at i (n + 1) + T.at i f * (gfold n T f (helpersTo T i)).2 : Int) : Rat) = ((g * (gstep (T.at i (n + 1)) (T.at i f) (gfold n T f (helpersTo T i))).1 : Int) : Rat) := by rw [g2]
      have e2 : (((gfold n T f (helpersTo T i)).2 * T.at i (n + 1) : Int) : Rat) = ((g * (gstep (T.at i (n + 1)) (T.at i f) (gfold n T f (helpersTo T i))).2 : Int) : Rat) := by rw [g3]
      push_cast at e1 e2
      rw [h2, c2 f hf] at e1
      have hg : (g : Rat) ≠ 0 := by
        have : (0 : Rat) < (g : Rat) := by exact_mod_cast g1
        grind
      grind
    · rw [if_neg hb, if_neg (fun z => hb ((L.hlp (by omega)).mp z))]
      refine ⟨h1, ?_⟩
      rw [h2]; grind
theorem gain_sign (L : Lnk n m A W T a b) {f : Nat} (hf : f ≤ n) : 0 < gainI n T f ↔ 0 < gain m n a b f := by
  obtain ⟨h1, h2⟩ := gain_rat L hf m (Nat.le_refl m)
  have e : gainI n T f = (gfold n T f (helpersTo T m)).1 := by rw [← helpersI_eq L]; rfl
  rw [e]
  have h1' : (0 : Rat) < (((gfold n T f (helpersTo T m)).2 : Int) : Rat) := by exact_mod_cast h1
  show _ ↔ 0 < sm m (fun k => if n < b k then a k f else 0)
  constructor
  · intro hp
    have hp' : (0 : Rat) < (((gfold n T f (helpersTo T m)).1 : Int) : Rat) := by exact_mod_cast hp
    rw [h2] at hp'
    apply Classical.byContradiction
    intro hn
    have := Rat.mul_nonneg (Rat.le_of_lt h1') (show 0 ≤ -(sm m (fun k => if n < b k then a k f else 0)) by grind)
    grind
  · intro hp
    have := Rat.mul_pos h1' hp
    rw [← h2] at this
    exact_mod_cast this

/-! ### entering -/
def entP (n : Nat) (T : TS) (f : Nat) : Bool := !(T.basis.contains (some f)) && decide (0 < gainI n T f)
theorem enter_some {s : Nat} : enterI n T = some s ↔ s < n ∧ entP n T s = true ∧ ∀ f, f < s → entP n T f = false := by
  show (List.range n).find? (entP n T) = some s ↔ _
  rw [List.find?_range_eq_some]
  simp only [List.mem_range, Bool.not_eq_true']
  constructor
  · rintro ⟨h1, h2, h3⟩; exact ⟨h2, h1, fun f hf => h3 f hf⟩
  · rintro ⟨h1, h2, h3⟩; exact ⟨h2, h1, fun f hf => h3 f hf⟩
theorem enter_none : enterI n T = none ↔ ∀ f, f < n → entP n T f = false := by
  show (List.range n).find? (entP n T) = none ↔ _
  rw [List.find?_range_eq_none]
  simp
theorem basis_mem (L : Lnk n m A W T a b) {f : Nat} (hf : f < n) : T.basis.contains (some f) = true ↔ ∃ k, k < m ∧ b k = f := by
  rw [List.contains_iff_mem]
  constructor
  · intro h
    obtain ⟨k, hk, e⟩ := List.getElem_of_mem h
    have hk' : k < m := by rw [← L.bl]; exact hk
    have e' : T.bs k = some f := by unfold TS.bs; rw [List.getD_eq_getElem?_getD, List.getElem?_eq_getElem hk, e]; rfl
    rcases L.bas k hk' with ⟨h1, _⟩ | ⟨j, _, h1, h2⟩
    · rw [h1] at e'; cases e'
    · rw [h1] at e'; cases e'; exact ⟨k, hk', h2⟩
  · rintro ⟨k, hk, e⟩
    rcases L.bas k hk with ⟨_, h2⟩ | ⟨j, _, h1, h2⟩
    · omega
    · have hk' : k < T.basis.length := by rw [L.bl]; exact hk
      have e1 : j = f := by omega
      subst e1
      unfold TS.bs at h1
      rw [List.getD_eq_getElem?_getD, List.getElem?_eq_getElem hk'] at h1
      have h1' : T.basis[k] = some j := h1
      rw [← h1']
      exact List.getElem_mem _
theorem entP_true (L : Lnk n m A W T a b) {f : Nat} (hf : f < n) : entP n T f = true ↔ (∀ k, k < m → b k ≠ f) ∧ 0 < gain m n a b f := by
  unfold entP
  rw [Bool.and_eq_true, decide_eq_true_iff, gain_sign L (by omega), Bool.not_eq_true']
  constructor
  · rintro ⟨h1, h2⟩
    refine ⟨fun k hk e => ?_, h2⟩
    rw [(basis_mem L hf).mpr ⟨k, hk, e⟩] at h1
    cases h1
  · rintro ⟨h1, h2⟩
    refine ⟨?_, h2⟩
    cases q : T.basis.contains (some f) with
    | false => rfl
    | true => obtain ⟨k, hk, e⟩ := (basis_mem L hf).mp q; exact absurd e (h1 k hk)

/-! ### leaving -/
def rho (n : Nat) (T : TS) (f k : Nat) : Rat := ((T.at k n : Int) : Rat) / ((T.at k f : Int) : Rat)
def tau (T : TS) (k : Nat) : Nat := match T.bs k with
  | none => 0
  | some p => p + 1
theorem ahead_iff {one other f : Nat} (h1 : 0 < T.at one f) (h2 : 0 < T.at other f) : aheadI n T one other f = true ↔ rho n T f one < rho n T f other ∨ (rho n T f one = rho n T f other ∧ tau T one < tau T other) := by
  have p1 : (0 : Rat) < ((T.at one f : Int) : Rat) := by exact_mod_cast h1
  have p2 : (0 : Rat) < ((T.at other f : Int) : Rat) := by exact_mod_cast h2
  have hlt : T.at one n * T.at other f < T.at other n * T.at one f ↔ rho n T f one < rho n T f other := by
    unfold rho
    have e1 : ((T.at one n * T.at other f : Int) : Rat) = (((T.at one n : Int) : Rat) / ((T.at one f : Int) : Rat)) * (((T.at one f : Int) : Rat) * ((T.at other f : Int) : Rat)) := by push_cast; grind
    have e2 : ((T.at other n * T.at one f : Int) : Rat) = (((T.at other n : Int) : Rat) / ((T.at other f : Int) : Rat)) * (((T.at one f : Int) : Rat) * ((T.at other f : Int) : Rat)) := by push_cast; grind
    rw [← Rat.intCast_lt_intCast, e1, e2]
    exact Rat.mul_lt_mul_right (Rat.mul_pos p1 p2)
  have heq : T.at one n * T.at other f = T.at other n * T.at one f ↔ rho n T f one = rho n T f other := by
    unfold rho
    constructor
    · intro h
      have h' : ((T.at one n * T.at other f : Int) : Rat) = ((T.at other n * T.at one f : Int) : Rat) := by rw [h]
      push_cast at h'
      grind
    · intro h
      have h' : ((T.at one n * T.at other f : Int) : Rat) = ((T.at other n * T.at one f : Int) : Rat) := by push_cast; grind
      exact Rat.intCast_inj.mp h'
  unfold aheadI
  by_cases h : T.at one n * T.at other f = T.at other n * T.at one f
  · rw [if_neg (fun z => z h)]
    have hr := heq.mp h
    have hnl : ¬ rho n T f one < rho n T f other := by rw [hr]; grind
    unfold tau
    cases q : T.bs other with
    | none => simp [hnl]
    | some x =>
      cases q' : T.bs one with
      | none => simp [hr]
      | some y => simp [hr]
  · rw [if_pos h, decide_eq_true_iff, hlt]
    constructor
    · intro z; exact .inl z
    · rintro (z | ⟨z, _⟩)
      · exact z
      · exact absurd (heq.mpr z) h
def leaveTo (n : Nat) (T : TS) (f i : Nat) : Option Nat := (List.range i).foldl (leaveStep n T f) none
theorem leaveTo_succ (n : Nat) (T : TS) (f i : Nat) : leaveTo n T f (i + 1) = leaveStep n T f (leaveTo n T f i) i := by
  unfold leaveTo; rw [List.range_succ, List.foldl_append]; rfl
theorem leave_spec {f : Nat} : ∀ i, (leaveTo n T f i = none ∧ ∀ k, k < i → ¬ 0 < T.at k f) ∨
    ∃ q, leaveTo n T f i = some q ∧ q < i ∧ 0 < T.at q f ∧ ∀ k, k < i → 0 < T.at k f → aheadI n T k q f = false
  | 0 => .inl ⟨rfl, fun k hk => by omega⟩
  | i + 1 => by
    rw [leaveTo_succ]
    unfold leaveStep
    by_cases hp : 0 < T.at i f
    · rw [if_pos hp]
      rcases leave_spec (f := f) i with ⟨h1, h2⟩ | ⟨q, h1, h2, h3, h4⟩
      · rw [h1]
        refine .inr ⟨i, rfl, by omega, hp, fun k hk hk' => ?_⟩
        by_cases e : k = i
        · subst e
          cases z : aheadI n T k k f with
          | false => rfl
          | true => have := (ahead_iff hp hp).mp z; grind
        · exact absurd hk' (h2 k (by omega))
      · rw [h1]
        by_cases ha : aheadI n T i q f = true
        · refine .inr ⟨i, by show (if aheadI n T i q f = true then some i else some q) = some i; rw [if_pos ha], by omega, hp, fun k hk hk' => ?_⟩
          cases z : aheadI n T k i f with
          | false => rfl
          | true =>
            have z1 := (ahead_iff hk' hp).mp z
            have z2 := (ahead_iff hp h3).mp ha
            by_cases e : k = i
            · subst e; grind
            · have z3 := h4 k (by omega) hk'
              have z4 : aheadI n T k q f = true := (ahead_iff hk' h3).mpr (by grind)
              rw [z4] at z3; cases z3
        · refine .inr ⟨q, by show (if aheadI n T i q f = true then some i else some q) = some q; rw [if_neg ha], by omega, h3, fun k hk hk' => ?_⟩
          by_cases e : k = i
          · subst e; simpa using ha
          · exact h4 k (by omega) hk'
    · rw [if_neg hp]
      rcases leave_spec (f := f) i with ⟨h1, h2⟩ | ⟨q, h1, h2, h3, h4⟩
      · refine .inl ⟨h1, fun k hk => ?_⟩
        by_cases e : k = i
        · subst e; exact hp
        · exact h2 k (by omega)
      · refine .inr ⟨q, h1, by omega, h3, fun k hk hk' => ?_⟩
        by_cases e : k = i
        · subst e; exact absurd hk' hp
        · exact h4 k (by omega) hk'

theorem Lnk.at_sign (L : Lnk n m A W T a b) {k c : Nat} (hk : k < m) (hc : c ≤ n) : 0 < T.at k c ↔ 0 < a k c := by
  obtain ⟨o, R⟩ := L.row k hk
  exact R.sign hc
theorem Lnk.rho_eq (L : Lnk n m A W T a b) {k s : Nat} (hk : k < m) (hs : s ≤ n) : rho n T s k = a k n / a k s := by
  obtain ⟨o, R⟩ := L.row k hk
  have e1 := R.ent n (Nat.le_refl n)
  have e2 := R.ent s hs
  have hp := R.pos
  show (((T.rows.getD k []).getD n 0 : Int) : Rat) / (((T.rows.getD k []).getD s 0 : Int) : Rat) = _
  rw [e1, e2]
  by_cases h : a k s = 0
  · rw [h]; grind
  · grind

/-- what enters and what leaves make a turn by Bland's rule -/
theorem Lnk.stp (L : Lnk n m A W T a b) {s : Nat} (he : enterI n T = some s) : ∃ r, leaveI n T s = some r ∧ Stp m n a b s r := by
  obtain ⟨hs, ht, hle⟩ := enter_some.mp he
  obtain ⟨h1, h2⟩ := (entP_true L hs).mp ht
  have el : leaveI n T s = leaveTo n T s m := by unfold leaveI leaveTo; rw [L.rl]
  rw [el]
  rcases leave_spec (n := n) (T := T) (f := s) m with ⟨_, q2⟩ | ⟨r, q1, q2, q3, q4⟩
  · obtain ⟨k, hk, hp⟩ := sm_pos_ex h2
    by_cases hb : n < b k
    · rw [if_pos hb] at hp
      exact absurd ((L.at_sign hk (by omega)).mpr hp) (q2 k hk)
    · rw [if_neg hb] at hp; grind
  · refine ⟨r, q1, hs, h1, h2, fun c hc hnb => ?_, q2, (L.at_sign q2 (by omega)).mp q3, fun k hk hp => ?_, fun k hk hp heq hbr => ?_⟩
    · have := hle c hc
      apply Classical.byContradiction
      intro hn
      rw [(entP_true L (by omega)).mpr ⟨hnb, by grind⟩] at this
      cases this
    · have hp' := (L.at_sign hk (show s ≤ n by omega)).mpr hp
      have hr := (L.at_sign q2 (show s ≤ n by omega)).mp q3
      have z := q4 k hk hp'
      have z2 : ¬ (rho n T s k < rho n T s r ∨ (rho n T s k = rho n T s r ∧ tau T k < tau T r)) := fun y => by rw [(ahead_iff hp' q3).mpr y] at z; cases z
      rw [L.rho_eq hk (by omega), L.rho_eq q2 (by omega)] at z2
      have z3 : a r n / a r s ≤ a k n / a k s := by grind
      have z4 : a r n / a r s * (a r s * a k s) ≤ a k n / a k s * (a r s * a k s) := Rat.mul_le_mul_of_nonneg_right z3 (Rat.le_of_lt (Rat.mul_pos hr hp))
      have z5 : a r n / a r s * (a r s * a k s) = a r n * a k s := by grind
      have z6 : a k n / a k s * (a r s * a k s) = a k n * a r s := by grind
      rw [z5, z6] at z4
      exact z4
    · have hp' := (L.at_sign hk (show s ≤ n by omega)).mpr hp
      have hr := (L.at_sign q2 (show s ≤ n by omega)).mp q3
      have z := q4 k hk hp'
      have z2 : ¬ (rho n T s k < rho n T s r ∨ (rho n T s k = rho n T s r ∧ tau T k < tau T r)) := fun y => by rw [(ahead_iff hp' q3).mpr y] at z; cases z
      rw [L.rho_eq hk (by omega), L.rho_eq q2 (by omega)] at z2
      have z3 : a k n / a k s = a r n / a r s := by grind
      have z4 : ¬ tau T k < tau T r := fun y => z2 (.inr ⟨z3, y⟩)
      unfold tau at z4
      rcases L.bas r q2 with ⟨_, y2⟩ | ⟨j, _, y1, y2⟩
      · omega
      · rcases L.bas k hk with ⟨x1, x2⟩ | ⟨j', _, x1, x2⟩
        · rw [x1, y1] at z4
          exact absurd (show (0 : Nat) < j + 1 by omega) z4
        · rw [x1, y1] at z4
          have : ¬ j' + 1 < j + 1 := z4
          omega

/-! ### it ends -/
inductive EndsI (n : Nat) : Nat → TS → Prop
  | stop {T : TS} : enterI n T = none → EndsI n 0 T
  | go {T : TS} {s r k : Nat} : enterI n T = some s → leaveI n T s = some r → EndsI n k (turnI n T r s) → EndsI n (k + 1) T

structure Live (n m : Nat) (A : Nat → Nat → Int) (W : Nat) where
  T : TS
  a : Nat → Nat → Rat
  b : Nat → Nat
  L : Lnk n m A W T a b
  no : ¬ ∃ k, EndsI n k T

theorem live_step {M B : Nat} (O : Org m n A M) (hB : 2 * (m * M) ≤ 2 ^ B) (hm : m ≤ 13) (X : Live n m A (2 ^ (13 * B))) :
    ∃ (Y : Live n m A (2 ^ (13 * B))) (s l : Nat), Stp m n X.a X.b s l ∧ Y.a = piv X.a l s ∧ Y.b = upB X.b l s := by
  cases he : enterI n X.T with
  | none => exact absurd ⟨0, .stop he⟩ X.no
  | some s =>
    obtain ⟨r, hr, S⟩ := X.L.stp he
    exact ⟨⟨turnI n X.T r s, _, _, X.L.turn O hB hm S, fun ⟨k, hk⟩ => X.no ⟨k + 1, .go he hr hk⟩⟩, s, r, S, rfl, rfl⟩
theorem ends_all {M B : Nat} (O : Org m n A M) (hB : 2 * (m * M) ≤ 2 ^ B) (hm : m ≤ 13) (L : Lnk n m A (2 ^ (13 * B)) T a b) : ∃ k, EndsI n k T := by
  apply Classical.byContradiction
  intro hno
  let nxt : Live n m A (2 ^ (13 * B)) → Live n m A (2 ^ (13 * B)) := fun X => (live_step O hB hm X).choose
  have hn := fun X => (live_step O hB hm X).choose_spec
  let run : Nat → Live n m A (2 ^ (13 * B)) := fun i => Nat.rec ⟨T, a, b, L, hno⟩ (fun _ X => nxt X) i
  refine no_run (m := m) (n := n) (N := n + 1 + m) (a0 := fun i c => (A i c : Rat)) (a := fun i => (run i).a) (b := fun i => (run i).b) (s := fun i => (hn (run i)).choose) (l := fun i => (hn (run i)).choose_spec.choose)
    ⟨fun i => (run i).L.dic, by omega, fun i => (run i).L.feas, fun i => (hn (run i)).choose_spec.choose_spec.1, fun i => (hn (run i)).choose_spec.choose_spec.2.1, fun i => (hn (run i)).choose_spec.choose_spec.2.2, fun i k hk h => ?_⟩
  rcases (run i).L.bas k hk with ⟨_, h2⟩ | ⟨j, h0, _, h2⟩
  · exact h2
  · have h' : n < (run i).b k := h
    omega
end
end K47
end
section
/-! The first table; what the last table tells. -/
namespace K47

theorem sm_tail {f : Nat → Rat} {n : Nat} : ∀ d, (∀ i, n ≤ i → i < n + d → f i = 0) → sm (n + d) f = sm n f
  | 0, _ => rfl
  | d + 1, h => by
    show sm (n + d) f + f (n + d) = sm n f
    rw [sm_tail d fun i h1 h2 => h i h1 (by omega), h (n + d) (by omega) (by omega)]; grind

/-- the numbers of the first table: p things, n facts -/
def A0 (n p : Nat) (K : Nat → Nat → Int) (cst : Nat → Int) (i c : Nat) : Int :=
  if c < n then (if i < p then K c i else 0 - cst c) else if c = n then (if i = p then 1 else 0) else if c = n + 1 + i then 1 else 0
def initI (n p : Nat) (K : Nat → Nat → Int) (cst : Nat → Int) : TS :=
  ⟨(List.range p).map (fun i => (List.range n).map (fun j => K j i) ++ [0, 1]) ++ [(List.range n).map (fun j => 0 - cst j) ++ [1, 1]], List.replicate (p + 1) none⟩
theorem getD_two (f : Nat → Int) (N : Nat) (x y : Int) (c : Nat) : ((List.range N).map f ++ [x, y]).getD c 0 = if c < N then f c else if c = N then x else if c = N + 1 then y else 0 := by
  rw [List.getD_eq_getElem?_getD]
  by_cases h : c < N
  · rw [if_pos h, List.getElem?_append_left (by simpa using h), List.getElem?_map, List.getElem?_range h]; rfl
  · rw [if_neg h, List.getElem?_append_right (by simp; omega), List.length_map, List.length_range]
    by_cases h1 : c = N
    · rw [if_pos h1, h1, Nat.sub_self]; rfl
    · rw [if_neg h1]
      by_cases h2 : c = N + 1
      · rw [if_pos h2, h2, show N + 1 - N = 1 by omega]; rfl
      · rw [if_neg h2]
        have : 2 ≤ c - N := by omega
        rw [List.getElem?_eq_none (by simpa using this)]; rfl
theorem init_row {n p : Nat} {K : Nat → Nat → Int} {cst : Nat → Int} {k : Nat} (hk : k < p + 1) : (initI n p K cst).rows.getD k [] = (List.range n).map (fun c => A0 n p K cst k c) ++ [A0 n p K cst k n, 1] := by
  unfold initI
  rw [List.getD_eq_getElem?_getD]
  by_cases h : k < p
  · rw [List.getElem?_append_left (by simpa using h), List.getElem?_map, List.getElem?_range h]
    show (List.range n).map (fun j => K j k) ++ [0, 1] = _
    have e1 : A0 n p K cst k n = 0 := by unfold A0; rw [if_neg (by omega), if_pos rfl, if_neg (by omega)]
    rw [e1]
    congr 1
    refine List.map_congr_left fun c hc => ?_
    unfold A0
    rw [if_pos (List.mem_range.mp hc), if_pos h]
  · have e : k = p := by omega
    subst e
    rw [List.getElem?_append_right (by simp), List.length_map, List.length_range, Nat.sub_self]
    show (List.range n).map (fun j => 0 - cst j) ++ [1, 1] = _
    have e1 : A0 n k K cst k n = 1 := by unfold A0; rw [if_neg (by omega), if_pos rfl, if_pos rfl]
    rw [e1]
    congr 1
    refine List.map_congr_left fun c hc => ?_
    unfold A0
    rw [if_pos (List.mem_range.mp hc), if_neg (by omega)]
theorem org0 {n p M : Nat} {K : Nat → Nat → Int} {cst : Nat → Int} (hM : 1 ≤ M) (h1 : ∀ j i, j < n → i < p → (K j i).natAbs ≤ M) (h2 : ∀ j, j < n → (cst j).natAbs ≤ M) : Org (p + 1) n (A0 n p K cst) M where
  unit := fun i j _ _ => by
    unfold A0
    rw [if_neg (by omega), if_neg (by omega)]
    by_cases h : i = j
    · rw [if_pos (by omega), if_pos h]
    · rw [if_neg (by omega), if_neg h]
  sz := fun i c hi hc => by
    unfold A0
    split
    · rename_i h
      split
      · rename_i q; exact h1 c i h q
      · have := h2 c h; omega
    · split
      · split <;> simp <;> omega
      · split <;> simp <;> omega
theorem lnk0 {n p M W : Nat} {K : Nat → Nat → Int} {cst : Nat → Int} (hM : 1 ≤ M) (h1 : ∀ j i, j < n → i < p → (K j i).natAbs ≤ M) (h2 : ∀ j, j < n → (cst j).natAbs ≤ M) (hW : M ≤ W) :
    Lnk n (p + 1) (A0 n p K cst) W (initI n p K cst) (fun i c => ((A0 n p K cst i c : Int) : Rat)) (fun k => n + 1 + k) := by
  have O := org0 hM h1 h2
  have hbs : ∀ k, k < p + 1 → (initI n p K cst).bs k = none := fun k hk => by
    unfold initI TS.bs
    rw [List.getD_eq_getElem?_getD, List.getElem?_replicate, if_pos hk]; rfl
  refine ⟨by unfold initI; simp, by unfold initI; simp, ⟨fun k hk => by omega, fun k hk => ?_, fun k l hk hl h => ?_, fun v => Iff.rfl⟩, fun k hk => ⟨1, ?_⟩, fun k hk => .inl ⟨hbs k hk, rfl⟩, fun k hk => ?_, fun k hk x hx => ?_⟩
  · rw [O.unit k k hk hk, if_pos rfl]; push_cast; rfl
  · rw [O.unit k l hk hl, if_neg h]; push_cast; rfl
  · rw [hbs k hk, init_row hk]
    refine ⟨by grind, by simp, fun c hc => ?_, ?_⟩
    · rw [getD_two]
      by_cases h : c < n
      · rw [if_pos h]; grind
      · have e : c = n := by omega
        rw [if_neg h, if_pos e, e]; grind
    · rw [getD_two, if_neg (by omega), if_neg (by omega), if_pos rfl, if_pos rfl]; push_cast; rfl
  · show (0 : Rat) ≤ ((A0 n p K cst k n : Int) : Rat)
    have : (0 : Int) ≤ A0 n p K cst k n := by
      unfold A0
      rw [if_neg (by omega), if_pos rfl]
      split <;> omega
    exact_mod_cast this
  · rw [init_row hk] at hx
    rcases List.mem_append.mp hx with h | h
    · obtain ⟨c, hc, rfl⟩ := List.mem_map.mp h
      have := List.mem_range.mp hc
      exact Nat.le_trans (O.sz k c hk (by omega)) hW
    · have := O.sz k n hk (by omega)
      simp at h
      rcases h with h | h
      · rw [h]; omega
      · rw [h]; simp; omega

section
variable {n m W : Nat} {A : Nat → Nat → Int} {T : TS} {a : Nat → Nat → Rat} {b : Nat → Nat}

/-- nothing enters, a helper is left with something: no facts' sum -/
theorem no_sum {M : Nat} (O : Org m n A M) (L : Lnk n m A W T a b) (he : enterI n T = none) {k0 : Nat} (hk0 : k0 < m) (hb0 : T.bs k0 = none) (hx : T.at k0 n ≠ 0) (lam : Nat → Int) (hl : ∀ j, j < n → 0 ≤ lam j) (sg : Int) (hsg : 0 < sg)
    (h : ∀ i, i < m → si n (fun j => A i j * lam j) = sg * A i n) : False := by
  let v : Nat → Rat := fun c => if c < n then ((lam c : Int) : Rat) else if c = n then -((sg : Int) : Rat) else 0
  have hv : ∀ g : Nat → Rat, sm (n + 1 + m) (fun c => g c * v c) = sm n (fun c => g c * ((lam c : Int) : Rat)) - g n * ((sg : Int) : Rat) := fun g => by
    rw [sm_tail m fun i h1 _ => by
      have e : v i = 0 := by show (if i < n then _ else _) = _; rw [if_neg (by omega), if_neg (by omega)]
      rw [e]; grind]
    show sm n (fun c => g c * v c) + g n * v n = _
    have e : v n = -((sg : Int) : Rat) := by show (if n < n then _ else _) = _; rw [if_neg (by omega), if_pos rfl]
    rw [e, sm_congr (g := fun c => g c * ((lam c : Int) : Rat)) fun c hc => by
      have e2 : v c = ((lam c : Int) : Rat) := by show (if c < n then _ else _) = _; rw [if_pos hc]
      rw [e2]]
    grind
  have hn0 : Null m (n + 1 + m) (fun i c => ((A i c : Int) : Rat)) v := fun i hi => by
    rw [hv]
    have e := h i hi
    have e2 : ((si n (fun j => A i j * lam j) : Int) : Rat) = ((sg * A i n : Int) : Rat) := by rw [e]
    rw [si_cast] at e2
    have e3 : sm n (fun c => ((A i c : Int) : Rat) * ((lam c : Int) : Rat)) = sm n (fun j => ((A i j * lam j : Int) : Rat)) := sm_congr fun c _ => by push_cast; rfl
    rw [e3, e2]; push_cast; grind
  have hg := gain_null (n := n) (b := b) ((L.dic.null v).mpr hn0)
  rw [hv] at hg
  have hle : ∀ c, c < n → gain m n a b c ≤ 0 := fun c hc => by
    have hf := enter_none.mp he c hc
    by_cases hb : ∃ k, k < m ∧ b k = c
    · obtain ⟨k, hk, e⟩ := hb
      rw [← e, gain_basic L.dic hk, if_neg (by omega)]; grind
    · apply Classical.byContradiction
      intro hn
      rw [(entP_true L hc).mpr ⟨fun k hk e => hb ⟨k, hk, e⟩, by grind⟩] at hf
      cases hf
  have hs := sm_nonpos (n := n) (f := fun c => gain m n a b c * ((lam c : Int) : Rat)) fun c hc => by
    have h1 := hle c hc
    have h2 : (0 : Rat) ≤ ((lam c : Int) : Rat) := by exact_mod_cast hl c hc
    have := Rat.mul_nonneg (show 0 ≤ -(gain m n a b c) by grind) h2
    grind
  have hsg' : (0 : Rat) < ((sg : Int) : Rat) := by exact_mod_cast hsg
  have hz : gain m n a b n ≤ 0 := by
    apply Classical.byContradiction
    intro hn
    have := Rat.mul_pos (show 0 < gain m n a b n by grind) hsg'
    grind
  have hnn : ∀ i, i < m → 0 ≤ (if n < b i then a i n else 0) := fun i hi => by
    split
    · exact L.feas i hi
    · grind
  have h0 := sm_eq_zero hnn (show sm m (fun k => if n < b k then a k n else 0) = 0 by
    have h1 := sm_nonneg hnn
    have h2 : sm m (fun k => if n < b k then a k n else 0) ≤ 0 := hz
    grind) k0 hk0
  rw [if_pos ((L.hlp hk0).mpr hb0)] at h0
  obtain ⟨o, R⟩ := L.row k0 hk0
  exact hx ((R.zero (Nat.le_refl n)).mpr h0)

/-! ### what is found -/
def scaleStep (T : TS) (sc : Int) (k : Nat) : Int := match T.bs k with
  | none => sc
  | some j => sc * (T.at k j / ((Int.gcd sc (T.at k j) : Nat) : Int))
def scaleTo (T : TS) (i : Nat) : Int := (List.range i).foldl (scaleStep T) 1
theorem scaleTo_succ (T : TS) (i : Nat) : scaleTo T (i + 1) = scaleStep T (scaleTo T i) i := by
  unfold scaleTo; rw [List.range_succ, List.foldl_append]; rfl
theorem Lnk.own (L : Lnk n m A W T a b) {k j : Nat} (hk : k < m) (h : T.bs k = some j) : j < n ∧ b k = j ∧ 0 < T.at k j ∧ ∀ c, c ≤ n → ((T.at k c : Int) : Rat) = ((T.at k j : Int) : Rat) * a k c := by
  rcases L.bas k hk with ⟨h1, _⟩ | ⟨j', h0, h1, h2⟩
  · rw [h] at h1; cases h1
  · rw [h] at h1; cases h1
    obtain ⟨o, R⟩ := L.row k hk
    have h3 : ((T.at k j : Int) : Rat) = o := by
      have := R.ent j (by omega)
      have e1 : a k j = 1 := by rw [← h2]; exact L.dic.one k hk
      rw [e1] at this
      show (((T.rows.getD k []).getD j 0 : Int) : Rat) = o
      rw [this]; grind
    refine ⟨h0, h2, ?_, fun c hc => ?_⟩
    · have hp := R.pos
      rw [← h3] at hp
      exact_mod_cast hp
    · rw [h3]; exact R.ent c hc
theorem scale_step {sc o : Int} (h : 0 < sc) (ho : 0 < o) : 0 < sc * (o / ((Int.gcd sc o : Nat) : Int)) ∧ sc ∣ sc * (o / ((Int.gcd sc o : Nat) : Int)) ∧ o ∣ sc * (o / ((Int.gcd sc o : Nat) : Int)) ∧ (o / ((Int.gcd sc o : Nat) : Int)).natAbs ≤ o.natAbs ∧ 0 < (Int.gcd sc o : Nat) := by
  have hg : 0 < Int.gcd sc o := Int.gcd_pos_of_ne_zero_left _ (by omega)
  obtain ⟨q, hq⟩ := Int.gcd_dvd_right sc o
  obtain ⟨q', hq'⟩ := Int.gcd_dvd_left sc o
  have hg' : (0 : Int) < ((Int.gcd sc o : Nat) : Int) := by omega
  have e : o / ((Int.gcd sc o : Nat) : Int) = q := by
    have h1 : ((Int.gcd sc o : Nat) : Int) * q / ((Int.gcd sc o : Nat) : Int) = q := Int.mul_ediv_cancel_left q (by omega)
    rw [← hq] at h1
    exact h1
  have hqp : 0 < q := Int.lt_of_mul_lt_mul_left (a := ((Int.gcd sc o : Nat) : Int)) (by rw [Int.mul_zero, ← hq]; exact ho) (Int.le_of_lt hg')
  refine ⟨?_, Int.dvd_mul_right _ _, ?_, Int.natAbs_ediv_le_natAbs _ _, hg⟩
  · rw [e]; exact Int.mul_pos h hqp
  · rw [e]
    refine ⟨q', ?_⟩
    have h3 : o * q' = ((Int.gcd sc o : Nat) : Int) * q * q' := by rw [← hq]
    have h4 : sc * q = ((Int.gcd sc o : Nat) : Int) * q' * q := by rw [← hq']
    rw [h3, h4]; grind
theorem scale_spec {w : Nat} (L : Lnk n m A (2 ^ w) T a b) : ∀ i, i ≤ m → 0 < scaleTo T i ∧ (scaleTo T i).natAbs ≤ 2 ^ (i * w) ∧ ∀ k j, k < i → T.bs k = some j → T.at k j ∣ scaleTo T i
  | 0, _ => ⟨by show (0 : Int) < 1; omega, by show (1 : Int).natAbs ≤ 2 ^ (0 * w); simp, fun k j hk _ => by omega⟩
  | i + 1, hi => by
    obtain ⟨h1, h2, h3⟩ := scale_spec L i (by omega)
    rw [scaleTo_succ]
    unfold scaleStep
    cases hb : T.bs i with
    | none =>
      refine ⟨h1, Nat.le_trans h2 (Nat.pow_le_pow_right (by omega) (Nat.mul_le_mul_right _ (by omega))), fun k j hk hj => ?_⟩
      by_cases e : k = i
      · rw [e, hb] at hj; cases hj
      · exact h3 k j (by omega) hj
    | some j =>
      obtain ⟨_, _, ho, _⟩ := L.own (show i < m by omega) hb
      obtain ⟨s1, s2, s3, s4, _⟩ := scale_step h1 ho
      refine ⟨s1, ?_, fun k j' hk hj => ?_⟩
      · have h5 := L.entSz (c := j) (show i < m by omega)
        show (scaleTo T i * _).natAbs ≤ _
        rw [Int.natAbs_mul, Nat.add_mul, Nat.one_mul, Nat.pow_add]
        exact Nat.mul_le_mul h2 (Nat.le_trans s4 h5)
      · by_cases e : k = i
        · rw [e, hb] at hj; cases hj; rw [e]; exact s3
        · exact Int.dvd_trans (h3 k j' (by omega) hj) s2
/-- the pairs found in the first i rows -/
def foundStep (n : Nat) (T : TS) (sc : Int) (k : Nat) : List (Nat × Int) := match T.bs k with
  | none => []
  | some j => if 0 < T.at k n then [(j, T.at k n * (sc / T.at k j))] else []
def foundTo (n : Nat) (T : TS) (sc : Int) (i : Nat) : List (Nat × Int) := (List.range i).flatMap (foundStep n T sc)
theorem foundTo_succ (n : Nat) (T : TS) (sc : Int) (i : Nat) : foundTo n T sc (i + 1) = foundTo n T sc i ++ foundStep n T sc i := by
  unfold foundTo; rw [List.range_succ, List.flatMap_append]; simp
theorem mem_found {sc : Int} {i : Nat} {p : Nat × Int} (h : p ∈ foundTo n T sc i) : ∃ k, k < i ∧ T.bs k = some p.1 ∧ 0 < T.at k n ∧ p.2 = T.at k n * (sc / T.at k p.1) := by
  unfold foundTo at h
  obtain ⟨k, hk, hp⟩ := List.mem_flatMap.mp h
  refine ⟨k, List.mem_range.mp hk, ?_⟩
  unfold foundStep at hp
  split at hp
  · simp at hp
  · rename_i j hj
    split at hp
    · rename_i hpos
      simp at hp
      rw [hp]; exact ⟨hj, hpos, rfl⟩
    · simp at hp
theorem found_keys (L : Lnk n m A W T a b) {sc : Int} : ∀ i, i ≤ m → ((foundTo n T sc i).map (·.1)).Nodup
  | 0, _ => by simp [foundTo]
  | i + 1, hi => by
    rw [foundTo_succ, List.map_append, List.nodup_append]
    refine ⟨found_keys L i (by omega), ?_, fun x hx y hy e => ?_⟩
    · unfold foundStep
      split
      · simp
      · split <;> simp
    · obtain ⟨p, hp, rfl⟩ := List.mem_map.mp hx
      obtain ⟨k, hk, h1, _, _⟩ := mem_found hp
      obtain ⟨q, hq, rfl⟩ := List.mem_map.mp hy
      have h2 : T.bs i = some q.1 := by
        unfold foundStep at hq
        split at hq
        · simp at hq
        · rename_i j hj
          split at hq
          · simp at hq; rw [hq]; exact hj
          · simp at hq
      have b1 := (L.own (show k < m by omega) h1).2.1
      have b2 := (L.own (show i < m by omega) h2).2.1
      have : k = i := L.dic.inj (by omega) (by omega) (by rw [b1, b2]; exact e)
      omega
theorem found_sum (L : Lnk n m A W T a b) {sc : Int} (g : Nat → Int) : ∀ i, i ≤ m → ((foundTo n T sc i).map fun p => p.2 * g p.1).sum = si i (fun k => match T.bs k with | none => 0 | some j => T.at k n * (sc / T.at k j) * g j)
  | 0, _ => by simp [foundTo, si]
  | i + 1, hi => by
    rw [foundTo_succ, List.map_append, List.sum_append, found_sum L g i (by omega)]
    show _ = si i _ + (match T.bs i with | none => 0 | some j => T.at i n * (sc / T.at i j) * g j)
    congr 1
    unfold foundStep
    cases hb : T.bs i with
    | none => simp
    | some j =>
      by_cases hp : 0 < T.at i n
      · simp [hp]
      · have h1 := L.feas i (by omega)
        have h2 : T.at i n = 0 := by
          obtain ⟨o, R⟩ := L.row i (by omega)
          have h3 := R.sign (Nat.le_refl n)
          refine (R.zero (Nat.le_refl n)).mpr ?_
          have h4 : ¬ 0 < a i n := fun z => hp (h3.mpr z)
          grind
        simp [h2]
/-- the sum that is found is right -/
theorem found_right {M w : Nat} (O : Org m n A M) (L : Lnk n m A (2 ^ w) T a b) (h0 : ∀ k, k < m → T.bs k = none → T.at k n = 0) {i : Nat} (hi : i < m) :
    ((foundTo n T (scaleTo T m) m).map fun p => p.2 * A i p.1).sum = scaleTo T m * A i n := by
  obtain ⟨s1, _, s3⟩ := scale_spec L m (Nat.le_refl m)
  rw [found_sum L (A i) m (Nat.le_refl m)]
  have hv := (L.dic.null _).mp (vec_null L.dic (show n < n + 1 + m by omega)) i hi
  rw [form_vec L.dic (show n < n + 1 + m by omega)] at hv
  have e : ((si m (fun k => match T.bs k with | none => 0 | some j => T.at k n * (scaleTo T m / T.at k j) * A i j) : Int) : Rat) = ((scaleTo T m : Int) : Rat) * sm m (fun k => a k n * ((A i (b k) : Int) : Rat)) := by
    rw [si_cast, ← sm_mul]
    refine sm_congr fun k hk => ?_
    cases hb : T.bs k with
    | none =>
      obtain ⟨o, R⟩ := L.row k hk
      have h1 : a k n = 0 := (R.zero (Nat.le_refl n)).mp (h0 k hk hb)
      show (((0 : Int) : Int) : Rat) = _
      rw [h1]; push_cast; grind
    | some j =>
      obtain ⟨j1, j2, j3, j4⟩ := L.own hk hb
      obtain ⟨q, hq⟩ := s3 k j hk hb
      have e1 : scaleTo T m / T.at k j = q := by rw [hq]; exact Int.mul_ediv_cancel_left q (by omega)
      show ((T.at k n * (scaleTo T m / T.at k j) * A i j : Int) : Rat) = _
      have e2 : ((scaleTo T m : Int) : Rat) = ((T.at k j : Int) : Rat) * (q : Rat) := by rw [hq]; push_cast; rfl
      rw [e1, e2, j2]
      push_cast
      rw [j4 n (Nat.le_refl n)]; grind
  have e3 : ((scaleTo T m * A i n : Int) : Rat) = ((scaleTo T m : Int) : Rat) * sm m (fun k => a k n * ((A i (b k) : Int) : Rat)) := by push_cast; grind
  exact Rat.intCast_inj.mp (e.trans e3.symm)
end
end K47
end
section
set_option Elab.async false
set_option maxRecDepth 100000
set_option maxHeartbeats 4000000
set_option autoImplicit false
/-! The text by places; divisor, shortened. -/
namespace K47
open PySem L2 PySem.Spec PyProof.Rows
def top (i : Nat) : Stmt := PySem.Challenge.pw_everyfork_k47_whole_sums_found.main.body.getD i (.Pass ⟨0, 0, 0, 0⟩)
abbrev sDiv : Stmt := top 1
abbrev sShort : Stmt := top 2
abbrev sInit : Stmt := inClass (top 3) 0
abbrev sHelp : Stmt := inClass (top 3) 1
abbrev sGain : Stmt := inClass (top 3) 2
abbrev sEnter : Stmt := inClass (top 3) 3
abbrev sLeave : Stmt := inClass (top 3) 4
abbrev sAhead : Stmt := inClass (top 3) 5
abbrev sTurn : Stmt := inClass (top 3) 6
abbrev sSolve : Stmt := inClass (top 3) 7
abbrev sSummed : Stmt := top 4
abbrev sFeed : Stmt := top 6
abbrev sNext : Stmt := top 7
abbrev sMade : Stmt := top 9
abbrev sSum : Stmt := top 15
abbrev sThings : Stmt := top 20
abbrev sLinear : Stmt := top 21
abbrev sRight : Stmt := top 22
abbrev sBorne : Stmt := top 23
abbrev sOften : Stmt := top 24
abbrev sWithin : Stmt := top 25
abbrev sHeld : Stmt := top 26
abbrev sShuf : Stmt := top 27
abbrev sLaw : Stmt := top 28

/-- the built-in names that the text does not bind; the class -/
structure Txt (K : PySem.W.Frag) (mg : Str → Option Value) (C : Addr) : Prop where
  mkC : PySem.W.makesIn K C = true
  kpC : PySem.W.keepIn K (.ref C) = true
  len : mg "len" = none
  abs : mg "abs" = none
  sorted : mg "sorted" = none
  dict : mg "dict" = none
  range : mg "range" = none
  any : mg "any" = none
  tuple : mg "tuple" = none
  repr : mg "repr" = none
  isinstance : mg "isinstance" = none
  int : mg "int" = none
  bool : mg "bool" = none
  list : mg "list" = none
  sum : mg "sum" = none
  min : mg "min" = none
  cl : Cls K C
  nW : NoAttr K C "width"
  nR : NoAttr K C "rows"
  nB : NoAttr K C "basis"
  mgC : mg "Table" = some (.ref C)

/-- whole numbers of at most b bits in size -/
abbrev Fit (b : Nat) (x : Int) : Prop := x.natAbs ≤ 2 ^ b
/-- products of whole numbers of together at most 60 million bits -/
def CMulB (i j : Int) : Prop := ∃ a b : Nat, Fit a i ∧ Fit b j ∧ a + b ≤ 60000000
theorem CMulB.ok {i j : Int} (h : CMulB i j) : IntMulOk i j := by
  obtain ⟨a, b, ha, hb, hab⟩ := h
  have bits : ∀ (x : Int) (c : Nat), x.natAbs ≤ 2 ^ c → Builtin.Int.intBits x ≤ c + 2 := fun x c hx => by
    unfold Builtin.Int.intBits
    split
    · omega
    · rename_i h0
      have h1 : x.natAbs < 2 ^ (c + 1) := by rw [Nat.pow_succ]; have := Nat.pow_pos (n := c) (show 0 < 2 by omega); omega
      have h2 : x.natAbs ≠ 0 := by
        intro z
        apply h0
        simp
        omega
      have h3 := (Nat.log2_lt h2).mpr h1
      omega
  have h1 := bits i a ha
  have h2 := bits j b hb
  have e : bitsLine = 134217728 := by decide
  unfold IntMulOk
  intro z
  rw [Bool.and_eq_true] at z
  have z2 := z.2
  unfold Builtin.Int.intTooBig at z2
  have z3 := of_decide_eq_true z2
  rw [e] at z3
  omega
theorem op_mulB {X : Cx} : OpR X (binaryOp .Mult) (rI CMulB fun i j => .int (i * j)) := opI fun _ _ _ _ _ _ _ hc q => PyProof.Rows.mul_int q hc.ok

def spDiv : Sp := fun vs H Q _ => ∃ a b : Int, vs = [.int a, .int b] ∧ Q (.int ((Int.gcd a b : Nat) : Int)) H
theorem fmod_lt (a : Int) {b : Int} (hb : b ≠ 0) : (a.fmod b).natAbs < b.natAbs := by
  rcases Int.lt_or_lt_of_ne hb with h | h
  · have h1 : a.fmod b = -((-a).fmod (-b)) := by rw [Int.neg_fmod_neg]; omega
    have h2 := Int.fmod_nonneg_of_pos (-a) (show 0 < -b by omega)
    have h3 := Int.fmod_lt_of_pos (-a) (show 0 < -b by omega)
    omega
  · have h2 := Int.fmod_nonneg_of_pos a h
    have h3 := Int.fmod_lt_of_pos a h
    omega
theorem gcd_fmod (a b : Int) (_hb : b ≠ 0) : Int.gcd b (a.fmod b) = Int.gcd a b := by
  rw [Int.gcd_comm a b]
  have e : a.fmod b = a - b * a.fdiv b := by rw [Int.fmod_def]
  rw [e, Int.mul_comm]
  exact Int.gcd_sub_mul_right_right ..
section
variable (P : Program) (w : World) (K : PySem.W.Frag) (mg : Str → Option Value) (base : Heap)
/-- a def of the module that keeps its promise -/
def Cal (x : Str) (k : Nat) (ps : List Str) (sp : Sp) : Prop := ∃ (f : Addr) (fd : FuncData), FnOk P w K mg base CX0 k f fd ps sp ∧ mg x = some (.ref f) ∧ PySem.W.keepIn K (.ref f) = true ∧ Binds K fd ps []
/-- a method of the class at C that keeps its promise -/
def CalM (C : Addr) (m : Str) (k : Nat) (ps : List Str) (sp : Sp) : Prop := ∃ (f : Addr) (fd : FuncData), FnOk P w K mg base CX0 k f fd ps sp ∧ Meth K C m f ∧ Binds K fd ps []
end
/-- a def as the top has left it -/
structure Df (K : PySem.W.Frag) (mg : Str → Option Value) (x : Str) (st : Stmt) (ps : List Str) : Prop where
  ex : ∃ (f : Addr) (fd : FuncData), Fun K x x st f fd ∧ mg x = some (.ref f) ∧ Binds K fd ps []
structure DfM (K : PySem.W.Frag) (C : Addr) (m qual : Str) (st : Stmt) (ps : List Str) : Prop where
  ex : ∃ (f : Addr) (fd : FuncData), Fun K m qual st f fd ∧ Meth K C m f ∧ Binds K fd ps []
section
variable {P : Program} {w : World} {K : PySem.W.Frag} {mg : Str → Option Value} {base : Heap}
theorem Df.cal {x : Str} {st : Stmt} {N ps : List Str} {k : Nat} {sp : Sp} (D : Df K mg x st ps) (S : FnScope N ps (defScope st)) (len : ∀ vs H Q E, sp vs H Q E → vs.length = ps.length)
    (hbody : ∀ (qual : Str) (f : Addr) (cdv : Value) (A : Around) (outer : List Env) (s : Shared) (H : Hp) (vs : List V) (Q : VK) (E : XK), Room k (A.deeper (envOfC qual (defScope st) s.heap.objs.size f cdv)) → sp vs H Q E →
      ∃ t, PSs (cxOf CX0 P w K mg base N qual (defScope st) f cdv A outer s H E).nox (defBody st) t ∧ t { nx := fun _ H' => Q .non H', rt := Q } (start N vs) H) : Cal P w K mg base x (k + 1) ps sp := by
  obtain ⟨f, fd, F, m, b⟩ := D.ex
  exact ⟨f, fd, F.ok S len (hbody x f), m, F.kp, b⟩
theorem DfM.cal {C : Addr} {m qual : Str} {st : Stmt} {N ps : List Str} {k : Nat} {sp : Sp} (D : DfM K C m qual st ps) (S : FnScope N ps (defScope st)) (len : ∀ vs H Q E, sp vs H Q E → vs.length = ps.length)
    (hbody : ∀ (qual : Str) (f : Addr) (cdv : Value) (A : Around) (outer : List Env) (s : Shared) (H : Hp) (vs : List V) (Q : VK) (E : XK), Room k (A.deeper (envOfC qual (defScope st) s.heap.objs.size f cdv)) → sp vs H Q E →
      ∃ t, PSs (cxOf CX0 P w K mg base N qual (defScope st) f cdv A outer s H E).nox (defBody st) t ∧ t { nx := fun _ H' => Q .non H', rt := Q } (start N vs) H) : CalM P w K mg base C m (k + 1) ps sp := by
  obtain ⟨f, fd, F, mm, b⟩ := D.ex
  exact ⟨f, fd, F.ok S len (hbody qual f), mm, b⟩
theorem scDiv : FnScope ["one", "other"] ["one", "other"] (defScope sDiv) := ⟨rfl, rfl, rfl, by decide +kernel, rfl, by decide +kernel, by decide +kernel⟩
theorem cal_div {C : Addr} (D : Df K mg "divisor" sDiv ["one", "other"]) (T : Txt K mg C) : Cal P w K mg base "divisor" 1 ["one", "other"] spDiv := by
  refine D.cal scDiv (fun vs H Q E h => ?_) (fun _ _ cdv A outer s H vs Q E hr h => ?_)
  · obtain ⟨a, b, rfl, _⟩ := h
    rfl
  · obtain ⟨a, b, rfl, k⟩ := h
    refine ⟨_, pss_cons (ps_while PassesOwn.never (pt_cmpR op_ne (pv 1) pe_int (nomark _)) (pss_one (ps_par (i := 0) (j := 1) rfl scDiv.nd rfl rfl (by decide) rfl rfl (pa_cons (pv 1) (pa_cons (pe_op op_modN (pv 0) (pv 1)) pa_nil)) (by rfl))))
      (pss_one (ps_ret (pe_callB call_abs (by rfl) T.abs (by decide +kernel) (pa_cons (pv 0) pa_nil)))), ?_⟩
    refine ⟨fun m σ H' => ∃ x y : Int, σ = [some (.int x), some (.int y)] ∧ m = y.natAbs ∧ Int.gcd x y = Int.gcd a b ∧ H' = H, ⟨b.natAbs, a, b, rfl, rfl, rfl, rfl⟩, ?_⟩
    rintro m σ H' ⟨x, y, rfl, rfl, hg, rfl⟩
    refine ⟨_, rfl, rfl, _, rfl, ?_⟩
    by_cases hy : y = 0
    · subst hy
      refine iteNS rfl ?_
      refine ⟨_, rfl, _, rfl, ?_⟩
      have e : (if x < 0 then -x else x) = ((Int.gcd a b : Nat) : Int) := by
        rw [← hg, Int.gcd_zero_right]; split <;> omega
      rw [e]
      exact k
    · have hd : decide (V.int y = V.int 0) = false := decide_eq_false fun z => hy (V.int.inj z)
      rw [hd]
      refine iteT ⟨_, fun σ' H' h => h, ?_⟩
      refine ⟨_, rfl, _, rfl, _, rfl, _, _, rfl, rfl, hy, _, _, rfl, _, fmod_lt x hy, _, _, rfl, rfl, ?_, rfl⟩
      rw [gcd_fmod x y hy]; exact hg

theorem Fit.mono {a b : Nat} {x : Int} (h : Fit a x) (hab : a ≤ b) : Fit b x := Nat.le_trans h (Nat.pow_le_pow_right (by omega) hab)
theorem fit_div {i j : Int} {b : Nat} (h : 0 < j) (hb : Fit b j) (hb9 : b < 9000) : CDivW i j := by
  refine ⟨h, ?_⟩
  have h1 : j.natAbs < 2 ^ 9000 := Nat.lt_of_le_of_lt hb (Nat.pow_lt_pow_right (by omega) hb9)
  exact (Nat.log2_lt (by omega)).mpr h1
theorem fit_mul {i j : Int} {a b : Nat} (ha : Fit a i) (hb : Fit b j) (h : a + b ≤ 60000000) : CMulB i j := ⟨a, b, ha, hb, h⟩
theorem ints_at {ns : List Int} {i : Nat} {x : V} (h : (ns.map V.int)[i]? = some x) : ∃ z, ns[i]? = some z ∧ x = .int z := by
  rw [List.getElem?_map] at h
  cases e : ns[i]? with
  | none => rw [e] at h; cases h
  | some z => rw [e] at h; exact ⟨z, rfl, (Option.some.inj h).symm⟩
theorem take_succ_get {α : Type} {xs : List α} {i : Nat} {x : α} (h : xs[i]? = some x) : xs.take (i + 1) = xs.take i ++ [x] := by
  rw [List.take_add_one, h]; rfl
/-! ### shortened -/
def spShort : Sp := fun vs H Q _ => ∃ (a : Addr) (row : List Int), vs = [.ref a] ∧ H a = some (.lst (row.map V.int)) ∧ row.length ≤ 1000 ∧ (∀ x ∈ row, Fit 8000 x) ∧
  ∀ p H', Same H H' → (p = a ∨ H p = none) → H' p = some (.lst ((short row).map V.int)) → Q (.ref p) H'
theorem scShort : FnScope ["row", "by", "number"] ["row"] (defScope sShort) := ⟨rfl, rfl, rfl, by decide +kernel, rfl, by decide +kernel, by decide +kernel⟩
theorem gcdF_fit {b : Nat} (xs : List Int) (h : ∀ x ∈ xs, Fit b x) (h0 : xs = [] ∨ ∃ x ∈ xs, x ≠ 0) : Fit b (gcdL xs) := by
  rcases h0 with rfl | ⟨x, hx, hn⟩
  · show (0 : Int).natAbs ≤ _; simp
  · have h1 := gcdL_dvd hx
    have h2 := Int.natAbs_dvd_natAbs.mpr h1
    exact Nat.le_trans (Nat.le_of_dvd (by omega) h2) (h x hx)
theorem gcdL_ne {xs : List Int} (h : 1 < gcdL xs) : ∃ x ∈ xs, x ≠ 0 := by
  apply Classical.byContradiction
  intro hn
  have h0 : ∀ x ∈ xs, x = 0 := fun x hx => Classical.byContradiction fun z => hn ⟨x, hx, z⟩
  have h1 := gcdL_greatest (xs := xs) (d := (gcdL xs).natAbs + 1) fun x hx => by rw [h0 x hx]; exact Int.dvd_zero _
  have h2 := Int.le_of_dvd (by omega) h1
  omega
theorem cal_short {C : Addr} (D : Df K mg "shortened" sShort ["row"]) (cD : Cal P w K mg base "divisor" 1 ["one", "other"] spDiv) (_T : Txt K mg C) : Cal P w K mg base "shortened" 2 ["row"] spShort := by
  obtain ⟨fD, fdD, GD, mD, kD, bD⟩ := cD
  refine D.cal scShort (fun vs H Q E h => ?_) (fun _ _ cdv A outer s H vs Q E hr h => ?_)
  · obtain ⟨a, row, rfl, _⟩ := h
    rfl
  · obtain ⟨a, row, rfl, ha, hlen, hfit, k⟩ := h
    have nd := scShort.nd
    refine ⟨_, pss_cons (ps_set (i := 1) nd rfl (Or.inr rfl) pe_int)
      (pss_cons (ps_for PassesOwn.never rfl (pi_list (pv 0)) (pg_name (i := 2) nd rfl (Or.inl rfl)) (pss_one (ps_set (i := 1) nd rfl (Or.inr rfl) (pe_call GD hr (by rfl) mD kD bD .nil pass0 (pa_cons (pv 1) (pa_cons (pv 2) pa_nil))))))
      (pss_cons (ps_if (pt_cmpR op_le (pv 1) pe_int (nomark _)) (pss_one (ps_ret (pv 0))) pss_nil)
      (pss_one (ps_ret (pe_lc (own := [("number", 2)]) (g := gName 2) (tt := tYes) rfl nd (pi_list (pv 0)) (blkOk_by (N := ["row", "by", "number"]) (sc := defScope sShort) (by decide +kernel)) (fun _ _ _ _ _ => pg_name (i := 2) nd rfl (Or.inl rfl)) (fun _ _ _ _ _ => pts_nil)
        (fun _ _ _ _ _ => pe_op op_fdivW (pv 2) (pv 1))))))), ?_⟩
    refine ⟨_, rfl, a, rfl, ⟨_, SqL.of ha⟩, for_list (K := K) (a := a) (xs := row.map V.int) (fun i σ H' => H = H' ∧ ∃ v, σ = [some (.ref a), some (.int (gcdL (row.take i))), v]) ⟨rfl, none, rfl⟩ (fun i σ H' _ ⟨e, _⟩ => by rw [← e]; exact SqL.of ha) ?_ ?_⟩
    · rintro i x σ H' hi ⟨rfl, v, rfl⟩
      obtain ⟨z, hz, rfl⟩ := ints_at hi
      refine ⟨_, rfl, _, rfl, _, _, rfl, rfl, some (.int z), ?_⟩
      show [some (V.ref a), some (V.int ((Int.gcd (gcdL (row.take i)) z : Nat) : Int)), some (V.int z)] = _
      rw [take_succ_get hz]
      unfold gcdL
      rw [List.foldl_append]
      rfl
    · rintro σ H' ⟨rfl, v, rfl⟩
      rw [List.length_map, List.take_of_length_le (Nat.le_refl _)]
      refine ⟨_, rfl, _, _, rfl, rfl, _, rfl, ?_⟩
      have hsh : short row = if gcdL row ≤ 1 then row else row.map (· / gcdL row) := rfl
      by_cases hg : gcdL row ≤ 1
      · rw [decide_eq_true hg]
        refine iteT ⟨_, rfl, k a _ (Same.refl _) (.inl rfl) ?_⟩
        rw [hsh, if_pos hg]; exact ha
      · rw [decide_eq_false hg]
        refine iteF ?_
        rw [if_neg hg] at hsh
        refine ⟨_, rfl, a, rfl, ⟨_, SqL.of ha⟩, fun D nD => ?_⟩
        refine lc_list (K := K) (a := a) (xs := row.map V.int) (fun i H' => H' = upd H D (.lst ((row.take i).map fun x => V.int (x / gcdL row)))) (by simp) (fun i H' _ e => ?_) ?_ ?_
        · rw [e]; exact SqL.of (by rw [upd_ne (ne_of_none ha nD)]; exact ha)
        · rintro i x H' hi rfl
          obtain ⟨z, hz, rfl⟩ := ints_at hi
          refine ⟨rfl, ?_⟩
          refine ⟨_, rfl, _, rfl, _, _, rfl, rfl, fit_div (b := 8000) (by omega) (gcdF_fit row hfit (.inr (gcdL_ne (by omega)))) (by omega), _, upd_same, ?_, ?_⟩
          · rw [List.length_map, List.length_take]; exact Nat.lt_of_le_of_lt (Nat.min_le_right _ _) (Nat.lt_of_le_of_lt hlen (by decide))
          · rw [upd_upd, take_succ_get hz, List.map_append]; rfl
        · rintro H' rfl
          refine k D _ (fun b o e => by rw [upd_ne (ne_of_none e nD)]; exact e) (.inr nD) ?_
          rw [upd_same, List.length_map, List.take_of_length_le (Nat.le_refl _), hsh, List.map_map]; rfl
end
end K47
end
section
set_option Elab.async false
set_option maxRecDepth 100000
set_option maxHeartbeats 4000000
set_option autoImplicit false
/-! The table on the heap; helpers, gain, entering. -/
namespace K47
open PySem L2 PySem.Spec PyProof.Rows
theorem for_range0 {n : Nat} {g : TG} {tb : L2.TS} {D : Ends} {σ : L2.St} {H : Hp} (Pv : Nat → L2.St → Hp → Prop) (h0 : Pv 0 σ H)
    (hs : ∀ i σ H, i < n → Pv i σ H → g (.int (i : Int)) σ H fun σ2 H2 => tb { D with nx := Pv (i + 1), ct := Pv (i + 1), bk := D.nx } σ2 H2) (hd : ∀ σ H, Pv n σ H → D.nx σ H) :
    ∃ W : Nat → Nat → L2.St → Hp → Prop, (∃ m, W 0 m σ H) ∧ ∀ i m σ H, W i m σ H →
      ((Itr 0 n).stop i H ∧ D.nx σ H) ∨ ((Itr 0 n).go i H ∧ ∃ N : L2.St → Hp → Prop, (∀ σ' H', N σ' H' → ∃ m', m' < m ∧ W (i + 1) m' σ' H') ∧ ∀ x H', (Itr 0 n).yld i H x H' → g x σ H' fun σ2 H2 => tb { D with nx := N, ct := N, bk := D.nx } σ2 H2) :=
  for_range Pv h0 (fun i σ H hi p => by rw [Int.zero_add]; exact hs i σ H hi p) hd
theorem lc_range0 {n : Nat} {g : TG} {tt : TT} {te : TE} {vs : List Nat} {σ : L2.St} {H1 : Hp} {D : Addr} {Qd : Hp → Prop} (Pv : Nat → Hp → Prop) (h0 : Pv 0 (upd H1 D (.lst [])))
    (hs : ∀ i H, i < n → Pv i H → g (.int (i : Int)) (wipe σ vs) H fun σ2 H2 => wipe σ2 vs = wipe σ vs ∧ tt σ2 H2 fun b H3 =>
      if b = true then te σ2 H3 fun y H4 => ∃ acc, H4 D = some (.lst acc) ∧ acc.length < sizeLine ∧ Pv (i + 1) (upd H4 D (.lst (acc ++ [y]))) else Pv (i + 1) H3) (hd : ∀ H, Pv n H → Qd H) :
    ∃ W : Nat → Nat → Hp → Prop, (∃ m, W 0 m (upd H1 D (.lst []))) ∧ ∀ i m H, W i m H →
      ((Itr 0 n).stop i H ∧ Qd H) ∨ ((Itr 0 n).go i H ∧ ∃ Nx : Hp → Prop, (∀ H', Nx H' → ∃ m', m' < m ∧ W (i + 1) m' H') ∧ ∀ x H', (Itr 0 n).yld i H x H' → g x (wipe σ vs) H' fun σ2 H2 => wipe σ2 vs = wipe σ vs ∧ tt σ2 H2 fun b H3 =>
        if b = true then te σ2 H3 fun y H4 => ∃ acc, H4 D = some (.lst acc) ∧ acc.length < sizeLine ∧ Nx (upd H4 D (.lst (acc ++ [y]))) else Nx H3) :=
  lc_range Pv h0 (fun i H hi p => by rw [Int.zero_add]; exact hs i H hi p) hd
theorem same_upd {H : Hp} {D : Addr} {o : HO} (h : H D = none) : Same H (upd H D o) := fun b u e => by rw [upd_ne (ne_of_none e h)]; exact e
theorem small100 {n : Nat} (h : n ≤ 1000) : n < sizeLine := Nat.lt_of_le_of_lt h (by decide)
def tf (n : Int) (r b : Addr) : List (Str × V) := putF "basis" (.ref b) (putF "rows" (.ref r) (putF "width" (.int n) []))
theorem tf_w (n : Int) (r b : Addr) : (tf n r b).lookup ("width" : Str) = some (.int n) := by
  unfold tf; rw [lookup_putF, if_neg (by decide +kernel), lookup_putF, if_neg (by decide +kernel), lookup_putF, if_pos rfl]
theorem tf_r (n : Int) (r b : Addr) : (tf n r b).lookup ("rows" : Str) = some (.ref r) := by
  unfold tf; rw [lookup_putF, if_neg (by decide +kernel), lookup_putF, if_pos rfl]
theorem tf_b (n : Int) (r b : Addr) : (tf n r b).lookup ("basis" : Str) = some (.ref b) := by
  unfold tf; rw [lookup_putF, if_pos rfl]
theorem tf_no (n : Int) (r b : Addr) {m : Str} (h1 : ¬ m = "width") (h2 : ¬ m = "rows") (h3 : ¬ m = "basis") : (tf n r b).lookup m = none := by
  unfold tf; rw [lookup_putF, if_neg h3, lookup_putF, if_neg h2, lookup_putF, if_neg h1]; rfl
def bV : Option Nat → V
  | none => .non
  | some j => .int (j : Int)
theorem bV_non {x : Option Nat} : decide (bV x = .non) = x.isNone := by
  cases x with
  | none => rfl
  | some j => exact decide_eq_false (fun z => nomatch z)

/-- a table stands at p -/
structure TabAt (C : Addr) (H : Hp) (p : Addr) (n : Nat) (T : TS) (r b : Addr) (as : List Addr) : Prop where
  ob : ∃ dx, H p = some (.ins C dx (tf (n : Int) r b))
  rows : H r = some (.lst (as.map V.ref))
  len : as.length = T.rows.length
  row : ∀ (k : Nat) (a : Addr), as[k]? = some a → H a = some (.lst ((T.rows.getD k []).map V.int))
  bas : H b = some (.lst (T.basis.map bV))
  ne : r ≠ b ∧ ∀ a ∈ as, a ≠ r ∧ a ≠ b
theorem TabAt.same {C : Addr} {H H' : Hp} {p : Addr} {n : Nat} {T : TS} {r b : Addr} {as : List Addr} (X : TabAt C H p n T r b as) (s : Same H H') : TabAt C H' p n T r b as :=
  ⟨let ⟨dx, h⟩ := X.ob; ⟨dx, s _ _ h⟩, s _ _ X.rows, X.len, fun k a h => s _ _ (X.row k a h), s _ _ X.bas, X.ne⟩
/-- a table whose numbers are linked with a dictionary, of at most 13 rows and 64 facts -/
structure Gd (n m : Nat) (T : TS) : Prop where
  m13 : m ≤ 13
  n64 : n ≤ 64
  ex : ∃ (A : Nat → Nat → Int) (a : Nat → Nat → Rat) (b : Nat → Nat), Lnk n m A (2 ^ (13 * 42)) T a b
theorem Gd.rl {n m : Nat} {T : TS} (G : Gd n m T) : T.rows.length = m := let ⟨_, _, _, L⟩ := G.ex; L.rl
theorem Gd.bl {n m : Nat} {T : TS} (G : Gd n m T) : T.basis.length = m := let ⟨_, _, _, L⟩ := G.ex; L.bl
theorem Gd.fit {n m : Nat} {T : TS} (G : Gd n m T) {k : Nat} (hk : k < m) (c : Nat) : Fit 546 (T.at k c) := let ⟨_, _, _, L⟩ := G.ex; L.entSz hk
theorem Gd.fits {n m : Nat} {T : TS} (G : Gd n m T) {k : Nat} (hk : k < m) : ∀ x ∈ T.rows.getD k [], Fit 546 x := let ⟨_, _, _, L⟩ := G.ex; L.bnd k hk
theorem Gd.rlen {n m : Nat} {T : TS} (G : Gd n m T) {k : Nat} (hk : k < m) : (T.rows.getD k []).length = n + 2 := let ⟨_, _, _, L⟩ := G.ex; let ⟨_, R⟩ := L.row k hk; R.len
theorem Gd.last {n m : Nat} {T : TS} (G : Gd n m T) {k : Nat} (hk : k < m) (h : T.bs k = none) : 0 < T.at k (n + 1) := let ⟨_, _, _, L⟩ := G.ex; (L.helper hk h).1

section
variable {C : Addr} {H : Hp} {p r b : Addr} {n m : Nat} {T : TS} {as : List Addr} {K : PySem.W.Frag} {mg : Str → Option Value} {σ : L2.St} {i j : Nat} {ta tb : TE}
theorem val_ixL {q : Addr} {xs : List V} {z : Int} {v : V} (ha : Val ta σ H (.ref q)) (hb : Val tb σ H (.int z)) (h : H q = some (.lst xs)) (hv : atI xs z = some v) : Val (tOp (rIxL K) ta tb) σ H v := val_op ha hb fun _ q' => ⟨q, xs, z, v, rfl, rfl, SqL.of h, hv, q'⟩
theorem TabAt.width (X : TabAt C H p n T r b as) (Y : Txt K mg C) (h : Val ta σ H (.ref p)) : Val (tFld K ta "width") σ H (.int (n : Int)) := by
  obtain ⟨dx, hp⟩ := X.ob
  exact val_fld h hp Y.cl Y.nW (tf_w _ _ _)
theorem TabAt.rowsV (X : TabAt C H p n T r b as) (Y : Txt K mg C) (h : Val ta σ H (.ref p)) : Val (tFld K ta "rows") σ H (.ref r) := by
  obtain ⟨dx, hp⟩ := X.ob
  exact val_fld h hp Y.cl Y.nR (tf_r _ _ _)
theorem TabAt.basisV (X : TabAt C H p n T r b as) (Y : Txt K mg C) (h : Val ta σ H (.ref p)) : Val (tFld K ta "basis") σ H (.ref b) := by
  obtain ⟨dx, hp⟩ := X.ob
  exact val_fld h hp Y.cl Y.nB (tf_b _ _ _)
theorem TabAt.addr (X : TabAt C H p n T r b as) {k : Nat} (hk : k < T.rows.length) : ∃ a, as[k]? = some a ∧ H a = some (.lst ((T.rows.getD k []).map V.int)) := by
  have h : k < as.length := by rw [X.len]; exact hk
  exact ⟨as[k], List.getElem?_eq_getElem h, X.row k _ (List.getElem?_eq_getElem h)⟩
/-- self.rows[k] -/
theorem TabAt.rowV (X : TabAt C H p n T r b as) (Y : Txt K mg C) {k : Nat} {a : Addr} (ha : as[k]? = some a) (h : Val ta σ H (.ref p)) (hk : Val tb σ H (.int (k : Int))) : Val (tOp (rIxL K) (tFld K ta "rows") tb) σ H (.ref a) :=
  val_ixL (X.rowsV Y h) hk X.rows (at_of rfl (by rw [List.getElem?_map, ha]; rfl))
theorem at_ints {xs : List Int} {c : Nat} (hc : c < xs.length) : atI (xs.map V.int) (c : Int) = some (.int (xs.getD c 0)) := at_of rfl (by
  rw [List.getElem?_map, List.getD_eq_getElem?_getD, List.getElem?_eq_getElem hc]; rfl)
/-- self.rows[k][c] -/
theorem TabAt.entV (X : TabAt C H p n T r b as) (Y : Txt K mg C) (G : Gd n m T) {k c : Nat} (hk : k < m) (hc : c < n + 2) {tk tc : TE} (h : Val ta σ H (.ref p)) (hkV : Val tk σ H (.int (k : Int))) (hcV : Val tc σ H (.int (c : Int))) :
    Val (tOp (rIxL K) (tOp (rIxL K) (tFld K ta "rows") tk) tc) σ H (.int (T.at k c)) := by
  obtain ⟨a, ha, hr⟩ := X.addr (k := k) (by rw [G.rl]; exact hk)
  exact val_ixL (X.rowV Y ha h hkV) hcV hr (at_ints (by rw [G.rlen hk]; exact hc))
/-- self.basis[k] -/
theorem TabAt.basV (X : TabAt C H p n T r b as) (Y : Txt K mg C) (G : Gd n m T) {k : Nat} (hk : k < m) {tk : TE} (h : Val ta σ H (.ref p)) (hkV : Val tk σ H (.int (k : Int))) : Val (tOp (rIxL K) (tFld K ta "basis") tk) σ H (bV (T.bs k)) :=
  val_ixL (X.basisV Y h) hkV X.bas (at_of rfl (by
    have h1 : k < T.basis.length := by rw [G.bl]; exact hk
    unfold TS.bs
    rw [List.getElem?_map, List.getD_eq_getElem?_getD, List.getElem?_eq_getElem h1]; rfl))
theorem val_I {C : Int → Int → Prop} {g : Int → Int → V} {x y : Int} (ha : Val ta σ H (.int x)) (hb : Val tb σ H (.int y)) (hc : C x y) : Val (tOp (rI C g) ta tb) σ H (g x y) := val_op ha hb fun _ q => ⟨x, y, rfl, rfl, hc, q⟩
theorem val_I0 {g : Int → Int → V} {x y : Int} (ha : Val ta σ H (.int x)) (hb : Val tb σ H (.int y)) : Val (tOp (rI0 g) ta tb) σ H (g x y) := val_op ha hb fun _ q => ⟨x, y, rfl, rfl, q⟩
theorem val_un {g : Int → V} {x : Int} (ha : Val ta σ H (.int x)) : Val (tUn (rU g) ta) σ H (g x) := fun _ q => ha _ ⟨x, rfl, q⟩
theorem e_val {v : V} {te : TE} {Q : VK} (h : Val te σ H v) (k : Q v H) : te σ H Q := h _ k
theorem e_opV {r : R2} {x : V} {Q : VK} (ha : Val ta σ H x) (h : tb σ H fun y H2 => r x y H2 Q) : tOp r ta tb σ H Q := ha _ h
theorem e_op {r : R2} {Q : VK} (h : ta σ H fun x H1 => tb σ H1 fun y H2 => r x y H2 Q) : tOp r ta tb σ H Q := h
theorem e_opVV {r : R2} {x y : V} {Q : VK} (ha : Val ta σ H x) (hb : Val tb σ H y) (h : r x y H Q) : tOp r ta tb σ H Q := ha _ (hb _ h)
theorem e_lst1 {x : V} {Q : VK} (h : Val ta σ H x) (k : ∀ q, H q = none → Q (.ref q) (upd H q (.lst [x]))) : tLst (tCons ta tNil) σ H Q := h _ ⟨by show 1 ≤ sizeLine; decide, k⟩
theorem e_call1 {sp : Sp} {E : XK} {Q : VK} (h : ta σ H fun v H1 => sp [v] H1 Q E) : tCall sp [] E (tCons ta tNil) σ H Q := h
theorem e_call2 {sp : Sp} {E : XK} {Q : VK} (h : ta σ H fun v H1 => tb σ H1 fun u H2 => sp [v, u] H2 Q E) : tCall sp [] E (tCons ta (tCons tb tNil)) σ H Q := h
theorem e_sub {to ti : TE} {o i : V} {t : V → V → V → Hp → (Hp → Prop) → Prop} {v : V} {Q : L2.St → Hp → Prop} (ho : Val to σ H o) (hi : Val ti σ H i) (k : t o i v H fun H3 => Q σ H3) : gSub to ti t v σ H Q := ho _ (hi _ k)
theorem q_set {v : V} {te : TE} {tz : L2.TS} {D : Ends} (h : Val te σ H v) (k : tz D (σ.set i (some v)) H) : tSeq (tAsg te (gName i)) tz D σ H := h _ k
theorem s_set {v : V} {te : TE} {D : Ends} (h : Val te σ H v) (k : D.nx (σ.set i (some v)) H) : tAsg te (gName i) D σ H := h _ k
theorem vn {v : V} (h : σ[i]? = some (some v) := by rfl) : Val (tVar i) σ H v := val_var h
theorem val_v {v : V} (h : σ[i]? = some (some v)) : Val (tVar i) σ H v := val_var h
end

section
variable {P : Program} {w : World} {K : PySem.W.Frag} {mg : Str → Option Value} {base : Heap} {C : Addr}
/-! ### helpers -/
def spHelp (C : Addr) : Sp := fun vs H Q _ => ∃ (p r b : Addr) (n m : Nat) (T : TS) (as : List Addr), vs = [.ref p] ∧ TabAt C H p n T r b as ∧ Gd n m T ∧
  ∀ l H', Same H H' → H l = none → H' l = some (.lst ((helpersI T).map fun k => V.int (k : Nat))) → Q (.ref l) H'
theorem scHelp : FnScope ["self", "k"] ["self"] (defScope sHelp) := ⟨rfl, rfl, rfl, by decide +kernel, rfl, by decide +kernel, by decide +kernel⟩
theorem cal_help (D : DfM K C "helpers" "Table.helpers" sHelp ["self"]) (Y : Txt K mg C) : CalM P w K mg base C "helpers" 1 ["self"] (spHelp C) := by
  refine D.cal scHelp (fun vs H Q E h => ?_) (fun _ _ cdv A outer s H vs Q E hr h => ?_)
  · obtain ⟨_, _, _, _, _, _, _, rfl, _⟩ := h
    rfl
  · obtain ⟨p, r, b, n, m, T, as, rfl, X, G, k⟩ := h
    have nd := scHelp.nd
    refine ⟨_, pss_one (ps_ret (pe_lc (own := [("k", 1)]) (g := gName 1) (tt := tTest (tOp rIsN (tOp (rIxL K) (tFld K (tVar 0) "basis") (tVar 1)) (tC .non))) rfl nd (pi_range1 rfl Y.range (pa_cons (pe_callB call_len_seq (by rfl) Y.len PySem.boot_len (pa_cons (pe_fld (pv 0) rfl) pa_nil)) pa_nil)) (blkOk_by (N := ["self", "k"]) (sc := defScope sHelp) (by decide +kernel)) (fun _ _ _ _ _ => pg_name (i := 1) nd rfl (Or.inl rfl))
      (fun _ _ _ _ _ => pts_one (pt_cmpR op_isN1 (pe_ix ix_list (pe_fld (pv 0) rfl) (pv 1) (fun _ _ => rfl)) pe_non (nomark _))) (fun _ _ _ _ _ => pv 1))), ?_⟩
    refine (X.rowsV Y (val_v rfl)) _ ?_
    refine ⟨r, _, rfl, .inl (SqL.of X.rows), ((as.map V.ref).length : Int), rfl, ?_, ?_, fun D nD => ?_⟩
    · omega
    · rw [List.length_map, X.len, G.rl]; have := G.m13; omega
    have e0 : ((as.map V.ref).length : Int).toNat = m := by rw [Int.toNat_natCast, List.length_map, X.len, G.rl]
    rw [e0]
    refine lc_range0 (fun i H' => H' = upd H D (.lst ((helpersTo T i).map fun k => V.int (k : Nat)))) rfl ?_ ?_
    · rintro i H' hi rfl
      refine ⟨rfl, ?_⟩
      refine ans_isN ((X.same (same_upd nD)).basV Y G hi (val_v rfl) (val_v rfl)) bV_non _ ?_
      have hlen : (helpersTo T i).length ≤ 1000 := by
        have := List.length_filter_le (fun k => (T.bs k).isNone) (List.range i)
        rw [List.length_range] at this
        have h13 := G.m13
        show (List.filter _ (List.range i)).length ≤ 1000
        omega
      rw [helpersTo_succ]
      cases hb : T.bs i with
      | none =>
        refine ⟨_, rfl, _, upd_same, ?_, ?_⟩
        · rw [List.length_map]; exact small100 hlen
        · rw [upd_upd, if_pos rfl, List.map_append]; rfl
      | some j =>
        show upd H D _ = _
        rw [if_neg (fun z => nomatch z)]
    · rintro H' rfl
      refine k D _ (same_upd nD) nD ?_
      rw [upd_same]
      unfold helpersI helpersTo
      rw [G.rl]
/-! ### gain -/
theorem Fit.of_mem {n m : Nat} {T : TS} (G : Gd n m T) {f : Nat} (ks : List Nat) (h : ∀ k ∈ ks, k < m ∧ T.bs k = none) : ∀ k ∈ ks, 0 < T.at k (n + 1) ∧ (T.at k (n + 1)).natAbs ≤ 2 ^ 546 ∧ (T.at k f).natAbs ≤ 2 ^ 546 := fun k hk =>
  ⟨G.last (h k hk).1 (h k hk).2, G.fit (h k hk).1 _, G.fit (h k hk).1 _⟩
theorem helpers_len {n m : Nat} {T : TS} (G : Gd n m T) : (helpersI T).length ≤ m := by
  have := List.length_filter_le (fun k => (T.bs k).isNone) (List.range T.rows.length)
  have e := G.rl
  rw [List.length_range] at this
  show (List.filter _ _).length ≤ m
  omega
theorem mem_helpers {n m : Nat} {T : TS} (G : Gd n m T) : ∀ k ∈ helpersI T, k < m ∧ T.bs k = none := fun k hk => by
  unfold helpersI at hk
  rw [G.rl] at hk
  exact mem_helpersTo.mp hk
def spGain (C : Addr) : Sp := fun vs H Q _ => ∃ (p r b : Addr) (n m f : Nat) (T : TS) (as : List Addr), vs = [.ref p, .int (f : Int)] ∧ f < n ∧ TabAt C H p n T r b as ∧ Gd n m T ∧
  ∀ H', Same H H' → Q (.int (gainI n T f)) H'
theorem scGain : FnScope ["self", "fact", "top", "bottom", "k", "row", "by"] ["self", "fact"] (defScope sGain) := ⟨rfl, rfl, rfl, by decide +kernel, rfl, by decide +kernel, by decide +kernel⟩
theorem nats_at {ks : List Nat} {i : Nat} {x : V} (h : (ks.map fun k => V.int (k : Nat))[i]? = some x) : ∃ k, ks[i]? = some k ∧ x = .int (k : Nat) := by
  rw [List.getElem?_map] at h
  cases e : ks[i]? with
  | none => rw [e] at h; cases h
  | some z => rw [e] at h; exact ⟨z, rfl, (Option.some.inj h).symm⟩
theorem atI_lastInts {xs : List Int} {n : Nat} (h : xs.length = n + 2) : atI (xs.map V.int) (-1) = some (.int (xs.getD (n + 1) 0)) := by
  have hne : xs ≠ [] := fun e => by rw [e] at h; simp at h
  have e : xs = xs.dropLast ++ [xs.getD (n + 1) 0] := by
    have h1 := List.dropLast_concat_getLast hne
    have h2 : xs.getLast hne = xs.getD (n + 1) 0 := by
      rw [List.getLast_eq_getElem, List.getD_eq_getElem?_getD, List.getElem?_eq_getElem (show n + 1 < xs.length by omega)]
      show xs[xs.length - 1] = xs[n + 1]
      congr 1
      omega
    rw [h2] at h1
    exact h1.symm
  have h3 : atI ((xs.dropLast.map V.int) ++ [V.int (xs.getD (n + 1) 0)]) (-1) = some (.int (xs.getD (n + 1) 0)) := atI_last _ _
  have e2 : xs.map V.int = xs.dropLast.map V.int ++ [V.int (xs.getD (n + 1) 0)] := by
    conv => lhs; rw [e]
    rw [List.map_append]; rfl
  rw [e2]
  exact h3
theorem cal_gain (D : DfM K C "gain" "Table.gain" sGain ["self", "fact"]) (cH : CalM P w K mg base C "helpers" 1 ["self"] (spHelp C)) (cD : Cal P w K mg base "divisor" 1 ["one", "other"] spDiv) (Y : Txt K mg C) : CalM P w K mg base C "gain" 2 ["self", "fact"] (spGain C) := by
  obtain ⟨fD, fdD, GD, mD, kD, bD⟩ := cD
  obtain ⟨fH, fdH, GH, mH, bH⟩ := cH
  refine D.cal scGain (fun vs H Q E h => ?_) (fun _ _ cdv A outer s H vs Q E hr h => ?_)
  · obtain ⟨_, _, _, _, _, _, _, _, rfl, _⟩ := h
    rfl
  · obtain ⟨p, r, b, n, m, f, T, as, rfl, hf, X, G, k⟩ := h
    have nd := scGain.nd
    refine ⟨_, pss_cons (ps_set (i := 2) nd rfl (Or.inl rfl) pe_int) (pss_cons (ps_set (i := 3) nd rfl (Or.inl rfl) pe_int)
      (pss_cons (ps_for PassesOwn.never rfl (pi_list (pe_meth0 (pv 0) Y.cl mH GH hr bH .nil pass0)) (pg_name (i := 4) nd rfl (Or.inl rfl))
        (pss_cons (ps_set (i := 5) nd rfl (Or.inl rfl) (pe_ix ix_list (pe_fld (pv 0) rfl) (pv 4) (fun _ _ => rfl)))
        (pss_cons (ps_set (i := 2) nd rfl (Or.inl rfl) (pe_op op_add (pe_op op_mulB (pv 2) (pe_ix ix_list (pv 5) (pe_un un_neg pe_int) (fun _ _ => rfl))) (pe_op op_mulB (pe_ix ix_list (pv 5) (pv 1) (fun _ _ => rfl)) (pv 3))))
        (pss_cons (ps_set (i := 3) nd rfl (Or.inl rfl) (pe_op op_mulB (pv 3) (pe_ix ix_list (pv 5) (pe_un un_neg pe_int) (fun _ _ => rfl))))
        (pss_cons (ps_set (i := 6) nd rfl (Or.inl rfl) (pe_call GD hr (by rfl) mD kD bD .nil pass0 (pa_cons (pv 2) (pa_cons (pv 3) pa_nil))))
        (pss_cons (ps_set (i := 2) nd rfl (Or.inl rfl) (pe_op op_fdivW (pv 2) (pv 6)))
        (pss_one (ps_set (i := 3) nd rfl (Or.inl rfl) (pe_op op_fdivW (pv 3) (pv 6))))))))))
      (pss_one (ps_ret (pv 2))))), ?_⟩
    obtain ⟨dx, hp⟩ := X.ob
    refine ⟨_, rfl, p, dx, _, rfl, hp, tf_no _ _ _ (by decide +kernel) (by decide +kernel) (by decide +kernel), p, r, b, n, m, T, as, rfl, X, G, fun l H1 s1 nl hl => ?_⟩
    refine ⟨l, rfl, ⟨_, SqL.of hl⟩, for_list (K := K) (a := l) (xs := (helpersI T).map fun k => V.int (k : Nat)) (fun i σ H' => H1 = H' ∧ ∃ v4 v5 v6, σ = [some (.ref p), some (.int (f : Int)), some (.int (gfold n T f ((helpersI T).take i)).1), some (.int (gfold n T f ((helpersI T).take i)).2), v4, v5, v6])
      ⟨rfl, none, none, none, rfl⟩ (fun i σ H' _ ⟨e, _⟩ => by rw [← e]; exact SqL.of hl) ?_ ?_⟩
    · rintro i x σ H' hi ⟨rfl, v4, v5, v6, rfl⟩
      obtain ⟨q, hq, rfl⟩ := nats_at hi
      have hqm := mem_helpers G q (List.mem_of_getElem? hq)
      have X1 := X.same s1
      obtain ⟨a, ha, hrow⟩ := X1.addr (k := q) (by rw [G.rl]; exact hqm.1)
      have hrl := G.rlen hqm.1
      have hbd := gfold_bd (n := n) (T := T) (f := f) (w := 546) ((helpersI T).take i) (Fit.of_mem G _ fun k hk => mem_helpers G k (List.mem_of_mem_take hk))
      have hil : ((helpersI T).take i).length * (546 + 1) ≤ 13 * 547 := by
        have h1 := helpers_len G
        have h2 := G.m13
        rw [List.length_take]
        exact Nat.mul_le_mul (by omega) (Nat.le_refl _)
      obtain ⟨b1, b2, b3⟩ := hbd
      have b2' : Fit (13 * 547) (gfold n T f ((helpersI T).take i)).1 := Nat.le_trans b2 (Nat.pow_le_pow_right (by omega) hil)
      have b3' : Fit (13 * 547) (gfold n T f ((helpersI T).take i)).2 := Nat.le_trans b3 (Nat.pow_le_pow_right (by omega) hil)
      have f1 := G.fit hqm.1 (n + 1)
      have f2 := G.fit hqm.1 f
      have l1 := G.last hqm.1 hqm.2
      obtain ⟨g, g1, g2, g3, g4, g5⟩ := gstep_spec (x := T.at q f) (p := gfold n T f ((helpersI T).take i)) l1 b1
      have hstep : gfold n T f ((helpersI T).take (i + 1)) = gstep (T.at q (n + 1)) (T.at q f) (gfold n T f ((helpersI T).take i)) := by rw [take_succ_get hq, gfold_snoc]
      have hlastV : atI ((T.rows.getD q []).map V.int) (-1) = some (.int (T.at q (n + 1))) := atI_lastInts hrl
      have hfV : atI ((T.rows.getD q []).map V.int) (f : Int) = some (.int (T.at q f)) := at_ints (by omega)
      have m1 : CMulB (gfold n T f ((helpersI T).take i)).1 (T.at q (n + 1)) := fit_mul b2' f1 (by omega)
      have m2 : CMulB (T.at q f) (gfold n T f ((helpersI T).take i)).2 := fit_mul f2 b3' (by omega)
      have m3 : CMulB (gfold n T f ((helpersI T).take i)).2 (T.at q (n + 1)) := fit_mul b3' f1 (by omega)
      have hby : 0 < ((Int.gcd ((gfold n T f ((helpersI T).take i)).1 * T.at q (n + 1) + T.at q f * (gfold n T f ((helpersI T).take i)).2) ((gfold n T f ((helpersI T).take i)).2 * T.at q (n + 1)) : Nat) : Int) := by rw [← g5]; exact g1
      have hbyf : Fit (13 * 547 + 546) ((Int.gcd ((gfold n T f ((helpersI T).take i)).1 * T.at q (n + 1) + T.at q f * (gfold n T f ((helpersI T).take i)).2) ((gfold n T f ((helpersI T).take i)).2 * T.at q (n + 1)) : Nat) : Int) := by
        have h1 : 0 < (gfold n T f ((helpersI T).take i)).2 * T.at q (n + 1) := Int.mul_pos b1 l1
        have h2 : Int.gcd ((gfold n T f ((helpersI T).take i)).1 * T.at q (n + 1) + T.at q f * (gfold n T f ((helpersI T).take i)).2) ((gfold n T f ((helpersI T).take i)).2 * T.at q (n + 1)) ≤ ((gfold n T f ((helpersI T).take i)).2 * T.at q (n + 1)).natAbs := Nat.le_of_dvd (by omega) (Int.natAbs_dvd_natAbs.mpr (Int.gcd_dvd_right _ _))
        have h3 : ((gfold n T f ((helpersI T).take i)).2 * T.at q (n + 1)).natAbs ≤ 2 ^ (13 * 547) * 2 ^ 546 := by rw [Int.natAbs_mul]; exact Nat.mul_le_mul b3' f1
        rw [← Nat.pow_add] at h3
        show ((Int.gcd _ _ : Nat) : Int).natAbs ≤ _
        rw [Int.natAbs_natCast]
        exact Nat.le_trans h2 h3
      have dv : ∀ z : Int, CDivW z ((Int.gcd ((gfold n T f ((helpersI T).take i)).1 * T.at q (n + 1) + T.at q f * (gfold n T f ((helpersI T).take i)).2) ((gfold n T f ((helpersI T).take i)).2 * T.at q (n + 1)) : Nat) : Int) := fun z => fit_div hby hbyf (by omega)
      refine q_set (X1.rowV Y ha (val_v rfl) (val_v rfl)) ?_
      refine q_set (val_I0 (val_I (val_v rfl) (val_ixL (val_v rfl) (val_un val_c) hrow hlastV) m1) (val_I (val_ixL (val_v rfl) (val_v rfl) hrow hfV) (val_v rfl) m2)) ?_
      refine q_set (val_I (val_v rfl) (val_ixL (val_v rfl) (val_un val_c) hrow hlastV) m3) ?_
      refine q_set (fun Q q => ⟨_, rfl, _, rfl, _, _, rfl, q⟩) ?_
      refine q_set (val_I (val_v rfl) (val_v rfl) (dv _)) ?_
      refine s_set (val_I (val_v rfl) (val_v rfl) (dv _)) ?_
      refine ⟨rfl, ?_⟩
      rw [hstep]
      exact ⟨_, _, _, rfl⟩
    · rintro σ H' ⟨rfl, v4, v5, v6, rfl⟩
      rw [List.length_map, List.take_of_length_le (Nat.le_refl _)]
      exact ⟨_, rfl, k _ s1⟩
end
end K47
end
section
set_option Elab.async false
set_option maxRecDepth 100000
set_option maxHeartbeats 4000000
set_option autoImplicit false
/-! entering, goes_ahead, leaving, turn. -/
namespace K47
open PySem L2 PySem.Spec PyProof.Rows
section
variable {H : Hp} {K : PySem.W.Frag} {σ : L2.St} {D : Ends} {t u : TT} {ta tb tz : L2.TS}
theorem s_ifAnd {b1 : Bool} (h : Ans t σ H b1) (k : if b1 = true then u σ H (fun b H1 => if b = true then ta D σ H1 else tb D σ H1) else tb D σ H) : tIfS (tAnd t u) ta tb D σ H := by
  refine h _ ?_
  show (if b1 = true then u σ H (fun b H1 => if b = true then ta D σ H1 else tb D σ H1) else (if false = true then ta D σ H else tb D σ H))
  cases b1 with
  | true => exact k
  | false => exact iteF (A := u σ H _) (iteF k)
theorem s_if {b1 : Bool} (h : Ans t σ H b1) (k : if b1 = true then ta D σ H else tb D σ H) : tIfS t ta tb D σ H := h _ k
theorem q_if {b1 : Bool} (h : Ans t σ H b1) (k : if b1 = true then ta { D with nx := tz D } σ H else tb { D with nx := tz D } σ H) : tSeq (tIfS t ta tb) tz D σ H := h _ k
end
theorem inV_basis (f : Nat) : ∀ xs : List (Option Nat), inV (.int (f : Int)) (xs.map bV) = xs.contains (some f)
  | [] => rfl
  | x :: xs => by
    show (eqV (bV x) (.int (f : Int)) || inV (.int (f : Int)) (xs.map bV)) = _
    rw [inV_basis f xs, List.contains_cons]
    congr 1
    cases x with
    | none => rfl
    | some j =>
      show (((j : Int) == (f : Int)) : Bool) = (some f == some j)
      by_cases h : j = f
      · subst h; simp
      · rw [beq_eq_false_iff_ne.mpr (fun z => h (by omega)), beq_eq_false_iff_ne.mpr (fun z => h (Option.some.inj z).symm)]
theorem flat_basis : ∀ xs : List (Option Nat), (xs.map bV).all flatV = true
  | [] => rfl
  | x :: xs => by
    show (flatV (bV x) && (xs.map bV).all flatV) = true
    rw [flat_basis xs]
    cases x <;> rfl
section
variable {H : Hp} {K : PySem.W.Frag} {σ : L2.St} {D : Ends} {t u : TT} {ta tb tz : L2.TS}
theorem s_ifOr {b1 : Bool} (h : Ans t σ H b1) (k : if b1 = true then ta D σ H else u σ H (fun b H1 => if b = true then ta D σ H1 else tb D σ H1)) : tIfS (tOr t u) ta tb D σ H := by
  refine h _ ?_
  show (if b1 = true then (if true = true then ta D σ H else tb D σ H) else u σ H (fun b H1 => if b = true then ta D σ H1 else tb D σ H1))
  cases b1 with
  | true => exact iteT (B := u σ H _) (iteT k)
  | false => exact k
/-- [e for j in range(N)], e a value that changes nothing -/
theorem lcR_val {tA : TA} {j N : Nat} {te : TE} {vs : List Nat} (f : Nat → V) (hA : ∀ Q : List V → Hp → Prop, Q [.int (N : Int)] H → tA σ H Q) (hN : N ≤ 1000) (hw : ∀ x, wipe ((wipe σ vs).set j (some x)) vs = wipe σ vs)
    (he : ∀ i H', i < N → Same H H' → Val te ((wipe σ vs).set j (some (.int (i : Int)))) H' (f i)) (Q : VK) (k : ∀ Dl, H Dl = none → Q (.ref Dl) (upd H Dl (.lst ((List.range N).map f)))) : tLc (iRng1 tA) (gName j) tYes te vs σ H Q := by
  refine hA _ ⟨(N : Int), rfl, by omega, by omega, fun Dl hD => ?_⟩
  refine lc_range0 (n := N) (fun i H' => H' = upd H Dl (.lst ((List.range i).map f))) rfl ?_ ?_
  · rintro i H' hi rfl
    refine ⟨hw _, ?_⟩
    refine (he i _ hi (same_upd hD)) _ ?_
    refine ⟨_, upd_same, ?_, ?_⟩
    · rw [List.length_map, List.length_range]; exact small100 (by omega)
    · rw [upd_upd, List.range_succ, List.map_append]; rfl
  · rintro H' rfl
    exact k Dl hD
/-- [e for x in xs], e a value that changes nothing -/
theorem lcL_val {a : Addr} {xs : List V} {tl : TE} {j : Nat} {te : TE} {vs : List Nat} (f : V → V) (hl : Val tl σ H (.ref a)) (hx : H a = some (.lst xs)) (hz : xs.length ≤ 1000) (hw : ∀ x, wipe ((wipe σ vs).set j (some x)) vs = wipe σ vs)
    (he : ∀ (i : Nat) (x : V) (H' : Hp), xs[i]? = some x → Same H H' → Val te ((wipe σ vs).set j (some x)) H' (f x)) (Q : VK) (k : ∀ Dl, H Dl = none → Q (.ref Dl) (upd H Dl (.lst (xs.map f)))) : tLc (iList K tl) (gName j) tYes te vs σ H Q := by
  refine hl _ ⟨a, rfl, ⟨_, SqL.of hx⟩, fun Dl hD => ?_⟩
  refine lc_list (K := K) (a := a) (xs := xs) (fun i H' => H' = upd H Dl (.lst ((xs.take i).map f))) rfl (fun i H' _ e => by rw [e]; exact SqL.of (same_upd hD _ _ hx)) ?_ ?_
  · rintro i x H' hi rfl
    refine ⟨hw _, ?_⟩
    refine (he i x _ hi (same_upd hD)) _ ?_
    refine ⟨_, upd_same, ?_, ?_⟩
    · rw [List.length_map, List.length_take]; exact small100 (by omega)
    · rw [upd_upd, take_succ_get hi, List.map_append]; rfl
  · rintro H' rfl
    rw [List.take_of_length_le (Nat.le_refl _)]
    exact k Dl hD
end
section
variable {P : Program} {w : World} {K : PySem.W.Frag} {mg : Str → Option Value} {base : Heap} {C : Addr}
def spEnter (C : Addr) : Sp := fun vs H Q _ => ∃ (p r b : Addr) (n m : Nat) (T : TS) (as : List Addr), vs = [.ref p] ∧ TabAt C H p n T r b as ∧ Gd n m T ∧
  ∀ H', Same H H' → Q (bV (enterI n T)) H'
theorem scEnter : FnScope ["self", "fact"] ["self"] (defScope sEnter) := ⟨rfl, rfl, rfl, by decide +kernel, rfl, by decide +kernel, by decide +kernel⟩
theorem cal_enter (D : DfM K C "entering" "Table.entering" sEnter ["self"]) (cG : CalM P w K mg base C "gain" 2 ["self", "fact"] (spGain C)) (Y : Txt K mg C) : CalM P w K mg base C "entering" 3 ["self"] (spEnter C) := by
  obtain ⟨fG, fdG, GG, mG, bG⟩ := cG
  refine D.cal scEnter (fun vs H Q E h => ?_) (fun _ _ cdv A outer s H vs Q E hr h => ?_)
  · obtain ⟨_, _, _, _, _, _, _, rfl, _⟩ := h
    rfl
  · obtain ⟨p, r, b, n, m, T, as, rfl, X, G, k⟩ := h
    have nd := scEnter.nd
    refine ⟨_, pss_cons (ps_for PassesOwn.never rfl (pi_range1 (by rfl) Y.range (pa_cons (pe_fld (pv 0) rfl) pa_nil)) (pg_name (i := 1) nd rfl (Or.inl rfl))
        (pss_one (ps_if (PW.pt (pw_and (pt_cmpR op_notIn_seq (pv 1) (pe_fld (pv 0) rfl) (by rfl)) (pw_and1 (pt_cmpR op_gt (pe_meth (pv 0) Y.cl mG GG hr bG .nil pass0 (pa_cons (pv 1) pa_nil)) pe_int (nomark _))))) (pss_one (ps_ret (pv 1))) pss_nil)))
      (pss_one (ps_ret pe_non)), ?_⟩
    obtain ⟨dx, hp⟩ := X.ob
    refine (X.width Y (val_v rfl)) _ ?_
    have h64 := G.n64
    refine ⟨(n : Int), rfl, by omega, by omega, for_range0 (n := n) (fun i σ H' => Same H H' ∧ (∃ v, σ = [some (.ref p), v]) ∧ ∀ f, f < i → entP n T f = false) ⟨Same.refl _, ⟨none, rfl⟩, fun f hf => by omega⟩ ?_ ?_⟩
    · rintro i σ H' hi ⟨s1, ⟨v, rfl⟩, hno⟩
      have X1 := X.same s1
      refine s_ifAnd (ans_cmp (b := !T.basis.contains (some i)) (val_v rfl) (X1.basisV Y (val_v rfl)) fun Q q => ⟨b, _, rfl, .inl (SqL.of X1.bas), rfl, flat_basis _, by rw [inV_basis]; exact q⟩) ?_
      cases hc : T.basis.contains (some i) with
      | true =>
        refine ⟨s1, ⟨_, rfl⟩, fun f hf => ?_⟩
        by_cases e : f = i
        · subst e; unfold entP; rw [hc]; rfl
        · exact hno f (by omega)
      | false =>
        refine ⟨_, rfl, p, dx, _, rfl, s1 _ _ hp, tf_no _ _ _ (by decide +kernel) (by decide +kernel) (by decide +kernel), _, rfl, p, r, b, n, m, i, T, as, rfl, hi, X1, G, fun H1 s2 => ⟨_, _, rfl, rfl, _, rfl, ?_⟩⟩
        by_cases hg : 0 < gainI n T i
        · rw [decide_eq_true hg]
          refine iteT ⟨_, rfl, ?_⟩
          have he : enterI n T = some i := enter_some.mpr ⟨hi, by unfold entP; rw [hc, decide_eq_true hg]; rfl, hno⟩
          have := k H1 (s1.trans s2)
          rw [he] at this
          exact this
        · rw [decide_eq_false hg]
          refine iteF ⟨s1.trans s2, ⟨_, rfl⟩, fun f hf => ?_⟩
          by_cases e : f = i
          · subst e; unfold entP; rw [decide_eq_false hg, Bool.and_false]
          · exact hno f (by omega)
    · rintro σ H' ⟨s1, ⟨v, rfl⟩, hno⟩
      have := k H' s1
      rw [enter_none.mpr hno] at this
      exact this
/-! ### goes_ahead -/
def spAhead (C : Addr) : Sp := fun vs H Q _ => ∃ (p r b : Addr) (n m one other f : Nat) (T : TS) (as : List Addr), vs = [.ref p, .int (one : Int), .int (other : Int), .int (f : Int)] ∧ TabAt C H p n T r b as ∧ Gd n m T ∧ one < m ∧ other < m ∧ f < n ∧
  Q (.bl (aheadI n T one other f)) H
theorem scAhead : FnScope ["self", "one", "other", "fact", "first", "second"] ["self", "one", "other", "fact"] (defScope sAhead) := ⟨rfl, rfl, rfl, by decide +kernel, rfl, by decide +kernel, by decide +kernel⟩
theorem cal_ahead (D : DfM K C "goes_ahead" "Table.goes_ahead" sAhead ["self", "one", "other", "fact"]) (Y : Txt K mg C) : CalM P w K mg base C "goes_ahead" 1 ["self", "one", "other", "fact"] (spAhead C) := by
  refine D.cal scAhead (fun vs H Q E h => ?_) (fun _ _ cdv A outer s H vs Q E hr h => ?_)
  · obtain ⟨_, _, _, _, _, _, _, _, _, _, rfl, _⟩ := h
    rfl
  · obtain ⟨p, r, b, n, m, one, other, f, T, as, rfl, X, G, h1, h2, h3, k⟩ := h
    have nd := scAhead.nd
    refine ⟨_, pss_cons (ps_set (i := 4) nd rfl (Or.inl rfl) (pe_op op_mulB (pe_ix ix_list (pe_ix ix_list (pe_fld (pv 0) rfl) (pv 1) (fun _ _ => rfl)) (pe_fld (pv 0) rfl) (fun _ _ => rfl)) (pe_ix ix_list (pe_ix ix_list (pe_fld (pv 0) rfl) (pv 2) (fun _ _ => rfl)) (pv 3) (fun _ _ => rfl))))
      (pss_cons (ps_set (i := 5) nd rfl (Or.inl rfl) (pe_op op_mulB (pe_ix ix_list (pe_ix ix_list (pe_fld (pv 0) rfl) (pv 2) (fun _ _ => rfl)) (pe_fld (pv 0) rfl) (fun _ _ => rfl)) (pe_ix ix_list (pe_ix ix_list (pe_fld (pv 0) rfl) (pv 1) (fun _ _ => rfl)) (pv 3) (fun _ _ => rfl))))
      (pss_cons (ps_if (pt_cmpR op_ne (pv 4) (pv 5) (nomark _)) (pss_one (ps_ret (pe_cmpR op_lt (pv 4) (pv 5) (nomark _)))) pss_nil)
      (pss_cons (ps_if (pt_cmpR op_isN1 (pe_ix ix_list (pe_fld (pv 0) rfl) (pv 2) (fun _ _ => rfl)) pe_non (nomark _)) (pss_one (ps_ret pe_bl)) pss_nil)
      (pss_one (ps_ret (pe_or (pe_cmpR op_isN1 (pe_ix ix_list (pe_fld (pv 0) rfl) (pv 1) (fun _ _ => rfl)) pe_non (nomark _)) (pe_one (pe_cmpR op_lt (pe_ix ix_list (pe_fld (pv 0) rfl) (pv 1) (fun _ _ => rfl)) (pe_ix ix_list (pe_fld (pv 0) rfl) (pv 2) (fun _ _ => rfl)) (nomark _))))))))), ?_⟩
    refine q_set (val_I (X.entV Y G h1 (show n < n + 2 by omega) (val_v rfl) (val_v rfl) (X.width Y (val_v rfl))) (X.entV Y G h2 (show f < n + 2 by omega) (val_v rfl) (val_v rfl) (val_v rfl)) (fit_mul (G.fit h1 _) (G.fit h2 _) (by omega))) ?_
    refine q_set (val_I (X.entV Y G h2 (show n < n + 2 by omega) (val_v rfl) (val_v rfl) (X.width Y (val_v rfl))) (X.entV Y G h1 (show f < n + 2 by omega) (val_v rfl) (val_v rfl) (val_v rfl)) (fit_mul (G.fit h2 _) (G.fit h1 _) (by omega))) ?_
    refine q_if (ans_ne (val_v rfl) (val_v rfl) rfl rfl) ?_
    by_cases he : T.at one n * T.at other f = T.at other n * T.at one f
    · rw [he, decide_eq_true rfl]
      refine q_if (ans_isN (X.basV Y G h2 (val_v rfl) (val_v rfl)) bV_non) ?_
      have hspec : aheadI n T one other f = match T.bs other with
        | none => false
        | some q => match T.bs one with
          | none => true
          | some p => decide (p < q) := by unfold aheadI; rw [if_neg (fun z => z he)] <;> rfl
      cases hb : T.bs other with
      | none =>
        rw [hb] at hspec
        rw [hspec] at k
        exact k
      | some q =>
        refine (X.basV Y G h1 (val_v rfl) (val_v rfl)) _ ?_
        refine ⟨rfl, _, rfl, ?_⟩
        rw [bV_non]
        rw [hb] at hspec
        cases hb1 : T.bs one with
        | none =>
          rw [hb1] at hspec
          rw [hspec] at k
          exact k
        | some q1 =>
          rw [hb1] at hspec
          refine (X.basV Y G h1 (val_v rfl) (val_v rfl)) _ ?_
          refine (X.basV Y G h2 (val_v rfl) (val_v rfl)) _ ?_
          rw [hb, hb1]
          refine ⟨_, _, rfl, rfl, ?_⟩
          have e : decide ((q1 : Int) < (q : Int)) = decide (q1 < q) := by
            by_cases h : q1 < q
            · rw [decide_eq_true h, decide_eq_true (by omega)]
            · rw [decide_eq_false h, decide_eq_false (by omega)]
          show Q (V.bl (decide ((q1 : Int) < (q : Int)))) H
          rw [e]
          rw [hspec] at k
          exact k
    · have hd : decide (V.int (T.at one n * T.at other f) = V.int (T.at other n * T.at one f)) = false := decide_eq_false fun z => he (V.int.inj z)
      rw [hd]
      refine iteT ⟨_, rfl, _, rfl, _, _, rfl, rfl, ?_⟩
      have hspec : aheadI n T one other f = decide (T.at one n * T.at other f < T.at other n * T.at one f) := by unfold aheadI; rw [if_pos he]
      rw [hspec] at k
      exact k
/-! ### leaving -/
def spLeave (C : Addr) : Sp := fun vs H Q _ => ∃ (p r b : Addr) (n m f : Nat) (T : TS) (as : List Addr), vs = [.ref p, .int (f : Int)] ∧ TabAt C H p n T r b as ∧ Gd n m T ∧ f < n ∧
  Q (bV (leaveI n T f)) H
theorem scLeave : FnScope ["self", "fact", "best", "k", "row"] ["self", "fact"] (defScope sLeave) := ⟨rfl, rfl, rfl, by decide +kernel, rfl, by decide +kernel, by decide +kernel⟩
theorem leaveTo_lt {n : Nat} {T : TS} {f i q : Nat} (h : leaveTo n T f i = some q) : q < i := by
  rcases leave_spec (n := n) (T := T) (f := f) i with ⟨h1, _⟩ | ⟨q', h1, h2, _⟩
  · rw [h] at h1; cases h1
  · rw [h] at h1; cases h1; exact h2
theorem cal_leave (D : DfM K C "leaving" "Table.leaving" sLeave ["self", "fact"]) (cA : CalM P w K mg base C "goes_ahead" 1 ["self", "one", "other", "fact"] (spAhead C)) (Y : Txt K mg C) : CalM P w K mg base C "leaving" 2 ["self", "fact"] (spLeave C) := by
  obtain ⟨fA, fdA, GA, mA, bA⟩ := cA
  refine D.cal scLeave (fun vs H Q E h => ?_) (fun _ _ cdv A outer s H vs Q E hr h => ?_)
  · obtain ⟨_, _, _, _, _, _, _, _, rfl, _⟩ := h
    rfl
  · obtain ⟨p, r, b, n, m, f, T, as, rfl, X, G, hf, k⟩ := h
    have nd := scLeave.nd
    refine ⟨_, pss_cons (ps_set (i := 2) nd rfl (Or.inl rfl) pe_non)
      (pss_cons (ps_for PassesOwn.never rfl (pi_range1 (by rfl) Y.range (pa_cons (pe_callB call_len_seq (by rfl) Y.len PySem.boot_len (pa_cons (pe_fld (pv 0) rfl) pa_nil)) pa_nil)) (pg_name (i := 3) nd rfl (Or.inl rfl))
        (pss_cons (ps_set (i := 4) nd rfl (Or.inl rfl) (pe_ix ix_list (pe_fld (pv 0) rfl) (pv 3) (fun _ _ => rfl)))
        (pss_one (ps_if (pt_cmpR op_gt1 (pe_ix ix_list (pv 4) (pv 1) (fun _ _ => rfl)) pe_int (nomark _))
          (pss_one (ps_if (PW.pt (pw_or (pt_cmpR op_isN1 (pv 2) pe_non (nomark _)) (pw_or1 (pt_val (pe_meth (pv 0) Y.cl mA GA hr bA .nil pass0 (pa_cons (pv 3) (pa_cons (pv 2) (pa_cons (pv 1) pa_nil)))))))) (pss_one (ps_set (i := 2) nd rfl (Or.inl rfl) (pv 3))) pss_nil)) pss_nil))))
      (pss_one (ps_ret (pv 2)))), ?_⟩
    obtain ⟨dx, hp⟩ := X.ob
    have h13 := G.m13
    have hrl := G.rl
    refine (X.rowsV Y (val_v rfl)) _ ?_
    have e0 : ((as.map V.ref).length : Int).toNat = m := by rw [Int.toNat_natCast, List.length_map, X.len, hrl]
    refine ⟨r, _, rfl, .inl (SqL.of X.rows), ((as.map V.ref).length : Int), rfl, by omega, by rw [List.length_map, X.len, hrl]; omega, ?_⟩
    rw [e0]
    refine for_range0 (n := m) (fun i σ H' => H = H' ∧ ∃ v3 v4, σ = [some (.ref p), some (.int (f : Int)), some (bV (leaveTo n T f i)), v3, v4]) ⟨rfl, none, none, rfl⟩ ?_ ?_
    · rintro i σ H' hi ⟨rfl, v3, v4, rfl⟩
      obtain ⟨a, ha, hrow⟩ := X.addr (k := i) (by rw [hrl]; exact hi)
      refine q_set (X.rowV Y ha (val_v rfl) (val_v rfl)) ?_
      have hfV : atI ((T.rows.getD i []).map V.int) (f : Int) = some (.int (T.at i f)) := at_ints (by rw [G.rlen hi]; omega)
      refine s_if (ans_gt (val_ixL (val_v rfl) (val_v rfl) hrow hfV) rfl) ?_
      have hstep : leaveTo n T f (i + 1) = leaveStep n T f (leaveTo n T f i) i := leaveTo_succ n T f i
      by_cases hpos : 0 < T.at i f
      · rw [decide_eq_true hpos]
        refine iteT (s_ifOr (ans_isN (val_v rfl) bV_non) ?_)
        cases hq : leaveTo n T f i with
        | none =>
          refine iteT ⟨_, rfl, rfl, ?_⟩
          have e : leaveTo n T f (i + 1) = some i := by rw [hstep, hq]; unfold leaveStep; rw [if_pos hpos]
          rw [e]
          exact ⟨_, _, rfl⟩
        | some q =>
          refine iteF ⟨_, rfl, p, dx, _, rfl, hp, tf_no _ _ _ (by decide +kernel) (by decide +kernel) (by decide +kernel), _, rfl, _, rfl, _, rfl, p, r, b, n, m, i, q, f, T, as, rfl, X, G, hi, Nat.lt_trans (leaveTo_lt hq) hi, hf, _, rfl, ?_⟩
          cases ha' : aheadI n T i q f with
          | true =>
            refine iteT ⟨_, rfl, rfl, ?_⟩
            have e : leaveTo n T f (i + 1) = some i := by rw [hstep, hq]; unfold leaveStep; rw [if_pos hpos]; show (if aheadI n T i q f = true then some i else some q) = _; rw [ha', if_pos rfl]
            rw [e]
            exact ⟨_, _, rfl⟩
          | false =>
            refine iteF ⟨rfl, ?_⟩
            have e : leaveTo n T f (i + 1) = some q := by rw [hstep, hq]; unfold leaveStep; rw [if_pos hpos]; show (if aheadI n T i q f = true then some i else some q) = _; rw [ha', if_neg Bool.false_ne_true]
            rw [e]
            exact ⟨_, _, rfl⟩
      · rw [decide_eq_false hpos]
        refine iteF ⟨rfl, ?_⟩
        have e : leaveTo n T f (i + 1) = leaveTo n T f i := by rw [hstep]; unfold leaveStep; rw [if_neg hpos]
        rw [e]
        exact ⟨_, _, rfl⟩
    · rintro σ H' ⟨rfl, v3, v4, rfl⟩
      refine ⟨_, rfl, ?_⟩
      have e : leaveI n T f = leaveTo n T f m := by unfold leaveI leaveTo; rw [hrl]
      rw [← e]
      exact k
end
end K47
end
section
set_option Elab.async false
set_option maxRecDepth 100000
set_option maxHeartbeats 4000000
set_option autoImplicit false
/-! turn. -/
namespace K47
open PySem L2 PySem.Spec PyProof.Rows
abbrev iMul (a b : TE) : TE := tOp (rI CMulB fun i j => V.int (i * j)) a b
abbrev iAdd (a b : TE) : TE := tOp (rI0 fun i j => V.int (i + j)) a b
abbrev iSub (a b : TE) : TE := tOp (rI0 fun i j => V.int (i - j)) a b
abbrev iIx (K : PySem.W.Frag) (a b : TE) : TE := tOp (rIxL K) a b
/-- the table when the first i rows are through -/
def midT (n : Nat) (T : TS) (r s i : Nat) : TS := ⟨(List.range T.rows.length).map fun k => if k < i then turnRow n (T.rows.getD r []) r s k (T.rows.getD k []) else T.rows.getD k [], T.basis⟩
theorem midT_len {n : Nat} {T : TS} {r s i : Nat} : (midT n T r s i).rows.length = T.rows.length := by unfold midT; simp
theorem midT_row {n : Nat} {T : TS} {r s i k : Nat} (hk : k < T.rows.length) : (midT n T r s i).rows.getD k [] = if k < i then turnRow n (T.rows.getD r []) r s k (T.rows.getD k []) else T.rows.getD k [] := by
  unfold midT
  rw [List.getD_eq_getElem?_getD, List.getElem?_map, List.getElem?_range hk]; rfl
theorem midT_zero {n : Nat} {T : TS} {r s : Nat} : midT n T r s 0 = T := by
  obtain ⟨rows, basis⟩ := T
  unfold midT
  congr 1
  refine List.ext_getElem? fun k => ?_
  rw [List.getElem?_map]
  by_cases h : k < rows.length
  · rw [List.getElem?_range h, List.getElem?_eq_getElem h]
    show some (if k < 0 then _ else rows.getD k []) = _
    rw [if_neg (by omega), List.getD_eq_getElem?_getD, List.getElem?_eq_getElem h]; rfl
  · rw [List.getElem?_eq_none (by simp; omega), List.getElem?_eq_none (by omega)]; rfl
/-- the row at one place of a table on the heap is another one -/
theorem TabAt.setRow {C : Addr} {H : Hp} {p r b : Addr} {n : Nat} {T T' : TS} {as : List Addr} (X : TabAt C H p n T r b as) {i : Nat} {q : Addr} (hi : i < T.rows.length) (hT : T'.rows.length = T.rows.length) (hb : T'.basis = T.basis)
    (hq : H q = some (.lst ((T'.rows.getD i []).map V.int))) (hn : q ≠ r ∧ q ≠ b) (ho : ∀ k, k < T.rows.length → k ≠ i → T'.rows.getD k [] = T.rows.getD k []) : TabAt C (upd H r (.lst ((as.set i q).map V.ref))) p n T' r b (as.set i q) := by
  obtain ⟨dx, hp⟩ := X.ob
  have hlen := X.len
  refine ⟨⟨dx, by rw [upd_ne (ne_of hp X.rows (by intro z; cases z))]; exact hp⟩, upd_same, by rw [List.length_set, hT]; exact X.len, fun k a ha => ?_, by rw [upd_ne (Ne.symm X.ne.1), hb]; exact X.bas, X.ne.1, fun a ha => ?_⟩
  · have hk : k < T.rows.length := by
      have := (List.getElem?_eq_some_iff.mp ha).1
      rw [List.length_set] at this
      omega
    by_cases e : k = i
    · subst e
      rw [List.getElem?_set_self (by omega)] at ha
      cases ha
      rw [upd_ne hn.1]; exact hq
    · rw [List.getElem?_set_ne (Ne.symm e)] at ha
      rw [ho k hk e, upd_ne (X.ne.2 a (List.mem_of_getElem? ha)).1]
      exact X.row k a ha
  · rcases List.mem_or_eq_of_mem_set ha with h | h
    · exact X.ne.2 a h
    · rw [h]; exact hn
theorem set_map_ref (as : List Addr) (i : Nat) (q : Addr) : (as.map V.ref).set i (V.ref q) = (as.set i q).map V.ref := by rw [List.map_set]
theorem ixN_nat' {n j : Nat} (hj : j < n) : ixN n (j : Int) = some j := by
  unfold ixN
  rw [if_pos (by omega), if_pos (by omega)]
  simp
theorem fresh_fit {n : Nat} {by_ row : List Int} {s : Nat} (h1 : ∀ x ∈ by_, Fit 546 x) (h2 : ∀ x ∈ row, Fit 546 x) : ∀ x ∈ freshI n by_ row s, Fit 8000 x := fun x hx => by
  have g : ∀ (l : List Int) (c : Nat), (∀ x ∈ l, Fit 546 x) → Fit 546 (l.getD c 0) := fun l c h => by
    rw [List.getD_eq_getElem?_getD]
    cases e : l[c]? with
    | none => show (0 : Int).natAbs ≤ _; simp
    | some y => exact h y (List.mem_of_getElem? e)
  have m : ∀ a b : Int, Fit 546 a → Fit 546 b → (a * b).natAbs ≤ 2 ^ (546 + 546) := fun a b ha hb => by
    rw [Int.natAbs_mul, Nat.pow_add]; exact Nat.mul_le_mul ha hb
  have e : 2 * 2 ^ (546 + 546) ≤ 2 ^ 8000 := by
    rw [Nat.mul_comm, ← Nat.pow_succ]; exact Nat.pow_le_pow_right (by omega) (by omega)
  unfold freshI at hx
  rcases List.mem_append.mp hx with h | h
  · obtain ⟨c, _, rfl⟩ := List.mem_map.mp h
    have a1 := m _ _ (g row c h2) (g by_ s h1)
    have a2 := m _ _ (g by_ c h1) (g row s h2)
    have a3 := Int.natAbs_sub_le (row.getD c 0 * by_.getD s 0) (by_.getD c 0 * row.getD s 0)
    show (row.getD c 0 * by_.getD s 0 - by_.getD c 0 * row.getD s 0).natAbs ≤ 2 ^ 8000
    generalize 2 ^ 8000 = Z at e ⊢
    generalize 2 ^ (546 + 546) = Y at e a1 a2
    omega
  · simp at h
    rw [h]
    have a1 := m _ _ (g row (n + 1) h2) (g by_ s h1)
    simp only [List.getD_eq_getElem?_getD] at a1
    show (row[n + 1]?.getD 0 * by_[s]?.getD 0).natAbs ≤ 2 ^ 8000
    generalize 2 ^ 8000 = Z at e ⊢
    generalize 2 ^ (546 + 546) = Y at e a1
    omega
theorem TabAt.setBas {C : Addr} {H : Hp} {p r b : Addr} {n : Nat} {T : TS} {as : List Addr} (X : TabAt C H p n T r b as) (B : List (Option Nat)) : TabAt C (upd H b (.lst (B.map bV))) p n ⟨T.rows, B⟩ r b as := by
  obtain ⟨dx, hp⟩ := X.ob
  exact ⟨⟨dx, by rw [upd_ne (ne_of hp X.bas (by intro z; cases z))]; exact hp⟩, by rw [upd_ne X.ne.1]; exact X.rows, X.len, fun k a ha => by rw [upd_ne (X.ne.2 a (List.mem_of_getElem? ha)).2]; exact X.row k a ha, upd_same, X.ne⟩
theorem bV_set (B : List (Option Nat)) (i s : Nat) : (B.map bV).set i (.int (s : Int)) = (B.set i (some s)).map bV := by rw [List.map_set]; rfl
theorem cut_head (xs : List V) (k : Nat) : cutV xs none (some ((k : Nat) : Int)) = xs.take k := by
  unfold cutV
  rw [HT.sIx_none, HT.sIx_nat, List.drop_zero, Nat.sub_zero]
  by_cases h : k ≤ xs.length
  · rw [Nat.min_eq_left h]
  · rw [Nat.min_eq_right (by omega), List.take_of_length_le (Nat.le_refl _), List.take_of_length_le (by omega)]
theorem e_sl {r : V → Option Int → Option Int → Hp → VK → Prop} {H : Hp} {σ : L2.St} {ta tb : TE} {x : V} {i : Int} {Q : VK} (ha : Val ta σ H x) (hb : Val tb σ H (.int i)) (k : r x none (some i) H Q) : tSl r ta tNoPart (tPart tb) σ H Q := ha _ (hb _ ⟨i, rfl, k⟩)
theorem q_setE {H : Hp} {σ : L2.St} {i : Nat} {te : TE} {tz : L2.TS} {D : Ends} (h : te σ H fun x H1 => tz D (σ.set i (some x)) H1) : tSeq (tAsg te (gName i)) tz D σ H := h
theorem q_asgE {H : Hp} {σ : L2.St} {g : TG} {te : TE} {tz : L2.TS} {D : Ends} (h : te σ H fun x H1 => g x σ H1 fun σ' H' => tz D σ' H') : tSeq (tAsg te g) tz D σ H := h
theorem s_asgE {H : Hp} {σ : L2.St} {g : TG} {te : TE} {D : Ends} (h : te σ H fun x H1 => g x σ H1 D.nx) : tAsg te g D σ H := h
section
variable {P : Program} {w : World} {K : PySem.W.Frag} {mg : Str → Option Value} {base : Heap} {C : Addr}
def spTurn (C : Addr) : Sp := fun vs H Q _ => ∃ (p r b : Addr) (n m l s : Nat) (T : TS) (as : List Addr), vs = [.ref p, .int (l : Int), .int (s : Int)] ∧ TabAt C H p n T r b as ∧ Gd n m T ∧ l < m ∧ s < n ∧
  ∀ as' H', TabAt C H' p n (turnI n T l s) r b as' → (∀ c o, H c = some o → c ≠ r → c ≠ b → H' c = some o) → Q .non H'
theorem scTurn : FnScope ["self", "place", "fact", "by", "k", "row", "fresh", "j"] ["self", "place", "fact"] (defScope sTurn) := ⟨rfl, rfl, rfl, by decide +kernel, rfl, by decide +kernel, by decide +kernel⟩
theorem cal_turn (D : DfM K C "turn" "Table.turn" sTurn ["self", "place", "fact"]) (cS : Cal P w K mg base "shortened" 2 ["row"] spShort) (Y : Txt K mg C) : CalM P w K mg base C "turn" 3 ["self", "place", "fact"] (spTurn C) := by
  obtain ⟨fS, fdS, GS, mS, kS, bS⟩ := cS
  refine D.cal scTurn (fun vs H Q E h => ?_) (fun _ _ cdv A outer s H vs Q E hr h => ?_)
  · obtain ⟨_, _, _, _, _, _, _, _, _, rfl, _⟩ := h
    rfl
  · obtain ⟨p, r, b, n, m, l, s', T, as, rfl, X, G, hl, hs, k⟩ := h
    have nd := scTurn.nd
    refine ⟨_, pss_cons (ps_set (i := 3) nd rfl (Or.inr rfl) (pe_ix ix_list (pe_fld (pv 0) rfl) (pv 1) (fun _ _ => rfl)))
      (pss_cons (ps_for PassesOwn.never rfl (pi_range1 (by rfl) Y.range (pa_cons (pe_callB call_len_seq (by rfl) Y.len PySem.boot_len (pa_cons (pe_fld (pv 0) rfl) pa_nil)) pa_nil)) (pg_name (i := 4) nd rfl (Or.inl rfl))
        (pss_cons (ps_set (i := 5) nd rfl (Or.inr rfl) (pe_ix ix_list (pe_fld (pv 0) rfl) (pv 4) (fun _ _ => rfl)))
        (pss_one (ps_if (PW.pt (pw_and (pt_cmpR op_ne (pv 4) (pv 1) (nomark _)) (pw_and1 (pt_cmpR op_ne (pe_ix ix_list (pv 5) (pv 2) (fun _ _ => rfl)) pe_int (nomark _)))))
          (pss_cons (ps_setLc (i := 6) (own := [("j", 7)]) (g := gName 7) (tt := tYes) (te := iSub (iMul (iIx K (tVar 5) (tVar 7)) (iIx K (tVar 3) (tVar 2))) (iMul (iIx K (tVar 3) (tVar 7)) (iIx K (tVar 5) (tVar 2)))) rfl nd rfl rfl (sw_true rfl rfl rfl (by decide +kernel)) (pi_range1 (by rfl) Y.range (pa_cons (pe_op op_add (pe_fld (pv 0) rfl) pe_int) pa_nil)) (blkOk_by (N := ["self", "place", "fact", "by", "k", "row", "fresh", "j"]) (sc := defScope sTurn) (by decide +kernel))
            (fun _ _ _ _ _ => pg_name (i := 7) nd rfl (Or.inl rfl)) (fun _ _ _ _ _ => pts_nil)
            (fun _ _ _ _ _ => pe_op op_sub (pe_op op_mulB (pe_ix ix_list (pv 5) (pv 7) (fun _ _ => rfl)) (pe_ix ix_list (pv 3) (pv 2) (fun _ _ => rfl))) (pe_op op_mulB (pe_ix ix_list (pv 3) (pv 7) (fun _ _ => rfl)) (pe_ix ix_list (pv 5) (pv 2) (fun _ _ => rfl)))))
          (pss_one (ps_asg (pe_call GS hr (by rfl) mS kS bS .nil pass0 (pa_cons (pe_op op_cat (pv 6) (pe_lst (pa_cons (pe_op op_mulB (pe_ix ix_list (pv 5) (pe_un un_neg pe_int) (fun _ _ => rfl)) (pe_ix ix_list (pv 3) (pv 2) (fun _ _ => rfl))) pa_nil))) pa_nil)) (pg_sub (pe_fld (pv 0) rfl) (pv 4) set_list)))) pss_nil))))
      (pss_cons (ps_asg (pe_call GS hr (by rfl) mS kS bS .nil pass0 (pa_cons (pe_op op_cat (pe_slice sl_list (pv 3) po_none (po_some (pe_op op_add (pe_fld (pv 0) rfl) pe_int))) (pe_lst (pa_cons pe_int pa_nil))) pa_nil)) (pg_sub (pe_fld (pv 0) rfl) (pv 1) set_list))
      (pss_one (ps_asg (pv 2) (pg_sub (pe_fld (pv 0) rfl) (pv 1) set_list))))), ?_⟩
    have h13 := G.m13
    have h64 := G.n64
    have hrl := G.rl
    have hbl := G.bl
    obtain ⟨ay, hay, hby⟩ := X.addr (k := l) (by omega)
    have hyne := X.ne.2 ay (List.mem_of_getElem? hay)
    refine q_set (X.rowV Y hay vn vn) ?_
    refine (X.rowsV Y vn) _ ?_
    have e0 : ((as.map V.ref).length : Int).toNat = m := by rw [Int.toNat_natCast, List.length_map, X.len, hrl]
    refine ⟨r, _, rfl, .inl (SqL.of X.rows), ((as.map V.ref).length : Int), rfl, by omega, by rw [List.length_map, X.len, hrl]; omega, ?_⟩
    rw [e0]
    refine for_range0 (n := m) (fun i σ H' => (∃ as', TabAt C H' p n (midT n T l s' i) r b as') ∧ (∀ c o, H c = some o → c ≠ r → H' c = some o) ∧ ∃ v4 v5 v6 v7, σ = [some (.ref p), some (.int (l : Int)), some (.int (s' : Int)), some (.ref ay), v4, v5, v6, v7])
      ⟨⟨as, by rw [midT_zero]; exact X⟩, fun c o h _ => h, none, none, none, none, rfl⟩ ?_ ?_
    · rintro i σ H' hi ⟨⟨as', X'⟩, hfr, v4, v5, v6, v7, rfl⟩
      have hil : i < T.rows.length := by omega
      have hbyH := hfr _ _ hby hyne.1
      obtain ⟨a, ha, hrow⟩ := X'.addr (k := i) (by rw [midT_len]; exact hil)
      rw [midT_row hil, if_neg (Nat.lt_irrefl i)] at hrow
      have hlR := G.rlen hi
      have hlB := G.rlen hl
      refine q_set (X'.rowV Y ha vn vn) ?_
      have hsV : atI ((T.rows.getD i []).map V.int) (s' : Int) = some (.int ((T.rows.getD i []).getD s' 0)) := at_ints (by omega)
      have hsB : atI ((T.rows.getD l []).map V.int) (s' : Int) = some (.int ((T.rows.getD l []).getD s' 0)) := at_ints (by omega)
      have hmid : ∀ k, k < T.rows.length → k ≠ i → (midT n T l s' (i + 1)).rows.getD k [] = (midT n T l s' i).rows.getD k [] := fun k hk hne => by
        rw [midT_row hk, midT_row hk]
        by_cases h : k < i
        · rw [if_pos h, if_pos (by omega)]
        · rw [if_neg h, if_neg (by omega)]
      refine s_if (ans_and2 (ans_ne vn vn rfl rfl) (ans_ne (val_ixL vn vn hrow hsV) val_c rfl rfl)) ?_
      by_cases hc : i ≠ l ∧ (T.rows.getD i []).getD s' 0 ≠ 0
      · have hd : ((!decide (V.int (i : Int) = V.int (l : Int))) && (!decide (V.int ((T.rows.getD i []).getD s' 0) = V.int 0))) = true := by
          rw [decide_eq_false (fun z => hc.1 (by have := V.int.inj z; omega)), decide_eq_false (fun z => hc.2 (V.int.inj z))]; rfl
        rw [hd]
        refine iteT ?_
        have fB := G.fits hl
        have fR := G.fits hi
        have gB : ∀ c, Fit 546 ((T.rows.getD l []).getD c 0) := fun c => G.fit hl c
        have gR : ∀ c, Fit 546 ((T.rows.getD i []).getD c 0) := fun c => G.fit hi c
        refine q_setE (lcR_val (N := n + 1) (fun j => V.int ((T.rows.getD i []).getD j 0 * (T.rows.getD l []).getD s' 0 - (T.rows.getD l []).getD j 0 * (T.rows.getD i []).getD s' 0)) (fun Q q => (val_I0 (X'.width Y vn) val_c) _ q) (by omega) (by intro x; rfl) (fun j H2 hj s2 => ?_) _ fun Dl nD => ?_)
        · exact val_I0 (val_I (val_ixL vn vn (s2 _ _ hrow) (at_ints (by omega))) (val_ixL vn vn (s2 _ _ hbyH) hsB) (fit_mul (gR _) (gB _) (by omega))) (val_I (val_ixL vn vn (s2 _ _ hbyH) (at_ints (by omega))) (val_ixL vn vn (s2 _ _ hrow) hsV) (fit_mul (gB _) (gR _) (by omega)))
        · have sD := same_upd (o := .lst ((List.range (n + 1)).map fun j => V.int ((T.rows.getD i []).getD j 0 * (T.rows.getD l []).getD s' 0 - (T.rows.getD l []).getD j 0 * (T.rows.getD i []).getD s' 0))) nD
          refine s_asgE (e_call1 (e_opV vn (e_lst1 (val_I (val_ixL vn (val_un val_c) (sD _ _ hrow) (atI_lastInts hlR)) (val_ixL vn vn (sD _ _ hbyH) hsB) (fit_mul (gR _) (gB _) (by omega))) fun q1 nq1 => ?_)))
          have s1 := same_upd (o := .lst [V.int ((T.rows.getD i []).getD (n + 1) 0 * (T.rows.getD l []).getD s' 0)]) nq1
          refine ⟨Dl, q1, _, _, rfl, rfl, s1 _ _ upd_same, upd_same, by rw [List.length_map, List.length_range]; show n + 1 + 1 ≤ sizeLine; exact Nat.le_of_lt (small100 (by omega)), fun q2 nq2 => ?_⟩
          refine ⟨q2, freshI n (T.rows.getD l []) (T.rows.getD i []) s', rfl, ?_, ?_, fresh_fit fB fR, fun q3 H3 s3 hq3 hv3 => ?_⟩
          · rw [upd_same]; unfold freshI; rw [List.map_append, List.map_map]; rfl
          · unfold freshI; rw [List.length_append, List.length_map, List.length_range]; show n + 1 + 1 ≤ 1000; omega
          · have s03 : Same H' H3 := (sD.trans s1).trans ((same_upd nq2).trans s3)
            have X3 := X'.same s03
            have n3 : ∀ c o, H' c = some o → q3 ≠ c := fun c o hco e => by
              have h2 := (sD.trans s1) _ _ hco
              rcases hq3 with z | z
              · rw [← e, z, nq2] at h2; cases h2
              · rw [← e] at h2
                rw [upd_ne (ne_of_none h2 nq2), h2] at z; cases z
            refine e_sub (X3.rowsV Y vn) vn ⟨r, _, _, i, rfl, rfl, X3.rows, ixN_nat' (by rw [List.length_map, X'.len, midT_len]; exact hil), ?_⟩
            rw [set_map_ref]
            refine ⟨⟨as'.set i q3, X3.setRow (T' := midT n T l s' (i + 1)) (by rw [midT_len]; exact hil) (by rw [midT_len, midT_len]) rfl ?_ ⟨n3 _ _ X'.rows, n3 _ _ X'.bas⟩ (fun k hk hne => hmid k (by rw [midT_len] at hk; exact hk) hne)⟩, fun c o hco hcr => ?_, _, _, _, _, rfl⟩
            · rw [midT_row hil, if_pos (by omega)]
              unfold turnRow
              rw [if_pos hc]
              exact hv3
            · rw [upd_ne hcr]; exact s03 _ _ (hfr c o hco hcr)
      · have hd : ((!decide (V.int (i : Int) = V.int (l : Int))) && (!decide (V.int ((T.rows.getD i []).getD s' 0) = V.int 0))) = false := by
          by_cases h1 : i = l
          · subst h1; rw [decide_eq_true rfl]; rfl
          · have h2 : (T.rows.getD i []).getD s' 0 = 0 := Classical.byContradiction fun z => hc ⟨h1, z⟩
            rw [h2, decide_eq_true (p := V.int 0 = V.int 0) rfl, Bool.not_true, Bool.and_false]
        rw [hd]
        refine iteF ⟨⟨as', ?_⟩, hfr, _, _, _, _, rfl⟩
        have e : midT n T l s' (i + 1) = midT n T l s' i := by
          unfold midT
          congr 1
          refine List.map_congr_left fun k _ => ?_
          by_cases h : k < i
          · rw [if_pos h, if_pos (by omega)]
          · by_cases h' : k = i
            · subst h'
              rw [if_pos (by omega), if_neg h]
              unfold turnRow
              rw [if_neg hc]
            · rw [if_neg h, if_neg (by omega)]
        rw [e]; exact X'
    · rintro σ H' ⟨⟨as', X'⟩, hfr, v4, v5, v6, v7, rfl⟩
      have hbyH := hfr _ _ hby hyne.1
      have hlB := G.rlen hl
      have fB := G.fits hl
      show tSeq _ _ _ _ _
      refine q_asgE (e_call1 (e_op (e_sl vn (val_I0 (X'.width Y vn) val_c) ?_)))
      refine ⟨ay, _, rfl, SqL.of hbyH, fun q0 nq0 => ?_⟩
      have ecut : cutV ((T.rows.getD l []).map V.int) none (some ((n : Int) + 1)) = ((T.rows.getD l []).take (n + 1)).map V.int := by
        have := cut_head ((T.rows.getD l []).map V.int) (n + 1)
        rw [← List.map_take] at this
        exact this
      rw [ecut]
      have s0 := same_upd (o := .lst (((T.rows.getD l []).take (n + 1)).map V.int)) nq0
      refine e_lst1 val_c fun q1 nq1 => ?_
      have s1 := same_upd (o := .lst [V.int 0]) nq1
      refine ⟨q0, q1, _, _, rfl, rfl, s1 _ _ upd_same, upd_same, by rw [List.length_map, List.length_take]; show min (n + 1) _ + 1 ≤ sizeLine; exact Nat.le_of_lt (small100 (by omega)), fun q2 nq2 => ?_⟩
      refine ⟨q2, (T.rows.getD l []).take (n + 1) ++ [0], rfl, ?_, ?_, fun x hx => ?_, fun q3 H3 s3 hq3 hv3 => ?_⟩
      · rw [upd_same, List.map_append]; rfl
      · rw [List.length_append, List.length_take]; show min (n + 1) _ + 1 ≤ 1000; omega
      · rcases List.mem_append.mp hx with h | h
        · exact (fB x (List.mem_of_mem_take h)).mono (by omega)
        · simp at h; rw [h]; show (0 : Int).natAbs ≤ _; simp
      · have s03 : Same H' H3 := (s0.trans s1).trans ((same_upd nq2).trans s3)
        have X3 := X'.same s03
        have n3 : ∀ c o, H' c = some o → q3 ≠ c := fun c o hco e => by
          have h2 := (s0.trans s1) _ _ hco
          rcases hq3 with z | z
          · rw [← e, z, nq2] at h2; cases h2
          · rw [← e] at h2
            rw [upd_ne (ne_of_none h2 nq2), h2] at z; cases z
        have hll : l < T.rows.length := by omega
        refine e_sub (X3.rowsV Y vn) vn ⟨r, _, _, l, rfl, rfl, X3.rows, ixN_nat' (by rw [List.length_map, X'.len, midT_len]; exact hll), ?_⟩
        rw [set_map_ref]
        have X4 : TabAt C (upd H3 r (.lst ((as'.set l q3).map V.ref))) p n ⟨(turnI n T l s').rows, T.basis⟩ r b (as'.set l q3) := by
          have hlenT : (turnI n T l s').rows.length = T.rows.length := by unfold turnI; simp
          refine X3.setRow (T' := ⟨(turnI n T l s').rows, T.basis⟩) (by rw [midT_len]; exact hll) (by rw [midT_len]; exact hlenT) rfl ?_ ⟨n3 _ _ X'.rows, n3 _ _ X'.bas⟩ (fun k hk hne => ?_)
          · show H3 q3 = some (.lst (((turnI n T l s').rows.getD l []).map V.int))
            rw [turn_rows hll hll, if_pos rfl]; exact hv3
          · rw [midT_len] at hk
            show (turnI n T l s').rows.getD k [] = _
            rw [turn_rows hk hll, if_neg hne, midT_row hk, if_pos (by omega)]
        refine s_asgE (e_val vn ?_)
        refine e_sub (X4.basisV Y vn) vn ⟨b, _, _, l, rfl, rfl, X4.bas, ixN_nat' (by rw [List.length_map]; show l < T.basis.length; omega), ?_⟩
        show Q .non _
        rw [bV_set]
        refine k (as'.set l q3) _ (X4.setBas _) fun c o hco hcr hcb => ?_
        rw [upd_ne hcb, upd_ne hcr]
        exact s03 _ _ (hfr c o hco hcr)
end
end K47
end
section
set_option Elab.async false
set_option maxRecDepth 100000
set_option maxHeartbeats 4000000
set_option autoImplicit false
/-! solved. -/
namespace K47
open PySem L2 PySem.Spec PyProof.Rows
/-- pairs (fact, times) whose sum is a multiple of what is due -/
structure SumOk (n m : Nat) (A : Nat → Nat → Int) (ps : List (Nat × Int)) : Prop where
  nd : (ps.map (·.1)).Nodup
  ok : ∀ q ∈ ps, q.1 < n ∧ 0 < q.2 ∧ Fit 8000 q.2
  sum : ∃ sc : Int, 0 < sc ∧ ∀ i, i < m → (ps.map fun q => q.2 * A i q.1).sum = sc * A i n
def NoSum (n m : Nat) (A : Nat → Nat → Int) : Prop := ∀ lam : Nat → Int, (∀ j, j < n → 0 ≤ lam j) → ∀ sg : Int, 0 < sg → (∀ i, i < m → si n (fun j => A i j * lam j) = sg * A i n) → False
def dK (ps : List (Nat × Int)) : List (Key × V) := ps.map fun q => (Sum.inl (q.1 : Int), V.int q.2)
theorem dK_none {ps : List (Nat × Int)} {j : Nat} (h : ¬ j ∈ ps.map (·.1)) : valV (dK ps) (Sum.inl (j : Int)) = none := by
  cases e : valV (dK ps) (Sum.inl (j : Int)) with
  | none => rfl
  | some v =>
    have hm := valV_in e
    obtain ⟨q, hq, he⟩ := List.mem_map.mp hm
    obtain ⟨q', hq', rfl⟩ := List.mem_map.mp hq
    have : q'.1 = j := by have := Sum.inl.inj he; omega
    exact absurd (List.mem_map.mpr ⟨q', hq', this⟩) h
theorem any_bools (xs : List Nat) (g : Nat → Bool) : ((xs.map g).any id) = true ↔ ∃ k ∈ xs, g k = true := by
  rw [List.any_map, List.any_eq_true]; rfl
section
variable {H : Hp} {K : PySem.W.Frag} {σ : L2.St} {ta tb : TE}
theorem lcM_in {α : Type} {a : Addr} (ks : List α) (g f : α → V) {j : Nat} {te : TE} {vs : List Nat} (hx : H a = some (.lst (ks.map g))) (hz : ks.length ≤ 1000) (hw : ∀ x, wipe ((wipe σ vs).set j (some x)) vs = wipe σ vs)
    (he : ∀ (k : α) (H' : Hp), k ∈ ks → Same H H' → Val te ((wipe σ vs).set j (some (g k))) H' (f k)) {Dl : Addr} (hD : H Dl = none) {Qd : Hp → Prop} (k : Qd (upd H Dl (.lst (ks.map f)))) :
    ∃ W : Nat → Nat → Hp → Prop, (∃ m, W 0 m (upd H Dl (.lst []))) ∧ ∀ i m H, W i m H →
      ((Itl K a).stop i H ∧ Qd H) ∨ ((Itl K a).go i H ∧ ∃ Nx : Hp → Prop, (∀ H', Nx H' → ∃ m', m' < m ∧ W (i + 1) m' H') ∧ ∀ x H', (Itl K a).yld i H x H' → gName j x (wipe σ vs) H' fun σ2 H2 => wipe σ2 vs = wipe σ vs ∧ tYes σ2 H2 fun b H3 =>
        if b = true then te σ2 H3 fun y H4 => ∃ acc, H4 Dl = some (.lst acc) ∧ acc.length < sizeLine ∧ Nx (upd H4 Dl (.lst (acc ++ [y]))) else Nx H3) := by
  refine lc_list (K := K) (a := a) (xs := ks.map g) (fun i H' => H' = upd H Dl (.lst ((ks.take i).map f))) rfl (fun i H' _ e => by rw [e]; exact SqL.of (same_upd hD _ _ hx)) ?_ ?_
  · rintro i x H' hi rfl
    rw [List.getElem?_map] at hi
    cases e : ks[i]? with
    | none => rw [e] at hi; cases hi
    | some q =>
      rw [e] at hi
      have hx' : g q = x := Option.some.inj hi
      subst hx'
      refine ⟨hw _, ?_⟩
      refine (he q _ (List.mem_of_getElem? e) (same_upd hD)) _ ?_
      refine ⟨_, upd_same, ?_, ?_⟩
      · rw [List.length_map, List.length_take]; exact small100 (by omega)
      · rw [upd_upd, take_succ_get e, List.map_append]; rfl
  · rintro H' rfl
    rw [List.length_map, List.take_of_length_le (Nat.le_refl _)]
    exact k
theorem val_div {x y : Int} {E : XK} (ha : Val ta σ H (.int x)) (hb : Val tb σ H (.int y)) : Val (tCall spDiv [] E (tCons ta (tCons tb tNil))) σ H (.int ((Int.gcd x y : Nat) : Int)) := fun _ q => ha _ (hb _ ⟨x, y, rfl, q⟩)
theorem q_seq {t tz : L2.TS} {D : Ends} (h : t { D with nx := tz D } σ H) : tSeq t tz D σ H := h
/-- for k in range(len(self.rows)) -/
theorem e_forRows {mg : Str → Option Value} {C p r b : Addr} {n m : Nat} {T : TS} {as : List Addr} {g : TG} {tb : L2.TS} {D : Ends} (X : TabAt C H p n T r b as) (Y : Txt K mg C) (G : Gd n m T) (ha : Val ta σ H (.ref p))
    (h : ∃ W : Nat → Nat → L2.St → Hp → Prop, (∃ m, W 0 m σ H) ∧ ∀ i q σ H, W i q σ H →
      ((Itr 0 m).stop i H ∧ D.nx σ H) ∨ ((Itr 0 m).go i H ∧ ∃ N : L2.St → Hp → Prop, (∀ σ' H', N σ' H' → ∃ m', m' < q ∧ W (i + 1) m' σ' H') ∧ ∀ x H', (Itr 0 m).yld i H x H' → g x σ H' fun σ2 H2 => tb { D with nx := N, ct := N, bk := D.nx } σ2 H2)) :
    tFor (iRng1 (tCons (tCB (fun xs H Q => ∃ p ys, xs = [V.ref p] ∧ (SqL K H p ys ∨ SqT K H p ys) ∧ Q (.int ys.length) H) (tCons (tFld K ta "rows") tNil)) tNil)) g tb D σ H := by
  have h13 := G.m13
  have hrl := G.rl
  have e0 : ((as.map V.ref).length : Int).toNat = m := by rw [Int.toNat_natCast, List.length_map, X.len, hrl]
  refine (X.rowsV Y ha) _ ⟨r, _, rfl, .inl (SqL.of X.rows), ((as.map V.ref).length : Int), rfl, by omega, by rw [List.length_map, X.len, hrl]; omega, ?_⟩
  rw [e0]
  exact h
theorem TabAt.m0 {C : Addr} {p r b : Addr} {n : Nat} {T : TS} {as : List Addr} {nm : Str} {sp : Sp} {E : XK} {Q : VK} (X : TabAt C H p n T r b as) (h1 : ¬ nm = "width") (h2 : ¬ nm = "rows") (h3 : ¬ nm = "basis") (ha : Val ta σ H (.ref p)) (h : sp [.ref p] H Q E) : tMeth C nm sp [] E ta tNil σ H Q := by
  obtain ⟨dx, hp⟩ := X.ob
  exact ha _ ⟨p, dx, _, rfl, hp, tf_no _ _ _ h1 h2 h3, h⟩
end
section
variable {P : Program} {w : World} {K : PySem.W.Frag} {mg : Str → Option Value} {base : Heap} {C : Addr}
def spSolve (C : Addr) : Sp := fun vs H Q _ => ∃ (p r b : Addr) (n m M : Nat) (T : TS) (as : List Addr) (A : Nat → Nat → Int) (a : Nat → Nat → Rat) (b' : Nat → Nat), vs = [.ref p] ∧ TabAt C H p n T r b as ∧ m ≤ 13 ∧ n ≤ 64 ∧ Org m n A M ∧ 2 * (m * M) ≤ 2 ^ 42 ∧ Lnk n m A (2 ^ (13 * 42)) T a b' ∧
  (∀ H', NoSum n m A → (∀ c o, H c = some o → c ≠ r → c ≠ b → H' c = some o) → Q .non H') ∧
  (∀ fd ps H', SumOk n m A ps → H fd = none → H' fd = some (.dK (dK ps)) → (∀ c o, H c = some o → c ≠ r → c ≠ b → H' c = some o) → Q (.ref fd) H')
theorem scSolve : FnScope ["self", "fact", "k", "scale", "own", "found"] ["self"] (defScope sSolve) := ⟨rfl, rfl, rfl, by decide +kernel, rfl, by decide +kernel, by decide +kernel⟩
theorem cal_solve (D : DfM K C "solved" "Table.solved" sSolve ["self"]) (cE : CalM P w K mg base C "entering" 3 ["self"] (spEnter C)) (cL : CalM P w K mg base C "leaving" 2 ["self", "fact"] (spLeave C)) (cT : CalM P w K mg base C "turn" 3 ["self", "place", "fact"] (spTurn C))
    (cH : CalM P w K mg base C "helpers" 1 ["self"] (spHelp C)) (cD : Cal P w K mg base "divisor" 1 ["one", "other"] spDiv) (Y : Txt K mg C) : CalM P w K mg base C "solved" 4 ["self"] (spSolve C) := by
  obtain ⟨fE, fdE, GE, mE, bE⟩ := cE
  obtain ⟨fL, fdL, GL, mL, bL⟩ := cL
  obtain ⟨fT, fdT, GT, mT, bT⟩ := cT
  obtain ⟨fH, fdH, GH, mH, bH⟩ := cH
  obtain ⟨fD, fdD, GD, mD, kD, bD⟩ := cD
  refine D.cal scSolve (fun vs H Q E h => ?_) (fun _ _ cdv A0' outer s H vs Q E hr h => ?_)
  · obtain ⟨_, _, _, _, _, _, _, _, _, _, _, rfl, _⟩ := h
    rfl
  · obtain ⟨p, r, b, n, m, M, T, as, A, a, b', rfl, X, h13, h64, O, hB, L, kN, kF⟩ := h
    have nd := scSolve.nd
    have hr1 : Room 1 _ := hr.mono (by decide)
    have hr2 : Room 2 _ := hr.mono (by decide)
    have hu := hu_of hr
    refine ⟨_, pss_cons (ps_set (i := 1) nd rfl (Or.inl rfl) (pe_meth0 (pv 0) Y.cl mE GE hr bE .nil pass0))
      (pss_cons (ps_while PassesOwn.never (pt_cmpR op_notN1 (pv 1) pe_non (nomark _))
        (pss_cons (ps_expr (pe_meth (pv 0) Y.cl mT GT hr bT .nil pass0 (pa_cons (pe_meth (pv 0) Y.cl mL GL hr2 bL .nil pass0 (pa_cons (pv 1) pa_nil)) (pa_cons (pv 1) pa_nil))))
        (pss_one (ps_set (i := 1) nd rfl (Or.inl rfl) (pe_meth0 (pv 0) Y.cl mE GE hr bE .nil pass0)))))
      (pss_cons (ps_if (pt_val (pe_callB (cr_any rfl) (by rfl) Y.any (by decide +kernel) (pa_cons (pe_lc (own := [("k", 2)]) (g := gName 2) (tt := tYes) (te := tOp rNe (iIx K (iIx K (tFld K (tVar 0) "rows") (tVar 2)) (tFld K (tVar 0) "width")) (tC (.int 0))) rfl nd (pi_list (pe_meth0 (pv 0) Y.cl mH GH hr1 bH .nil pass0))
          (blkOk_by (N := ["self", "fact", "k", "scale", "own", "found"]) (sc := defScope sSolve) (by decide +kernel)) (fun _ _ _ _ _ => pg_name (i := 2) nd rfl (Or.inl rfl)) (fun _ _ _ _ _ => pts_nil)
          (fun _ _ _ _ _ => pe_cmpR op_ne (pe_ix ix_list (pe_ix ix_list (pe_fld (pv 0) rfl) (pv 2) (fun _ _ => rfl)) (pe_fld (pv 0) rfl) (fun _ _ => rfl)) pe_int (nomark _))) pa_nil))) (pss_one (ps_ret pe_non)) pss_nil)
      (pss_cons (ps_set (i := 3) nd rfl (Or.inl rfl) pe_int)
      (pss_cons (ps_for PassesOwn.never rfl (pi_range1 (by rfl) Y.range (pa_cons (pe_callB call_len_seq (by rfl) Y.len PySem.boot_len (pa_cons (pe_fld (pv 0) rfl) pa_nil)) pa_nil)) (pg_name (i := 2) nd rfl (Or.inl rfl))
        (pss_one (ps_if (pt_cmpR op_notN1 (pe_ix ix_list (pe_fld (pv 0) rfl) (pv 2) (fun _ _ => rfl)) pe_non (nomark _))
          (pss_cons (ps_set (i := 4) nd rfl (Or.inl rfl) (pe_ix ix_list (pe_ix ix_list (pe_fld (pv 0) rfl) (pv 2) (fun _ _ => rfl)) (pe_ix ix_list (pe_fld (pv 0) rfl) (pv 2) (fun _ _ => rfl)) (fun _ _ => rfl)))
          (pss_one (ps_set (i := 3) nd rfl (Or.inl rfl) (pe_op op_mulB (pv 3) (pe_op op_fdivW (pv 4) (pe_call GD hr1 (by rfl) mD kD bD .nil pass0 (pa_cons (pv 3) (pa_cons (pv 4) pa_nil)))))))) pss_nil)))
      (pss_cons (ps_set (i := 5) nd rfl (Or.inl rfl) pe_dnewK)
      (pss_cons (ps_for PassesOwn.never rfl (pi_range1 (by rfl) Y.range (pa_cons (pe_callB call_len_seq (by rfl) Y.len PySem.boot_len (pa_cons (pe_fld (pv 0) rfl) pa_nil)) pa_nil)) (pg_name (i := 2) nd rfl (Or.inl rfl))
        (pss_one (ps_if (PW.pt (pw_and (pt_cmpR op_notN1 (pe_ix ix_list (pe_fld (pv 0) rfl) (pv 2) (fun _ _ => rfl)) pe_non (nomark _)) (pw_and1 (pt_cmpR op_gt1 (pe_ix ix_list (pe_ix ix_list (pe_fld (pv 0) rfl) (pv 2) (fun _ _ => rfl)) (pe_fld (pv 0) rfl) (fun _ _ => rfl)) pe_int (nomark _)))))
          (pss_cons (ps_set (i := 4) nd rfl (Or.inl rfl) (pe_ix ix_list (pe_ix ix_list (pe_fld (pv 0) rfl) (pv 2) (fun _ _ => rfl)) (pe_ix ix_list (pe_fld (pv 0) rfl) (pv 2) (fun _ _ => rfl)) (fun _ _ => rfl)))
          (pss_one (ps_dput hu (pv 5) (pe_ix ix_list (pe_fld (pv 0) rfl) (pv 2) (fun _ _ => rfl)) (pe_op op_mulB (pe_ix ix_list (pe_ix ix_list (pe_fld (pv 0) rfl) (pv 2) (fun _ _ => rfl)) (pe_fld (pv 0) rfl) (fun _ _ => rfl)) (pe_op op_fdivW (pv 3) (pv 4))) rfl))) pss_nil)))
      (pss_one (ps_ret (pv 5))))))))), ?_⟩
    -- fact = self.entering()
    have G : Gd n m T := ⟨h13, h64, A, a, b', L⟩
    refine q_setE (X.m0 (by decide +kernel) (by decide +kernel) (by decide +kernel) vn ⟨p, r, b, n, m, T, as, rfl, X, G, fun H0 s0 => ?_⟩)
    obtain ⟨k0, hk0⟩ := ends_all O hB h13 L
    refine ⟨fun k σ H' => ∃ (T' : TS) (as' : List Addr) (a1 : Nat → Nat → Rat) (b1 : Nat → Nat), TabAt C H' p n T' r b as' ∧ Lnk n m A (2 ^ (13 * 42)) T' a1 b1 ∧ EndsI n k T' ∧ (∀ c o, H c = some o → c ≠ r → c ≠ b → H' c = some o) ∧ σ = [some (.ref p), some (bV (enterI n T')), none, none, none, none],
      ⟨k0, T, as, a, b', X.same s0, L, hk0, fun c o h _ _ => s0 c o h, rfl⟩, ?_⟩
    rintro k σ H1 ⟨T1, as1, a1, b1, X1, L1, hE, hfr, rfl⟩
    have G1 : Gd n m T1 := ⟨h13, h64, A, a1, b1, L1⟩
    have h13' := h13
    cases hE with
    | @go _ s1 r1 k1 he hl hE' =>
      rw [he]
      refine ans_notN (b := true) vn rfl _ ?_
      refine iteT ⟨fun σ' H' => ∃ m', m' < k1 + 1 ∧ ∃ (T' : TS) (as' : List Addr) (a1 : Nat → Nat → Rat) (b1 : Nat → Nat), TabAt C H' p n T' r b as' ∧ Lnk n m A (2 ^ (13 * 42)) T' a1 b1 ∧ EndsI n m' T' ∧ (∀ c o, H c = some o → c ≠ r → c ≠ b → H' c = some o) ∧ σ' = [some (.ref p), some (bV (enterI n T')), none, none, none, none], fun σ' H' h => h, ?_⟩
      obtain ⟨r1', hr1', S⟩ := L1.stp he
      rw [hl] at hr1'
      cases hr1'
      obtain ⟨dx, hp⟩ := X1.ob
      have hno : ∀ (n : Int) (r b : Addr), (tf n r b).lookup ("turn" : Str) = none := fun n r b => tf_no _ _ _ (by decide +kernel) (by decide +kernel) (by decide +kernel)
      have hnl : ∀ (n : Int) (r b : Addr), (tf n r b).lookup ("leaving" : Str) = none := fun n r b => tf_no _ _ _ (by decide +kernel) (by decide +kernel) (by decide +kernel)
      refine ⟨_, rfl, p, dx, _, rfl, hp, hno _ _ _, _, rfl, p, dx, _, rfl, hp, hnl _ _ _, _, rfl, p, r, b, n, m, s1, T1, as1, rfl, X1, G1, S.hs, ?_⟩
      rw [hl]
      refine ⟨_, rfl, p, r, b, n, m, r1, s1, T1, as1, rfl, X1, G1, S.hl, S.hs, fun as2 H2 X2 hf2 => ?_⟩
      have L2' := L1.turn O hB h13 S
      refine (show tAsg _ _ _ _ _ from s_asgE (X2.m0 (by decide +kernel) (by decide +kernel) (by decide +kernel) vn ⟨p, r, b, n, m, turnI n T1 r1 s1, as2, rfl, X2, ⟨h13, h64, A, _, _, L2'⟩, fun H3 s3 => ?_⟩))
      exact ⟨k1, Nat.lt_succ_self _, _, as2, _, _, X2.same s3, L2', hE', fun c o hc h1 h2 => s3 _ _ (hf2 c o (hfr c o hc h1 h2) h1 h2), rfl⟩
    | stop he =>
      rw [he]
      refine ans_notN (b := false) vn rfl _ ?_
      refine iteF ?_
      show tSeq _ _ _ _ _
      obtain ⟨dx, hp⟩ := X1.ob
      have hnh : ∀ (n : Int) (r b : Addr), (tf n r b).lookup ("helpers" : Str) = none := fun n r b => tf_no _ _ _ (by decide +kernel) (by decide +kernel) (by decide +kernel)
      have hrl := G1.rl
      have hmem := mem_helpers G1
      refine ⟨_, rfl, p, dx, _, rfl, hp, hnh _ _ _, p, r, b, n, m, T1, as1, rfl, X1, G1, fun l H2 s2 nl hl => ?_⟩
      have X2 := X1.same s2
      refine ⟨l, rfl, ⟨_, SqL.of hl⟩, fun Dl nD => lcM_in (K := K) (helpersI T1) (fun k => V.int (k : Nat)) (fun k => V.bl (!decide (V.int (T1.at k n) = V.int 0))) hl (by have := helpers_len G1; omega) (by intro x; rfl)
        (fun q H' hq s' => val_op ((X2.same s').entV Y G1 (hmem q hq).1 (show n < n + 2 by omega) vn vn ((X2.same s').width Y vn)) val_c fun _ z => ⟨rfl, z⟩) nD ?_⟩
      have s3 : Same H1 (upd H2 Dl (.lst ((helpersI T1).map fun k => V.bl (!decide (V.int (T1.at k n) = V.int 0))))) := s2.trans (same_upd nD)
      have X3 := X1.same s3
      have hfr3 : ∀ c o, H c = some o → c ≠ r → c ≠ b → (upd H2 Dl (.lst ((helpersI T1).map fun k => V.bl (!decide (V.int (T1.at k n) = V.int 0))))) c = some o := fun c o hc h1 h2 => s3 _ _ (hfr c o hc h1 h2)
      refine ⟨Dl, (helpersI T1).map fun k => !decide (V.int (T1.at k n) = V.int 0), rfl, SqL.of (by rw [upd_same, List.map_map]; rfl), _, rfl, ?_⟩
      generalize upd H2 Dl (.lst ((helpersI T1).map fun k => V.bl (!decide (V.int (T1.at k n) = V.int 0)))) = H3 at s3 X3 hfr3 ⊢
      cases hany : (((helpersI T1).map fun k => !decide (V.int (T1.at k n) = V.int 0)).any id) with
      | true =>
        obtain ⟨q, hq, hz⟩ := (any_bools _ _).mp hany
        refine kN H3 (fun lam hlam sg hsg hsum => no_sum O L1 he (hmem q hq).1 (hmem q hq).2 (fun z => ?_) lam hlam sg hsg hsum) hfr3
        rw [z, decide_eq_true rfl] at hz
        cases hz
      | false =>
        have h0 : ∀ k, k < m → T1.bs k = none → T1.at k n = 0 := fun k hk hb => Classical.byContradiction fun z => by
          have h1 : ((helpersI T1).map fun k => !decide (V.int (T1.at k n) = V.int 0)).any id = true := (any_bools _ _).mpr ⟨k, by unfold helpersI; rw [hrl]; exact mem_helpersTo.mpr ⟨hk, hb⟩, by rw [decide_eq_false (fun y => z (V.int.inj y))]; rfl⟩
          rw [h1] at hany; cases hany
        refine iteF ?_
        show tSeq _ _ _ _ _
        refine q_set val_c ?_
        refine q_seq (e_forRows X3 Y G1 vn ?_)
        refine for_range0 (n := m) (fun i σ H' => H3 = H' ∧ ∃ v2 v4, σ = [some (.ref p), some .non, v2, some (.int (scaleTo T1 i)), v4, none]) ⟨rfl, none, none, rfl⟩ ?_ ?_
        · rintro i σ H' hi ⟨rfl, v2, v4, rfl⟩
          obtain ⟨c1, c2, c3⟩ := scale_spec L1 i (by omega)
          cases hb : T1.bs i with
          | none =>
            refine s_if (ans_notN (b := false) (X3.basV Y G1 hi vn vn) (by rw [hb]; rfl)) (iteF ⟨rfl, ?_⟩)
            have e : scaleTo T1 (i + 1) = scaleTo T1 i := by rw [scaleTo_succ]; unfold scaleStep; rw [hb]
            rw [e]
            exact ⟨_, _, rfl⟩
          | some j =>
            obtain ⟨o1, o2, o3, o4⟩ := L1.own hi hb
            have hbV : ∀ {σ : L2.St} {t0 t1 : TE}, Val t0 σ H3 (.ref p) → Val t1 σ H3 (.int (i : Int)) → Val (iIx K (tFld K t0 "basis") t1) σ H3 (.int (j : Int)) := fun h0 h1 => by
              have := X3.basV Y G1 hi h0 h1
              rw [hb] at this
              exact this
            obtain ⟨d1, d2, d3, d4, d5⟩ := scale_step c1 o3
            have f1 : Fit (13 * 546) (scaleTo T1 i) := Nat.le_trans c2 (Nat.pow_le_pow_right (by omega) (Nat.mul_le_mul (by omega) (Nat.le_refl _)))
            have f2 := G1.fit hi j
            have fg : Fit 546 ((Int.gcd (scaleTo T1 i) (T1.at i j) : Nat) : Int) := by
              have h1 : Int.gcd (scaleTo T1 i) (T1.at i j) ≤ (T1.at i j).natAbs := Nat.le_of_dvd (by omega) (Int.natAbs_dvd_natAbs.mpr (Int.gcd_dvd_right (scaleTo T1 i) (T1.at i j)))
              show ((Int.gcd _ _ : Nat) : Int).natAbs ≤ _
              rw [Int.natAbs_natCast]
              exact Nat.le_trans h1 f2
            refine s_if (ans_notN (b := true) (X3.basV Y G1 hi vn vn) (by rw [hb]; rfl)) (iteT ?_)
            refine q_set (X3.entV Y G1 hi (show j < n + 2 by omega) vn vn (hbV vn vn)) ?_
            refine s_set (val_I vn (val_I vn (val_div vn vn) (fit_div (by omega) fg (by omega))) (fit_mul f1 (show Fit 546 _ from Nat.le_trans d4 f2) (by omega))) ?_
            refine ⟨rfl, ?_⟩
            have e : scaleTo T1 (i + 1) = scaleTo T1 i * (T1.at i j / ((Int.gcd (scaleTo T1 i) (T1.at i j) : Nat) : Int)) := by rw [scaleTo_succ]; unfold scaleStep; rw [hb]
            rw [e]
            exact ⟨_, _, rfl⟩
        · rintro σ H' ⟨rfl, v2, v4, rfl⟩
          obtain ⟨c1, c2, c3⟩ := scale_spec L1 m (Nat.le_refl m)
          have f1 : Fit (13 * 546) (scaleTo T1 m) := Nat.le_trans c2 (Nat.pow_le_pow_right (by omega) (Nat.mul_le_mul h13 (Nat.le_refl _)))
          show tSeq (tAsg tDNewK (gName 5)) _ _ _ _
          refine q_setE ?_
          intro fd nfd
          have X4 : ∀ u, TabAt C (upd H3 fd u) p n T1 r b as1 := fun u => X3.same (same_upd nfd)
          refine q_seq (e_forRows (X4 _) Y G1 vn ?_)
          refine for_range0 (n := m) (fun i σ H' => H' = upd H3 fd (.dK (dK (foundTo n T1 (scaleTo T1 m) i))) ∧ ∃ v2 v4, σ = [some (.ref p), some .non, v2, some (.int (scaleTo T1 m)), v4, some (.ref fd)]) ⟨rfl, v2, v4, rfl⟩ ?_ ?_
          · rintro i σ H' hi ⟨rfl, v2, v4, rfl⟩
            have hstep := foundTo_succ n T1 (scaleTo T1 m) i
            cases hb : T1.bs i with
            | none =>
              refine s_if (b1 := false) (ans_and2 (b1 := false) (ans_notN (b := false) ((X4 _).basV Y G1 hi vn vn) (by rw [hb]; rfl)) (ans_gt ((X4 _).entV Y G1 hi (show n < n + 2 by omega) vn vn ((X4 _).width Y vn)) rfl)) (iteF ⟨?_, _, _, rfl⟩)
              rw [hstep]; unfold foundStep; rw [hb, List.append_nil]
            | some j =>
              obtain ⟨o1, o2, o3, o4⟩ := L1.own hi hb
              have hbV : ∀ {σ : L2.St} {t0 t1 : TE} {u : HO}, Val t0 σ (upd H3 fd u) (.ref p) → Val t1 σ (upd H3 fd u) (.int (i : Int)) → Val (iIx K (tFld K t0 "basis") t1) σ (upd H3 fd u) (.int (j : Int)) := fun h0 h1 => by
                have := (X4 _).basV Y G1 hi h0 h1
                rw [hb] at this
                exact this
              by_cases hpos : 0 < T1.at i n
              · refine s_if (b1 := true) (ans_and2 (b1 := true) (ans_notN (b := true) ((X4 _).basV Y G1 hi vn vn) (by rw [hb]; rfl)) (ans_gt ((X4 _).entV Y G1 hi (show n < n + 2 by omega) vn vn ((X4 _).width Y vn)) (decide_eq_true hpos))) (iteT ?_)
                refine q_set ((X4 _).entV Y G1 hi (show j < n + 2 by omega) vn vn (hbV vn vn)) ?_
                have f2 := G1.fit hi j
                have f3 : Fit (13 * 546) (scaleTo T1 m / T1.at i j) := Nat.le_trans (Int.natAbs_ediv_le_natAbs _ _) f1
                have hnew : foundStep n T1 (scaleTo T1 m) i = [(j, T1.at i n * (scaleTo T1 m / T1.at i j))] := by unfold foundStep; rw [hb]; show (if 0 < T1.at i n then _ else _) = _; rw [if_pos hpos]
                have hk := found_keys L1 (sc := scaleTo T1 m) (i + 1) (by omega)
                rw [hstep, hnew, List.map_append, List.nodup_append] at hk
                have hnone : valV (dK (foundTo n T1 (scaleTo T1 m) i)) (Sum.inl (j : Int)) = none := dK_none fun hm => hk.2.2 j hm j (by simp) rfl
                have hlenF : (dK (foundTo n T1 (scaleTo T1 m) i)).length ≤ 1000 := by
                  have h1 : (foundTo n T1 (scaleTo T1 m) i).length ≤ i := by
                    clear hstep hnone hk hnew f3 f2 hpos hbV o1 o2 o3 o4 hb
                    induction i with
                    | zero => simp [foundTo]
                    | succ i ih =>
                      rw [foundTo_succ, List.length_append]
                      have h2 : (foundStep n T1 (scaleTo T1 m) i).length ≤ 1 := by
                        unfold foundStep
                        split
                        · simp
                        · split <;> simp
                      have := ih (by omega)
                      omega
                  unfold dK
                  rw [List.length_map]; omega
                refine val_I ((X4 _).entV Y G1 hi (show n < n + 2 by omega) vn vn ((X4 _).width Y vn)) (val_I vn vn (fit_div o3 f2 (by omega))) (fit_mul (G1.fit hi n) f3 (by omega)) _ ?_
                refine e_val vn ?_
                refine e_val (hbV vn vn) ?_
                refine ⟨fd, _, rfl, DPut.k (k := Sum.inl (j : Int)) upd_same (small100 hlenF), ?_, _, _, rfl⟩
                rw [upd_upd, putK_new _ hnone, hstep, hnew]
                unfold dK
                rw [List.map_append]; rfl
              · refine s_if (b1 := false) (ans_and2 (b1 := true) (ans_notN (b := true) ((X4 _).basV Y G1 hi vn vn) (by rw [hb]; rfl)) (ans_gt ((X4 _).entV Y G1 hi (show n < n + 2 by omega) vn vn ((X4 _).width Y vn)) (decide_eq_false hpos))) (iteF ⟨?_, _, _, rfl⟩)
                rw [hstep]; unfold foundStep; rw [hb]; show _ = upd H3 fd (.dK (dK (_ ++ (if 0 < T1.at i n then _ else _)))); rw [if_neg hpos, List.append_nil]
          · rintro σ H' ⟨rfl, v2, v4, rfl⟩
            refine ⟨_, rfl, kF fd (foundTo n T1 (scaleTo T1 m) m) _ ⟨found_keys L1 m (Nat.le_refl m), fun q hq => ?_, scaleTo T1 m, c1, fun i hi => found_right O L1 h0 hi⟩ ?_ upd_same fun c o hc h1 h2 => ?_⟩
            · obtain ⟨k, hk, hb, hp1, hp2⟩ := mem_found hq
              obtain ⟨o1, o2, o3, o4⟩ := L1.own hk hb
              have hd := c3 k _ hk hb
              refine ⟨o1, ?_, ?_⟩
              · rw [hp2]
                refine Int.mul_pos hp1 ?_
                obtain ⟨z, hz⟩ := hd
                rw [hz, Int.mul_ediv_cancel_left z (by omega)]
                exact Int.lt_of_mul_lt_mul_left (a := T1.at k q.1) (by rw [Int.mul_zero, ← hz]; exact c1) (Int.le_of_lt o3)
              · rw [hp2]
                have f3 : Fit (13 * 546) (scaleTo T1 m / T1.at k q.1) := Nat.le_trans (Int.natAbs_ediv_le_natAbs _ _) f1
                show (T1.at k n * (scaleTo T1 m / T1.at k q.1)).natAbs ≤ _
                rw [Int.natAbs_mul]
                refine Nat.le_trans (Nat.mul_le_mul (G1.fit hk n) f3) ?_
                rw [← Nat.pow_add]
                exact Nat.pow_le_pow_right (by omega) (by omega)
            · cases q : H fd with
              | none => rfl
              | some o =>
                by_cases h1 : fd = r
                · have := X3.rows; rw [← h1, nfd] at this; cases this
                · by_cases h2 : fd = b
                  · have := X3.bas; rw [← h2, nfd] at this; cases this
                  · have := hfr3 _ _ q h1 h2; rw [nfd] at this; cases this
            · have h3 := hfr3 _ _ hc h1 h2
              rw [upd_ne (ne_of_none h3 nfd)]; exact h3
end
end K47
end
section
set_option Elab.async false
set_option maxRecDepth 100000
set_option maxHeartbeats 4000000
set_option autoImplicit false
/-! Nested data: tuples of whole numbers, texts and tuples; dicts keyed by them; their order. -/
namespace K47
open PySem L2 PySem.Spec PyProof.Rows

abbrev NK := NestedKey
mutual
/-- the value v is the nested datum k, all its tuples tracked -/
def KD (H : Hp) : NK → V → Prop
  | .none, v => v = .non
  | .num i, v => v = .int i
  | .text x, v => v = .str x
  | .tup ks, v => ∃ a vs, v = .ref a ∧ Rd H a (.tup vs) ∧ KDs H ks vs
def KDs (H : Hp) : List NK → List V → Prop
  | [], vs => vs = []
  | k :: ks, vs => ∃ x r, vs = x :: r ∧ KD H k x ∧ KDs H ks r
end
theorem KD.tup {H : Hp} {ks : List NK} {a : Addr} {vs : List V} (h : Rd H a (.tup vs)) (k : KDs H ks vs) : KD H (.tup ks) (.ref a) := by unfold KD; exact ⟨a, vs, rfl, h, k⟩
theorem KD.int {H : Hp} (i : Int) : KD H (.num i) (.int i) := by unfold KD; rfl
theorem KD.text {H : Hp} (x : Str) : KD H (.text x) (.str x) := by unfold KD; rfl
theorem KDs.nil {H : Hp} : KDs H [] [] := by unfold KDs; rfl
theorem KDs.cons {H : Hp} {k : NK} {ks : List NK} {x : V} {r : List V} (a : KD H k x) (b : KDs H ks r) : KDs H (k :: ks) (x :: r) := by unfold KDs; exact ⟨x, r, rfl, a, b⟩
theorem KD.tup_inv {H : Hp} {ks : List NK} {v : V} (h : KD H (.tup ks) v) : ∃ a vs, v = .ref a ∧ Rd H a (.tup vs) ∧ KDs H ks vs := by unfold KD at h; exact h
theorem KD.int_inv {H : Hp} {i : Int} {v : V} (h : KD H (.num i) v) : v = .int i := by unfold KD at h; exact h
theorem KD.text_inv {H : Hp} {i : Str} {v : V} (h : KD H (.text i) v) : v = .str i := by unfold KD at h; exact h
theorem KDs.cons_inv {H : Hp} {k : NK} {ks : List NK} {vs : List V} (h : KDs H (k :: ks) vs) : ∃ x r, vs = x :: r ∧ KD H k x ∧ KDs H ks r := by unfold KDs at h; exact h
theorem KDs.nil_inv {H : Hp} {vs : List V} (h : KDs H [] vs) : vs = [] := by unfold KDs at h; exact h
theorem KDs.len {H : Hp} : ∀ {ks : List NK} {vs : List V}, KDs H ks vs → vs.length = ks.length
  | [], _, h => by rw [h.nil_inv]; rfl
  | _ :: ks, _, h => by obtain ⟨x, r, rfl, _, h⟩ := h.cons_inv; rw [List.length_cons, List.length_cons, KDs.len h]
theorem KDs.at {H : Hp} : ∀ {ks : List NK} {vs : List V}, KDs H ks vs → ∀ i : Nat, ∀ k, ks[i]? = some k → ∃ v, vs[i]? = some v ∧ KD H k v
  | [], _, _, i, k, e => by simp at e
  | k0 :: ks, _, h, 0, k, e => by obtain ⟨x, r, rfl, h1, h⟩ := h.cons_inv; cases e; exact ⟨x, rfl, h1⟩
  | k0 :: ks, _, h, i + 1, k, e => by obtain ⟨x, r, rfl, h1, h⟩ := h.cons_inv; exact KDs.at h i k (by simpa using e)
theorem KDs.of {H : Hp} {α : Type} (f : α → NK) (g : α → V) : ∀ {xs : List α}, (∀ x ∈ xs, KD H (f x) (g x)) → KDs H (xs.map f) (xs.map g)
  | [], _ => .nil
  | x :: xs, h => .cons (h x List.mem_cons_self) (KDs.of f g fun y hy => h y (List.mem_cons_of_mem _ hy))
/-- the tuples stay -/
def Tst (H H' : Hp) : Prop := ∀ b xs, Rd H b (.tup xs) → Rd H' b (.tup xs)
theorem Tst.refl {H : Hp} : Tst H H := fun _ _ h => h
theorem Tst.trans {H H1 H2 : Hp} (a : Tst H H1) (b : Tst H1 H2) : Tst H H2 := fun c xs h => b c xs (a c xs h)
theorem Same.rd {H H' : Hp} (h : Same H H') {b : Addr} {u : HO} (e : Rd H b u) : Rd H' b u := e.elim (fun z => .inl (h b _ z)) fun ⟨o, z⟩ => .inr ⟨o, h b _ z⟩
theorem Tst.of {H H' : Hp} (h : Same H H') : Tst H H' := fun _ _ e => Same.rd h e
theorem rd_inj {H : Hp} {a : Addr} {xs ys : List V} (h : Rd H a (.tup xs)) (h' : Rd H a (.tup ys)) : xs = ys := by
  rcases h with h | ⟨o, h⟩ <;> rcases h' with h' | ⟨o', h'⟩ <;> rw [h] at h' <;> cases h' <;> rfl
theorem Tst.upd {H : Hp} {a : Addr} {o : HO} (h : ∀ xs, ¬ Rd H a (.tup xs)) : Tst H (L2.upd H a o) := fun b xs e => by
  have hb : b ≠ a := fun z => h xs (by rw [← z]; exact e)
  rcases e with e | ⟨u, e⟩
  · exact .inl (by rw [upd_ne hb]; exact e)
  · exact .inr ⟨u, by rw [upd_ne hb]; exact e⟩
mutual
theorem KD.stay {H H' : Hp} (t : Tst H H') : ∀ (k : NK) (v : V), KD H k v → KD H' k v
  | .none, _, h => by unfold KD at h ⊢; exact h
  | .num i, _, h => by unfold KD at h ⊢; exact h
  | .text x, _, h => by unfold KD at h ⊢; exact h
  | .tup ks, _, h => by obtain ⟨a, vs, rfl, ha, h⟩ := h.tup_inv; exact .tup (t _ _ ha) (KDs.stay t ks vs h)
theorem KDs.stay {H H' : Hp} (t : Tst H H') : ∀ (ks : List NK) (vs : List V), KDs H ks vs → KDs H' ks vs
  | [], _, h => by unfold KDs at h ⊢; exact h
  | k :: ks, _, h => by obtain ⟨x, r, rfl, h1, h2⟩ := h.cons_inv; exact .cons (KD.stay t k x h1) (KDs.stay t ks r h2)
end
mutual
/-- the value u in the heap h is the datum k; no truth value stands for a number -/
inductive NP (h : Heap) : NK → Value → Prop
  | none : NP h .none .none
  | int (i t) : NP h (.num i) (.int i t)
  | text (x t) : NP h (.text x) (.str x t)
  | tup {a o vs n ks} : h.get? a = some o → o.cls = .type "tuple" → o.data = .seq vs n → NPs h ks vs.toList → NP h (.tup ks) (.ref a)
inductive NPs (h : Heap) : List NK → List Value → Prop
  | nil : NPs h [] []
  | cons {k u ks us} : NP h k u → NPs h ks us → NPs h (k :: ks) (u :: us)
end
mutual
theorem NP.is {h : Heap} : ∀ (k : NK) (u : Value), NP h k u → NestedIs h k u
  | .none, _, x => by cases x; exact .none
  | .num i, _, x => by cases x; exact .int _ _
  | .text i, _, x => by cases x; exact .text _ _
  | .tup ks, _, x => by
    cases x with
    | tup h1 h2 h3 h4 => exact .tup h1 h2 h3 (NPs.is ks _ h4)
theorem NPs.is {h : Heap} : ∀ (ks : List NK) (us : List Value), NPs h ks us → NestedAll h ks us
  | [], _, x => by cases x; exact .nil
  | k :: ks, _, x => by
    cases x with
    | cons h1 h2 => exact .cons (NP.is k _ h1) (NPs.is ks _ h2)
end
mutual
theorem NP.keep {h h' : Heap} (kp : ∀ b o, h.get? b = some o → o.cls = .type "tuple" → h'.get? b = some o) : ∀ (k : NK) (u : Value), NP h k u → NP h' k u
  | .none, _, x => by cases x; exact .none
  | .num i, _, x => by cases x; exact .int _ _
  | .text i, _, x => by cases x; exact .text _ _
  | .tup ks, _, x => by
    cases x with
    | tup h1 h2 h3 h4 => exact .tup (kp _ _ h1 h2) h2 h3 (NPs.keep kp ks _ h4)
theorem NPs.keep {h h' : Heap} (kp : ∀ b o, h.get? b = some o → o.cls = .type "tuple" → h'.get? b = some o) : ∀ (ks : List NK) (us : List Value), NPs h ks us → NPs h' ks us
  | [], _, x => by cases x; exact .nil
  | k :: ks, _, x => by
    cases x with
    | cons h1 h2 => exact .cons (NP.keep kp k _ h1) (NPs.keep kp ks _ h2)
end
mutual
theorem KD.np {P : Program} {w : World} {H : Hp} {h : Heap} (ok : HOk P w H h) : ∀ (k : NK) (v : V) (u : Value), KD H k v → RelV v u → NP h k u
  | .none, _, _, q, r => by unfold KD at q; subst q; cases r; exact .none
  | .num i, _, _, q, r => by unfold KD at q; subst q; obtain ⟨t, rfl⟩ := r; exact .int _ _
  | .text x, _, _, q, r => by unfold KD at q; subst q; obtain ⟨t, rfl⟩ := r; exact .text _ _
  | .tup ks, _, _, q, r => by
    obtain ⟨a, vs, rfl, ha, q⟩ := q.tup_inv
    cases r
    obtain ⟨_, its, rv, o, ho, hc, n, hd⟩ := ha.ok ok
    exact .tup ho hc hd (KDs.np ok ks vs its q rv)
theorem KDs.np {P : Program} {w : World} {H : Hp} {h : Heap} (ok : HOk P w H h) : ∀ (ks : List NK) (vs : List V) (us : List Value), KDs H ks vs → Vals vs us → NPs h ks us
  | [], _, _, q, r => by rw [q.nil_inv] at r; cases r; exact .nil
  | k :: ks, _, _, q, r => by
    obtain ⟨x, rr, rfl, h1, h2⟩ := q.cons_inv
    cases r with
    | cons r1 r2 => exact .cons (KD.np ok k x _ h1 r1) (KDs.np ok ks rr _ h2 r2)
end
mutual
theorem KD.inj {H : Hp} : ∀ (a b : NK) (v : V), KD H a v → KD H b v → a = b
  | .none, b, v, h, h' => by
    unfold KD at h; subst h
    cases b with
    | none => rfl
    | num _ => unfold KD at h'; cases h'
    | text _ => unfold KD at h'; cases h'
    | tup _ => obtain ⟨_, _, e, _⟩ := h'.tup_inv; cases e
  | .num i, b, v, h, h' => by
    unfold KD at h; subst h
    cases b with
    | none => unfold KD at h'; cases h'
    | num _ => unfold KD at h'; cases h'; rfl
    | text _ => unfold KD at h'; cases h'
    | tup _ => obtain ⟨_, _, e, _⟩ := h'.tup_inv; cases e
  | .text i, b, v, h, h' => by
    unfold KD at h; subst h
    cases b with
    | none => unfold KD at h'; cases h'
    | text _ => unfold KD at h'; cases h'; rfl
    | num _ => unfold KD at h'; cases h'
    | tup _ => obtain ⟨_, _, e, _⟩ := h'.tup_inv; cases e
  | .tup ks, b, v, h, h' => by
    obtain ⟨a, vs, rfl, ha, h⟩ := h.tup_inv
    cases b with
    | none => unfold KD at h'; cases h'
    | text _ => unfold KD at h'; cases h'
    | num _ => unfold KD at h'; cases h'
    | tup ls =>
      obtain ⟨a', vs', e, ha', h'⟩ := h'.tup_inv
      cases e
      cases rd_inj ha ha'
      rw [KDs.inj ks ls vs h h']
theorem KDs.inj {H : Hp} : ∀ (as bs : List NK) (vs : List V), KDs H as vs → KDs H bs vs → as = bs
  | [], [], _, _, _ => rfl
  | [], b :: bs, vs, h, h' => by rw [h.nil_inv] at h'; obtain ⟨_, _, e, _⟩ := h'.cons_inv; cases e
  | a :: as, [], vs, h, h' => by rw [h'.nil_inv] at h; obtain ⟨_, _, e, _⟩ := h.cons_inv; cases e
  | a :: as, b :: bs, vs, h, h' => by
    obtain ⟨x, r, rfl, h1, h2⟩ := h.cons_inv
    obtain ⟨_, _, e, k1, k2⟩ := h'.cons_inv
    cases e
    rw [KD.inj a b x h1 k1, KDs.inj as bs r h2 k2]
end
mutual
/-- as data -/
theorem KD.dp {K : PySem.W.Frag} {H : Hp} : ∀ (k : NK) (v : V), KD H k v → Dp K H v k.data
  | .none, _, q => by unfold KD at q; subst q; exact .non
  | .num i, _, q => by unfold KD at q; subst q; exact .int i
  | .text x, _, q => by unfold KD at q; subst q; exact .str x
  | .tup ks, _, q => by obtain ⟨a, vs, rfl, ha, q⟩ := q.tup_inv; exact .tup (.inl ha) (KDs.dp ks vs q)
theorem KDs.dp {K : PySem.W.Frag} {H : Hp} : ∀ (ks : List NK) (vs : List V), KDs H ks vs → DpAll K H vs (NestedKey.datas ks)
  | [], _, q => by rw [q.nil_inv]; exact .nil
  | k :: ks, _, q => by obtain ⟨x, r, rfl, h1, h2⟩ := q.cons_inv; exact .cons (KD.dp k x h1) (KDs.dp ks r h2)
end
mutual
theorem eqv_data : ∀ a b : NK, PyData.eqv a.data b.data = NestedKey.beq a b
  | .none, .none => by simp [NestedKey.data, NestedKey.beq, PyData.eqv]
  | .num a, .num b => by simp only [NestedKey.data, NestedKey.beq, PyData.eqv]; first | rfl | exact Bool.beq_eq_decide_eq .. | simp
  | .text a, .text b => by simp only [NestedKey.data, NestedKey.beq, PyData.eqv]; first | rfl | simp
  | .tup a, .tup b => by
    have := eqv_datas a b
    simp only [NestedKey.data, NestedKey.beq, PyData.eqv]; exact this
  | .none, .num _ => by simp [NestedKey.data, NestedKey.beq, PyData.eqv]
  | .none, .text _ => by simp [NestedKey.data, NestedKey.beq, PyData.eqv]
  | .none, .tup _ => by simp [NestedKey.data, NestedKey.beq, PyData.eqv]
  | .num _, .none => by simp [NestedKey.data, NestedKey.beq, PyData.eqv]
  | .num _, .text _ => by simp [NestedKey.data, NestedKey.beq, PyData.eqv]
  | .num _, .tup _ => by simp [NestedKey.data, NestedKey.beq, PyData.eqv]
  | .text _, .none => by simp [NestedKey.data, NestedKey.beq, PyData.eqv]
  | .text _, .num _ => by simp [NestedKey.data, NestedKey.beq, PyData.eqv]
  | .text _, .tup _ => by simp [NestedKey.data, NestedKey.beq, PyData.eqv]
  | .tup _, .none => by simp [NestedKey.data, NestedKey.beq, PyData.eqv]
  | .tup _, .num _ => by simp [NestedKey.data, NestedKey.beq, PyData.eqv]
  | .tup _, .text _ => by simp [NestedKey.data, NestedKey.beq, PyData.eqv]
theorem eqv_datas : ∀ as bs : List NK, PyData.eqvAll (NestedKey.datas as) (NestedKey.datas bs) = NestedKey.beqAll as bs
  | [], [] => by simp [NestedKey.datas, NestedKey.beqAll, PyData.eqvAll]
  | [], _ :: _ => by simp [NestedKey.datas, NestedKey.beqAll, PyData.eqvAll]
  | _ :: _, [] => by simp [NestedKey.datas, NestedKey.beqAll, PyData.eqvAll]
  | a :: as, b :: bs => by
    have h1 := eqv_data a b
    have h2 := eqv_datas as bs
    simp only [NestedKey.datas, NestedKey.beqAll, PyData.eqvAll, h1, h2]
end
mutual
theorem depth_data : ∀ a : NK, a.data.depth = a.depth
  | .none => by simp [NestedKey.data, NestedKey.depth, PyData.depth]
  | .num a => by simp [NestedKey.data, NestedKey.depth, PyData.depth]
  | .text a => by simp [NestedKey.data, NestedKey.depth, PyData.depth]
  | .tup a => by have := depth_datas a; simp only [NestedKey.data, NestedKey.depth, PyData.depth, this]
theorem depth_datas : ∀ as : List NK, PyData.depthAll (NestedKey.datas as) = NestedKey.depthAll as
  | [] => by simp [NestedKey.datas, NestedKey.depthAll, PyData.depthAll]
  | a :: as => by
    have h1 := depth_data a
    have h2 := depth_datas as
    simp only [NestedKey.datas, NestedKey.depthAll, PyData.depthAll, h1, h2]
end
mutual
/-- its texts are fit -/
def tOk : NK → Bool
  | .text x => PyData.strOk x
  | .tup ks => tOks ks
  | .none => true
  | .num _ => true
def tOks : List NK → Bool
  | [] => true
  | k :: ks => tOk k && tOks ks
end
mutual
theorem lay_data : ∀ a : NK, tOk a = true → a.data.canLay0 = true
  | .none, _ => by simp [NestedKey.data, PyData.canLay0]
  | .num a, _ => by simp [NestedKey.data, PyData.canLay0]
  | .text a, h => by simp only [tOk] at h; simp only [NestedKey.data, PyData.canLay0, h]
  | .tup a, h => by simp only [tOk] at h; have := lay_datas a h; simp only [NestedKey.data, PyData.canLay0, this]
theorem lay_datas : ∀ as : List NK, tOks as = true → PyData.canLayAll0 (NestedKey.datas as) = true
  | [], _ => by simp [NestedKey.datas, PyData.canLayAll0]
  | a :: as, h => by
    simp only [tOks, Bool.and_eq_true] at h
    have h1 := lay_data a h.1
    have h2 := lay_datas as h.2
    simp only [NestedKey.datas, PyData.canLayAll0, h1, h2]; rfl
end
theorem shaped_data {a : NK} (h : a.depth ≤ 60) (t : tOk a = true) : SeqAt.shaped a.data = true := by
  show (a.data.canLay0 && decide (a.data.depth ≤ 64)) = true
  rw [lay_data a t, depth_data, Bool.true_and]
  exact decide_eq_true (by omega)
theorem shaped_datas {as : List NK} (h : NestedKey.depthAll as ≤ 60) (t : tOks as = true) : SeqAt.shaped (.list (NestedKey.datas as)) = true := by
  show (PyData.canLay0 (.list (NestedKey.datas as)) && decide ((PyData.list (NestedKey.datas as)).depth ≤ 64)) = true
  simp only [PyData.canLay0, PyData.depth, depth_datas, lay_datas as t, Bool.true_and]
  exact decide_eq_true (by omega)
theorem depthAll_le {n : Nat} : ∀ as : List NK, (∀ a ∈ as, a.depth ≤ n) → NestedKey.depthAll as ≤ n
  | [], _ => Nat.zero_le _
  | a :: as, h => by
    have h1 := h a List.mem_cons_self
    have h2 := depthAll_le as fun b hb => h b (List.mem_cons_of_mem _ hb)
    simp only [NestedKey.depthAll]; omega
theorem tOks_of : ∀ as : List NK, (∀ a ∈ as, tOk a = true) → tOks as = true
  | [], _ => rfl
  | a :: as, h => by
    have h1 := h a List.mem_cons_self
    have h2 := tOks_of as fun b hb => h b (List.mem_cons_of_mem _ hb)
    simp only [tOks, h1, h2]; rfl
end K47
end
section
set_option Elab.async false
set_option maxRecDepth 100000
set_option maxHeartbeats 4000000
set_option autoImplicit false
/-! The order of nested data, where the first difference can be compared. -/
namespace PySem.SeqAt
open AutoSeq1 (wpAny_loadPart')
open MeetsSeq MeetsSeq2 MeetsSeq3 SeqRoads2
/-- tuple < tuple: only the first places that differ need an order -/
theorem k47_tupLt (p q : Addr) (us vs : Array Value) (n n2 : Nat) (dd dd2 : Option Addr) (sl sl2 : Array (Option Value)) (e r : Nat → Bool) :
    Meets (Builtin.«tuple.__lt__» ⟨[.ref p, .ref q], []⟩)
      (fun A R s => s.heap.get? p = some { cls := .type "tuple", dict := dd, data := .seq us n, slots := sl } ∧ s.heap.get? q = some { cls := .type "tuple", dict := dd2, data := .seq vs n2, slots := sl2 } ∧
        (∀ j (h1 : j < us.size) (h2 : j < vs.size), EqAt A.in1 s us[j] vs[j] (e j)) ∧ (∀ j (h1 : j < us.size) (h2 : j < vs.size), (∀ m, m < j → e m = true) → e j = false → RcLt A.in1 s us[j] vs[j] (r j)) ∧
        R (.ok (.ret (.bool (firstLt e r (decide (us.size < vs.size)) (List.range (min us.size vs.size)))))) s) :=
  .of_wp fun prog w A R s h => by
    obtain ⟨hp, g, d, tk, os⟩ := s; obtain ⟨hl, hb, he, hr, h⟩ := h
    have f2 := AutoSeq1.sub_tuple_tuple
    have hZ : (us.toList.zip vs.toList).length = min us.size vs.size := by simp
    wp_walk using wpAny_loadPart' hl, wpAny_loadPart' hb, wpAny_forIn_list _ (fun rest b s' => b.1 = none ∧ s' = ⟨hp, g, d, tk, os⟩ ∧ ∃ i, (∀ m, m < i → e m = true) ∧ rest = (us.toList.zip vs.toList).drop i ∧
      R (.ok (.ret (.bool (firstLt e r (decide (us.size < vs.size)) ((List.range (min us.size vs.size)).drop i))))) ⟨hp, g, d, tk, os⟩) _
    case turn =>
      rintro ⟨y, x⟩ rest b s' ⟨hb', rfl, i, hm0, hz, hR⟩
      have hlt : i < (us.toList.zip vs.toList).length := by
        rcases Nat.lt_or_ge i (us.toList.zip vs.toList).length with h' | h'
        · exact h'
        · rw [List.drop_of_length_le h'] at hz; cases hz
      have hm : i < min us.size vs.size := hZ ▸ hlt
      have h1 : i < us.size := by omega
      have h2 : i < vs.size := by omega
      rw [List.drop_eq_getElem_cons hlt] at hz
      injection hz with hyx hrest
      have hy : y = us[i] := by have z := congrArg Prod.fst hyx; simpa using z
      have hx : x = vs[i] := by have z := congrArg Prod.snd hyx; simpa using z
      subst hy hx
      have hd : (List.range (min us.size vs.size)).drop i = i :: (List.range (min us.size vs.size)).drop (i + 1) := by simp [List.drop_eq_getElem_cons, hm]
      rw [hd] at hR
      refine wpAny_bind (he i h1 h2 prog w _ _ ?_)
      cases hy : e i with
      | true =>
        rw [firstLt_yes hy] at hR
        wp_walk
        exact ⟨rfl, rfl, i + 1, fun m hmi => (Nat.lt_succ_iff_lt_or_eq.mp hmi).elim (hm0 m) fun z => by rw [z]; exact hy, hrest, hR⟩
      | false =>
        rw [firstLt_no hy] at hR
        have hc : ∀ (E : Value → Shared → Prop) (Q : Value → Shared → Prop), Q (.bool (r i)) ⟨hp, g, d, tk, os⟩ → wpAny (model prog w) A.in1 (richCompare .Lt us[i] vs[i]) Q E ⟨hp, g, d, tk, os⟩ := fun E Q q => hr i h1 h2 hm0 hy prog w E Q q
        wp_walk using hc
        exact ⟨_, rfl, hR⟩
    case fin =>
      rintro ⟨b1, b2⟩ s' ⟨hb', rfl, i, _, hz, hR⟩
      simp only at hb'
      subst hb'
      have hge : min us.size vs.size ≤ i := by
        rcases Nat.lt_or_ge i (us.toList.zip vs.toList).length with h' | h'
        · rw [List.drop_eq_getElem_cons h'] at hz; cases hz
        · exact hZ ▸ h'
      rw [List.drop_of_length_le (by simpa using hge)] at hR
      wp_walk
      exact ⟨_, rfl, by simpa [Builtin.Tuple.tupleCompareSizes, firstLt] using hR⟩
    case h =>
      exact ⟨rfl, rfl, 0, (fun m hm => absurd hm (Nat.not_lt_zero m)), rfl, by simpa using h⟩
theorem k47_rcTup {A : Around} {s : Shared} {p q : Addr} {us vs : Array Value} {e r : Nat → Bool} (hl : s.heap.IsTuple p us) (hb : s.heap.IsTuple q vs) (hu : A.units < cLine)
    (he : ∀ j (h1 : j < us.size) (h2 : j < vs.size), EqAt A.in1 s us[j] vs[j] (e j)) (hr : ∀ j (h1 : j < us.size) (h2 : j < vs.size), (∀ m, m < j → e m = true) → e j = false → RcLt A.in1 s us[j] vs[j] (r j)) :
    RcLt A s (.ref p) (.ref q) (firstLt e r (decide (us.size < vs.size)) (List.range (min us.size vs.size))) := fun prog w E Q h => by
  obtain ⟨⟨c1, dd, da, sl⟩, ho, hc, n, hd⟩ := id hl
  obtain ⟨⟨c2, dd2, da2, sl2⟩, ho2, hc2, n2, hd2⟩ := id hb
  simp only at hc hd hc2 hd2
  subst hc hd hc2 hd2
  exact richCompare_meets_room (op := .Lt) ⟨_, ho, rfl⟩ ⟨_, ho2, rfl⟩ F.slot_tuple_lt F.entry_tuple_lt (F.args_tuple_lt_2 _ _) (k47_tupLt p q us vs n n2 dd dd2 sl sl2 e r)
    ⟨ho, ho2, he, hr, ⟨(fun x => nomatch x), h⟩⟩ hu
end PySem.SeqAt
namespace K47
open PySem L2 PySem.Spec PyProof.Rows
mutual
/-- a < b can be asked where a is not b -/
def cmpOk : NK → NK → Bool
  | .num _, .num _ => true
  | .text _, .text _ => true
  | .tup xs, .tup ys => cmpOks xs ys
  | .none, _ => false
  | .num _, .none | .num _, .text _ | .num _, .tup _ => false
  | .text _, .none | .text _, .num _ | .text _, .tup _ => false
  | .tup _, .none | .tup _, .num _ | .tup _, .text _ => false
def cmpOks : List NK → List NK → Bool
  | x :: xs, y :: ys => if NestedKey.beq x y then cmpOks xs ys else cmpOk x y
  | [], _ => true
  | _ :: _, [] => true
end
section
variable {A : Around} {s : Shared}
open SeqAt
theorem rc_int (i j : Int) (t u : Tok) : RcLt A s (.int i t) (.int j u) (decide (i < j)) := fun prog w E Q h => by
  exact (show wpAny (model prog w) A (richCompare .Lt (.int i t) (.int j u)) Q E s from P.lt_int h)
theorem rc_str (i j : Str) (t u : Tok) : RcLt A s (.str i t) (.str j u) (decide (i.cps.toList < j.cps.toList)) := fun prog w E Q h => by
  exact (show wpAny (model prog w) A (richCompare .Lt (.str i t) (.str j u)) Q E s from P.lt_str h)
theorem NPs.len {h : Heap} {ks : List NK} {us : List Value} (x : NPs h ks us) : us.length = ks.length := (NPs.is ks us x).length
mutual
theorem rc_key : ∀ (x y : NK) (A : Around) (s : Shared) (a b : Value), NP s.heap x a → NP s.heap y b → cmpOk x y = true → A.units + min x.depth y.depth < cLine → ∃ k, RcLt A s a b k
  | .num i, .num j, A, s, _, _, ra, rb, _, _ => by
    cases ra with
    | int _ t => cases rb with
      | int _ u => exact ⟨_, rc_int i j t u⟩
  | .text i, .text j, A, s, _, _, ra, rb, _, _ => by
    cases ra with
    | text _ t => cases rb with
      | text _ u => exact ⟨_, rc_str i j t u⟩
  | .tup xs, .tup ys, A, s, _, _, ra, rb, h, hu => by
    cases ra with
    | @tup l o vs n _ h1 h2 h3 h4 =>
      cases rb with
      | @tup l' o' vs' n' _ k1 k2 k3 k4 =>
        have hl : s.heap.IsTuple l vs := ⟨_, h1, h2, _, h3⟩
        have hl' : s.heap.IsTuple l' vs' := ⟨_, k1, k2, _, k3⟩
        have he : ∀ j (q1 : j < vs.size) (q2 : j < vs'.size), EqAt A.in1 s vs[j] vs'[j] (keyEqAt xs ys j) := fun j q1 q2 => by
          have z := eqAt_keys xs ys A.in1 s vs.toList vs'.toList (NPs.is _ _ h4) (NPs.is _ _ k4) (room_in hu) j (by simpa using q1) (by simpa using q2)
          simpa using z
        have hr := rc_keys xs ys A.in1 s vs.toList vs'.toList h4 k4 (by simpa only [cmpOk] using h) (room_in hu)
        have hr' : ∀ j (q1 : j < vs.size) (q2 : j < vs'.size), (∀ m, m < j → keyEqAt xs ys m = true) → keyEqAt xs ys j = false → ∃ k, RcLt A.in1 s vs[j] vs'[j] k := fun j q1 q2 c1 c2 => by
          have z := hr j (by simpa using q1) (by simpa using q2) c1 c2
          simpa using z
        refine ⟨_, k47_rcTup (e := keyEqAt xs ys) (r := fun j => if q1 : j < vs.size then (if q2 : j < vs'.size then (if c1 : ∀ m, m < j → keyEqAt xs ys m = true then (if c2 : keyEqAt xs ys j = false then Classical.choose (hr' j q1 q2 c1 c2) else false) else false) else false) else false) hl hl' (room_here hu) he fun j q1 q2 c1 c2 => ?_⟩
        rw [dif_pos q1, dif_pos q2, dif_pos c1, dif_pos c2]
        exact Classical.choose_spec (hr' j q1 q2 c1 c2)
  | .none, _, _, _, _, _, _, _, h, _ => by simp [cmpOk] at h
  | .num _, .none, _, _, _, _, _, _, h, _ | .num _, .text _, _, _, _, _, _, _, h, _ | .num _, .tup _, _, _, _, _, _, _, h, _ => by simp [cmpOk] at h
  | .text _, .none, _, _, _, _, _, _, h, _ | .text _, .num _, _, _, _, _, _, _, h, _ | .text _, .tup _, _, _, _, _, _, _, h, _ => by simp [cmpOk] at h
  | .tup _, .none, _, _, _, _, _, _, h, _ | .tup _, .num _, _, _, _, _, _, _, h, _ | .tup _, .text _, _, _, _, _, _, _, h, _ => by simp [cmpOk] at h
theorem rc_keys : ∀ (xs ys : List NK) (A : Around) (s : Shared) (vs ws : List Value), NPs s.heap xs vs → NPs s.heap ys ws → cmpOks xs ys = true →
    A.units + min (NestedKey.depthAll xs) (NestedKey.depthAll ys) < cLine → ∀ j (h1 : j < vs.length) (h2 : j < ws.length), (∀ m, m < j → keyEqAt xs ys m = true) → keyEqAt xs ys j = false → ∃ k, RcLt A s vs[j] ws[j] k
  | [], _, _, _, _, _, ra, _, _, _, j, h1, _, _, _ => by cases ra; exact absurd h1 (Nat.not_lt_zero _)
  | _ :: _, [], _, _, _, _, _, rb, _, _, j, _, h2, _, _ => by cases rb; exact absurd h2 (Nat.not_lt_zero _)
  | x :: xs, y :: ys, A, s, _, _, ra, rb, h, hu, j, h1, h2, c1, c2 => by
    cases ra with
    | cons r rs =>
      cases rb with
      | cons r' rs' =>
        cases j with
        | zero =>
          have c2' : NestedKey.beq x y = false := c2
          simp only [cmpOks, c2', Bool.false_eq_true, if_false] at h
          exact rc_key x y A s _ _ r r' h (room_head hu)
        | succ j =>
          have c0 : NestedKey.beq x y = true := c1 0 (Nat.succ_pos j)
          simp only [cmpOks, c0, if_true] at h
          exact rc_keys xs ys A s _ _ rs rs' h (room_tail hu) j (Nat.lt_of_succ_lt_succ h1) (Nat.lt_of_succ_lt_succ h2) (fun m hm => c1 (m + 1) (Nat.succ_lt_succ hm)) c2
end
end
section
variable {prog : Program} {w : World} {A : Around} {E : Value → Shared → Prop} {s : Shared}
def isText : NK → Bool
  | .text _ => true
  | _ => false
/-- the sort's own comparison of two tuples' items -/
theorem lex_keys {b fin : Bool} : ∀ (xs ys : List NK) (vs ws : List Value) (i : Nat), NPs s.heap xs vs → NPs s.heap ys ws → cmpOks xs ys = true → A.units + min (NestedKey.depthAll xs) (NestedKey.depthAll ys) < cLine →
    (b = true → i = 0 → ∀ x ∈ xs.head?, isText x = true) → (b = true → i = 0 → ∀ y ∈ ys.head?, isText y = true) → ∃ k, PySem.W.KatLex prog w A b fin (fun r s' => s' = s ∧ r = k) (vs.zip ws) i s
  | [], _, _, _, i, ra, _, _, _, _, _ => by cases ra; exact ⟨fin, PySem.W.kat_nil ⟨rfl, rfl⟩⟩
  | _ :: _, [], _, _, i, ra, rb, _, _, _, _ => by cases ra; cases rb; exact ⟨fin, PySem.W.kat_nil ⟨rfl, rfl⟩⟩
  | x :: xs, y :: ys, _, _, i, ra, rb, h, hu, ha, hb => by
    cases ra with
    | @cons _ p _ vs r rs =>
      cases rb with
      | @cons _ q _ ws r' rs' =>
        have he := eqAt_key x y A s p q (NP.is _ _ r) (NP.is _ _ r') (SeqAt.room_head hu)
        cases e : NestedKey.beq x y with
        | true =>
          rw [e] at he
          simp only [cmpOks, e, if_true] at h
          obtain ⟨k, hk⟩ := lex_keys xs ys vs ws (i + 1) rs rs' h (SeqAt.room_tail hu) (fun _ z => absurd z (Nat.succ_ne_zero i)) fun _ z => absurd z (Nat.succ_ne_zero i)
          exact ⟨k, PySem.W.kat_cons (he prog w _ _ (PySem.W.kat_yes hk))⟩
        | false =>
          rw [e] at he
          simp only [cmpOks, e, Bool.false_eq_true, if_false] at h
          cases hf : (b && i == 0) with
          | true =>
            rw [Bool.and_eq_true] at hf
            have hi : i = 0 := by simpa using hf.2
            have tx := ha hf.1 hi x rfl
            have ty := hb hf.1 hi y rfl
            cases x <;> first | (cases tx; done) | skip
            cases y <;> first | (cases ty; done) | skip
            rename_i x y
            cases r with
            | text _ t => cases r' with
              | text _ u =>
                refine ⟨decide (x.cps.toList < y.cps.toList), PySem.W.kat_cons (he prog w _ _ (PySem.W.kat_no ?_))⟩
                rw [hf.1, hi]
                exact oneLt_str ⟨rfl, rfl⟩
          | false =>
            obtain ⟨k, hk⟩ := rc_key x y A s p q r r' h (SeqAt.room_head hu)
            refine ⟨k, PySem.W.kat_cons (he prog w _ _ (PySem.W.kat_no ?_))⟩
            rw [hf]
            exact PySem.W.kat_one _ _ (hk prog w _ _ ⟨rfl, rfl⟩)
/-- tuples that sorted can order: they begin all by a text, or all by a tuple -/
structure Cmps (ks : List NK) : Prop where
  dep : ∀ k ∈ ks, k.depth ≤ 8
  all : ∀ a ∈ ks, ∀ b ∈ ks, cmpOk a b = true
  hd : (∀ k ∈ ks, ∃ x r, k = .tup (.text x :: r)) ∨ (∀ k ∈ ks, ∃ x r, k = .tup (.tup x :: r))
theorem np_tup {h : Heap} {ks : List NK} {u : Value} (x : NP h (.tup ks) u) : ∃ a o vs n, u = .ref a ∧ h.get? a = some o ∧ o.cls = .type "tuple" ∧ o.data = .seq vs n ∧ NPs h ks vs.toList := by
  cases x with
  | tup h1 h2 h3 h4 => exact ⟨_, _, _, _, rfl, h1, h2, h3, h4⟩
theorem keys_firsts {h : Heap} {ks : List NK} : ∀ {vs : List Value}, (∀ k ∈ ks, ∃ y r, k = .tup (y :: r)) → (∀ v ∈ vs, ∃ k ∈ ks, NP h k v) → ∃ fs : List Value, PySem.W.KatTups h vs fs ∧ fs.length = vs.length ∧ ∀ f ∈ fs, ∃ y r, NestedKey.tup (y :: r) ∈ ks ∧ NP h y f
  | [], _, _ => ⟨[], PySem.W.KatTups.nil, rfl, fun _ hm => by simp at hm⟩
  | v :: vs, hh, hp => by
    obtain ⟨fs, h1, h2, h3⟩ := keys_firsts (vs := vs) hh fun v' hm => hp v' (List.mem_cons_of_mem _ hm)
    obtain ⟨k, hk, np⟩ := hp v (List.mem_cons_self ..)
    obtain ⟨y, r, rfl⟩ := hh k hk
    obtain ⟨a, o, us, n, rfl, ho, hc, hd, hs⟩ := np_tup np
    cases e : us.toList with
    | nil => rw [e] at hs; cases hs
    | cons f ur =>
      rw [e] at hs
      cases hs with
      | cons z zs =>
        have e0 : us[0]? = some f := by rw [← Array.getElem?_toList, e]; rfl
        refine ⟨f :: fs, PySem.W.KatTups.cons ho hc hd e0 h1, by rw [List.length_cons, List.length_cons, h2], fun g hm => ?_⟩
        rcases List.mem_cons.mp hm with rfl | hm
        · exact ⟨y, r, hk, z⟩
        · exact h3 g hm
theorem keys_tot {ks : List NK} {vs : List Value} {b : Bool} (C : Cmps ks) (hu : A.units + 8 < cLine) (hp : ∀ v ∈ vs, ∃ k ∈ ks, NP s.heap k v) (hb : b = true → ∀ k ∈ ks, ∃ x r, k = .tup (.text x :: r)) : Srt.Tot prog w A s (tuples' b) (fun p => p.1 ∈ vs) := by
  intro p q hm hm'
  obtain ⟨k, hk, np⟩ := hp _ hm
  obtain ⟨k', hk', np'⟩ := hp _ hm'
  have hT : ∀ k ∈ ks, ∃ y r, k = .tup (y :: r) := fun k hk => C.hd.elim (fun z => let ⟨x, r, e⟩ := z k hk; ⟨_, r, e⟩) fun z => let ⟨x, r, e⟩ := z k hk; ⟨_, r, e⟩
  obtain ⟨y, r, rfl⟩ := hT k hk
  obtain ⟨y', r', rfl⟩ := hT k' hk'
  obtain ⟨a, o, us, n, e, ho, hc, hd, hs⟩ := np_tup np
  obtain ⟨a', o', us', n', e', ho', hc', hd', hs'⟩ := np_tup np'
  rw [e, e']
  have hc1 : cmpOks (y :: r) (y' :: r') = true := by have z := C.all _ hk _ hk'; simpa only [cmpOk] using z
  have hdp := C.dep _ hk
  have hdp' : NestedKey.depthAll (y :: r) + 1 ≤ 8 := by simpa only [NestedKey.depth] using hdp
  have hR : A.units + min (NestedKey.depthAll (y :: r)) (NestedKey.depthAll (y' :: r')) < cLine := by have := Nat.min_le_left (NestedKey.depthAll (y :: r)) (NestedKey.depthAll (y' :: r')); omega
  obtain ⟨c, hx⟩ := lex_keys (prog := prog) (w := w) (b := b) (fin := decide (us.size < us'.size)) (y :: r) (y' :: r') us.toList us'.toList 0 hs hs' hc1 hR
    (fun hbt _ z hz => by
      obtain ⟨x, r2, e2⟩ := hb hbt _ hk
      cases e2; cases hz; rfl) (fun hbt _ z hz => by
      obtain ⟨x, r2, e2⟩ := hb hbt _ hk'
      cases e2; cases hz; rfl)
  exact ⟨c, PySem.W.kat_lt ho hd ho' hd' hx⟩
theorem keys_sortable {ks : List NK} {a : Addr} {vs : List Value} (C : Cmps ks) (hu : A.units + 8 < cLine) (h0 : 0 < vs.length) (hp : ∀ v ∈ vs, ∃ k ∈ ks, NP s.heap k v) (ha : ∀ o, s.heap.get? a = some o → o.cls ≠ .type "tuple") : Srt.Sortable prog w A s a vs := by
  intro h' keep
  have hp' : ∀ v ∈ vs, ∃ k ∈ ks, NP h' k v := fun v hm => by
    obtain ⟨k, hk, p⟩ := hp v hm
    exact ⟨k, hk, p.keep (fun b o e c => keep b o (fun z => by subst z; exact ha o e c) e)⟩
  have hT : ∀ k ∈ ks, ∃ y r, k = .tup (y :: r) := fun k hk => C.hd.elim (fun z => let ⟨x, r, e⟩ := z k hk; ⟨_, r, e⟩) fun z => let ⟨x, r, e⟩ := z k hk; ⟨_, r, e⟩
  obtain ⟨fs, h1, h2, h3⟩ := keys_firsts hT hp'
  rcases C.hd with ht | ht
  · refine ⟨tuples' true, fun Q E hq => ?_, keys_tot (s := { s with heap := h' }) C hu hp' fun _ => ht⟩
    refine PySem.W.kat_kind (T := .type "str") h1 (by omega) (fun f hm => ?_) (by rfl) ?_
    · obtain ⟨y, r, hy, np⟩ := h3 f hm
      obtain ⟨x, r2, e⟩ := ht _ hy
      cases e
      cases np
      exact PySem.W.Looks.now
    · have e : (Value.type "str" != Value.type "tuple") = true := by first | decide +kernel | rfl | decide
      rw [e]
      exact hq
  · refine ⟨tuples' false, fun Q E hq => ?_, keys_tot (s := { s with heap := h' }) C hu hp' fun z => absurd z (by decide)⟩
    refine PySem.W.kat_kind (T := .type "tuple") h1 (by omega) (fun f hm => ?_) (by rfl) ?_
    · obtain ⟨y, r, hy, np⟩ := h3 f hm
      obtain ⟨x, r2, e⟩ := ht _ hy
      cases e
      obtain ⟨a1, o1, us1, n1, rfl, ho1, hc1, _, _⟩ := np_tup np
      exact hc1 ▸ (show PySem.W.Looks (model prog w) h' (typeOf (.ref a1)) o1.cls from (PySem.W.Looks.ld ho1).andThen .now)
    · have e : (Value.type "tuple" != Value.type "tuple") = false := by first | decide +kernel | rfl | decide
      rw [e]
      exact hq
end
end K47
end
section
set_option Elab.async false
set_option maxRecDepth 100000
set_option maxHeartbeats 4000000
set_option autoImplicit false
/-! Rules: sorted of nested data; dicts keyed by it. -/
namespace K47
open PySem L2 PySem.Spec PyProof.Rows
section
variable {X : Cx}
/-- sorted of a list of tuples that can be ordered: the same ones in some order -/
def rSortN (K : PySem.W.Frag) : List V → Hp → VK → Prop := fun vs H Q => ∃ a xs ks, vs = [V.ref a] ∧ SqL K H a xs ∧ Cmps ks ∧ (∀ x ∈ xs, ∃ k ∈ ks, KD H k x) ∧ ∀ ys p, ys.Perm xs → H p = none → Q (.ref p) (upd H p (.lst ys))
theorem kd_ref {H : Hp} {ks : List NK} {k : NK} {x : V} (C : Cmps ks) (hk : k ∈ ks) (h : KD H k x) : ∃ t, x = .ref t := by
  obtain ⟨y, r, rfl⟩ : ∃ y r, k = .tup (y :: r) := C.hd.elim (fun z => let ⟨x, r, e⟩ := z k hk; ⟨_, r, e⟩) fun z => let ⟨x, r, e⟩ := z k hk; ⟨_, r, e⟩
  obtain ⟨a, _, e, _⟩ := h.tup_inv
  exact ⟨a, e⟩
theorem cr_sortN (hu : X.A.units + 64 < cLine) : CallR X (.builtin "sorted") (rSortN X.K) := by
  intro pins s σ H vs us Q I r h
  obtain ⟨a, xs, ks, rfl, hs, C, hx, q⟩ := h
  obtain ⟨its, rv, hl, hz⟩ := I.list hs
  obtain ⟨u, rfl, ru⟩ := vals1 r
  obtain rfl : u = Value.ref a := ru
  obtain ⟨e1, e2⟩ := refs_back rv fun x m => by
    obtain ⟨k, hk, kd⟩ := hx x m
    exact kd_ref C hk kd
  have hnp : ∀ u ∈ its, ∃ k ∈ ks, NP s.heap k u := fun u hu => by
    obtain ⟨t, rfl⟩ := e2 u hu
    have hm : V.ref t ∈ xs := by rw [e1]; exact List.mem_map.mpr ⟨_, hu, rfl⟩
    obtain ⟨k, hk, kd⟩ := hx _ hm
    exact ⟨k, hk, kd.np I.hok k _ _ rfl⟩
  refine Srt.sorted_any hl.isList (by rw [← rv.length]; exact hz) (fun h2 h₁ d hd kp => ?_) fun out hp => ?_
  · refine keys_sortable (s := { s with heap := h₁ }) C (by show X.A.units + 1 + 1 + 8 < cLine; omega) (by omega) (fun v hm => ?_) fun o e => ?_
    · obtain ⟨k, hk, p⟩ := hnp v hm
      exact ⟨k, hk, p.keep (fun b o e _ => (kp b o e).2)⟩
    · have e' := e.symm.trans hd
      cases e'
      intro c
      exact absurd (Value.type.inj c) (by decide)
  · have h3 : ∀ u ∈ out, ∃ a, u = Value.ref a := fun u hu => e2 u (hp.mem_iff.mp hu)
    obtain ⟨n, hn⟩ := sortedAll_at s.heap its out.toArray
    refine ⟨.ref (s.heap.objs.size + 1), upd H (s.heap.objs.size + 1) (.lst (out.map backV)), I.laid (t' := s.toks) (fun b o e => sortedAll_old e) (Nat.le_succ _) ⟨?_, out, n, vals_back h3, hn⟩, rfl, q _ _ ?_ (I.hok.fresh (Nat.le_succ _))⟩
    · rw [List.length_map, hp.length_eq, ← rv.length]; exact hz
    · rw [e1]; exact hp.map backV
end
/-! ### dicts -/
abbrev NE := NK × Addr × V
def NRel (p : NE) (q : NK × Addr × Value) : Prop := p.1 = q.1 ∧ p.2.1 = q.2.1 ∧ RelV p.2.2 q.2.2
def φN (P : Program) (w : World) (a : Addr) (es : List NE) : Heap → Prop := fun h => (a == sysModules) = false ∧ es.length ≤ sizeLine ∧ ∃ xs : List (NK × Addr × Value), Paired NRel es xs ∧
  ∃ o ents ep, h.get? a = some o ∧ o.ExactDict ∧ o.data = .dict ents ep ∧ ents.toList = xs.map (entryOfKey (nestedKind P w))
/-- a dict keyed by nested data -/
def ndO (P : Program) (w : World) (a : Addr) (es : List NE) : HO := .ext (φN P w a es)
structure KF (H : Hp) (es : List NE) : Prop where
  nd : (es.map (·.1)).Nodup
  kd : ∀ e ∈ es, KD H e.1 (.ref e.2.1) ∧ e.1.depth ≤ 8
theorem KF.stay {H H' : Hp} {es : List NE} (f : KF H es) (t : Tst H H') : KF H' es := ⟨f.nd, fun e he => ⟨(f.kd e he).1.stay t _ _, (f.kd e he).2⟩⟩
theorem ndO_ok {P : Program} {w : World} {H : Hp} {h : Heap} {a : Addr} {es : List NE} (x : φN P w a es h) : ObjOk P w H h a (ndO P w a es) := by
  have x' := x
  obtain ⟨_, _, xs, _, o, ents, ep, e, _⟩ := x'
  refine ⟨x, ⟨o, e⟩, fun h1 h2 q k => ?_⟩
  obtain ⟨b1, b2, ys, r, o, ents, ep, e, c⟩ := q
  exact ⟨b1, b2, ys, r, o, ents, ep, k _ e, c⟩
theorem nrel_keys {es : List NE} {xs : List (NK × Addr × Value)} (r : Paired NRel es xs) : es.map (·.1) = xs.map (·.1) := by
  induction r with
  | nil => rfl
  | cons h _ ih => rw [List.map_cons, List.map_cons, ih, h.1]
theorem paired_mem {es : List NE} {xs : List (NK × Addr × Value)} (r : Paired NRel es xs) : ∀ x ∈ xs, ∃ e ∈ es, NRel e x := by
  induction r with
  | nil => intro x hx; cases hx
  | @cons e x es xs h _ ih =>
    intro y hy
    rcases List.mem_cons.mp hy with rfl | hy
    · exact ⟨e, List.mem_cons_self, h⟩
    · obtain ⟨e', m, z⟩ := ih y hy
      exact ⟨e', List.mem_cons_of_mem _ m, z⟩
theorem nd_at {P : Program} {w : World} {H : Hp} {h : Heap} {a : Addr} {es : List NE} (ok : HOk P w H h) (e : H a = some (ndO P w a es)) (f : KF H es) :
    (a == sysModules) = false ∧ es.length ≤ sizeLine ∧ ∃ xs : List (NK × Addr × Value), Paired NRel es xs ∧ h.DictOfH (nestedKind P w) a xs := by
  obtain ⟨⟨b1, b2, xs, r, o, ents, ep, ho, hx, hd, he⟩, _, _⟩ := ok a _ e
  refine ⟨b1, b2, xs, r, o, ents, ep, ho, hx, hd, he, fun x hm => ?_, by rw [← nrel_keys r]; exact f.nd⟩
  obtain ⟨en, hm', z1, z2, z3⟩ := paired_mem r x hm
  obtain ⟨kd, dp⟩ := f.kd en hm'
  exact ⟨by rw [← z1, ← z2]; exact NP.is _ _ (kd.np ok _ _ _ rfl), by rw [← z1]; exact dp⟩
def atN (es : List NE) (k : NK) : Option V := (es.find? fun e => decide (e.1 = k)).map (·.2.2)
def storedN (es : List NE) (k : NK) (b : Addr) (v : V) : List NE := if (atN es k).isSome then es.map (fun e => if e.1 = k then (e.1, e.2.1, v) else e) else es ++ [(k, b, v)]
theorem atN_rel {es : List NE} {xs : List (NK × Addr × Value)} (r : Paired NRel es xs) (k : NK) : (atN es k = none ∧ atKey xs k = none) ∨ ∃ v p, atN es k = some v ∧ atKey xs k = some p ∧ RelV v p.2 := by
  induction r with
  | nil => exact .inl ⟨rfl, rfl⟩
  | @cons e x es xs h _ ih =>
    obtain ⟨h1, h2, h3⟩ := h
    by_cases c : e.1 = k
    · refine .inr ⟨e.2.2, x.2, ?_, ?_, h3⟩
      · unfold atN; rw [List.find?_cons_of_pos (by simpa using c)]; rfl
      · unfold atKey; rw [List.find?_cons_of_pos (by rw [← h1]; simpa using c)]; rfl
    · have e1 : atN (e :: es) k = atN es k := by unfold atN; rw [List.find?_cons_of_neg (by simpa using c)]
      have e2 : atKey (x :: xs) k = atKey xs k := by unfold atKey; rw [List.find?_cons_of_neg (by rw [← h1]; simpa using c)]
      rw [e1, e2]; exact ih
theorem paired_map2 {es : List NE} {xs : List (NK × Addr × Value)} (k : NK) {v : V} {u : Value} (rv : RelV v u) (r : Paired NRel es xs) : Paired NRel (es.map fun e => if e.1 = k then (e.1, e.2.1, v) else e) (xs.map (putAt k u)) := by
  induction r with
  | nil => exact .nil
  | @cons e x es xs h _ ih =>
    refine .cons ?_ ih
    obtain ⟨h1, h2, h3⟩ := h
    unfold putAt
    show NRel (if e.1 = k then (e.1, e.2.1, v) else e) _
    by_cases c : e.1 = k
    · rw [if_pos c, if_pos (by rw [← h1]; exact c)]; exact ⟨h1, h2, rv⟩
    · rw [if_neg c, if_neg (by rw [← h1]; exact c)]; exact ⟨h1, h2, h3⟩
theorem paired_snoc {α β : Type} {F : α → β → Prop} {x : α} {y : β} (h : F x y) : ∀ {xs : List α} {ys : List β}, Paired F xs ys → Paired F (xs ++ [x]) (ys ++ [y])
  | _, _, .nil => .cons h .nil
  | _, _, .cons a t => .cons a (paired_snoc h t)
theorem storedN_rel {es : List NE} {xs : List (NK × Addr × Value)} (k : NK) (b : Addr) {v : V} {u : Value} (rv : RelV v u) (r : Paired NRel es xs) : Paired NRel (storedN es k b v) (storedH xs k b u) := by
  unfold storedN storedH
  rcases atN_rel r k with ⟨h1, h2⟩ | ⟨v', p, h1, h2, _⟩
  · rw [h1, h2]
    exact paired_snoc (F := NRel) ⟨rfl, rfl, rv⟩ r
  · rw [h1, h2]
    exact paired_map2 k rv r
theorem length_storedN (es : List NE) (k : NK) (b : Addr) (v : V) : (storedN es k b v).length ≤ es.length + 1 := by
  unfold storedN; split <;> simp
theorem keys_storedN (es : List NE) (k : NK) (b : Addr) (v : V) : (storedN es k b v).map (·.1) = if k ∈ es.map (·.1) then es.map (·.1) else es.map (·.1) ++ [k] := by
  have hiff : (atN es k).isSome = true ↔ k ∈ es.map (·.1) := by
    unfold atN
    rw [Option.isSome_map, List.find?_isSome, List.mem_map]
    constructor
    · rintro ⟨x, hx, h⟩; exact ⟨x, hx, by simpa using h⟩
    · rintro ⟨x, hx, h⟩; exact ⟨x, hx, by simpa using h⟩
  unfold storedN
  by_cases h : (atN es k).isSome = true
  · rw [if_pos h, if_pos (hiff.mp h), List.map_map]
    refine List.map_congr_left fun e _ => ?_
    show (if e.1 = k then _ else e).1 = e.1
    split <;> rfl
  · rw [if_neg h, if_neg (fun z => h (hiff.mpr z)), List.map_append]; rfl
theorem KF.put {H : Hp} {es : List NE} (f : KF H es) {k : NK} {b : Addr} (hk : KD H k (.ref b)) (hd : k.depth ≤ 8) (v : V) : KF H (storedN es k b v) := by
  constructor
  · rw [keys_storedN]
    split
    · exact f.nd
    · rename_i hn
      rw [List.nodup_append]
      exact ⟨f.nd, by simp, fun x hx y hy z => by
        rw [List.mem_singleton] at hy
        exact hn (by rw [← hy, ← z]; exact hx)⟩
  · intro e he
    unfold storedN at he
    split at he
    · obtain ⟨e', m, rfl⟩ := List.mem_map.mp he
      have z := f.kd e' m
      split <;> exact z
    · rcases List.mem_append.mp he with m | m
      · exact f.kd e m
      · rw [List.mem_singleton] at m; subst m; exact ⟨hk, hd⟩
/-- {} -/
def tDNewN (P : Program) (w : World) : TE := fun _ H Q => ∀ p, H p = none → Q (.ref p) (upd H p (ndO P w p []))
/-- d[k] = v -/
def sNPut (P : Program) (w : World) (td ty tv : TE) : L2.TS := fun D σ H => tv σ H fun v H1 => td σ H1 fun x H2 => ty σ H2 fun y H3 => ∃ a es k b, x = .ref a ∧ y = .ref b ∧ H3 a = some (ndO P w a es) ∧ KF H3 es ∧ KD H3 k (.ref b) ∧ k.depth ≤ 8 ∧ es.length < 1000 ∧
  D.nx σ (upd H3 a (ndO P w a (storedN es k b v)))
/-- d.get(k, x) -/
def tNGet (P : Program) (w : World) (to : TE) (t : TA) : TE := fun σ H Q => to σ H fun x H1 => ∃ a es0, x = .ref a ∧ H1 a = some (ndO P w a es0) ∧ t σ H1 fun vs H2 => ∃ es k b y, vs = [.ref b, y] ∧ H2 a = some (ndO P w a es) ∧ KF H2 es ∧ KD H2 k (.ref b) ∧ k.depth ≤ 8 ∧ Q ((atN es k).getD y) H2
section
variable {X : Cx}
theorem pe_dnewN {pos : Pos} : PE X (.Dict [] [] pos) (tDNewN X.prog X.w) := ⟨fun pins s σ H Q I h =>
  wpAny_Dict_empty ⟨.ref s.heap.objs.size, _, I.laid (a := s.heap.objs.size) (o := ndO X.prog X.w s.heap.objs.size []) (t' := s.toks) (fun _ _ q => Heap.get?_push_of_some _ q) (Nat.le_refl _)
    (ndO_ok ⟨beq_eq_false_iff_ne.mpr (Ne.symm (Nat.ne_of_lt I.big)), Nat.zero_le _, [], .nil, _, #[], 0, Heap.get?_push_size _ rfl, ⟨rfl, rfl, rfl⟩, rfl, rfl⟩), rfl, h _ (I.hok.fresh (Nat.le_refl _))⟩⟩
theorem nroom {A : Around} (hu : A.units + 64 < cLine) : (nestedKind X.prog X.w).room A.in1 := by show A.units + 1 + 8 < cLine; omega
theorem ps_nput {o i value : Expr} {pos pos' : Pos} {td ty tv : TE} (hu : X.A.units + 64 < cLine) (ho : PE X o td) (hi : PE X i ty) (hv : PE X value tv) (hs : swapsWith value (some (.Subscript o i pos')) pos.line X.env = pure false) :
    PS X (.Assign [.Subscript o i pos'] value pos) (sNPut X.prog X.w td ty tv) := by
  refine ⟨fun pins s σ H D I h => ?_⟩
  refine wpAny_Assign_Subscript (thn (hv.run pins s σ H _ I h) fun r s1 ⟨v, H1, I1, rv, q1⟩ => thn (ho.run pins s1 σ H1 _ I1 q1) fun u s2 ⟨x, H2, I2, rx, q2⟩ => thn (hi.run pins s2 σ H2 _ I2 q2) fun iv s3 ⟨y, H3, I3, ry, a, es, k, b, ex, ey, e, f, kd, dp, l, q3⟩ => ?_) hs
  subst ex ey
  obtain rfl : u = Value.ref a := rx
  obtain rfl : iv = Value.ref b := ry
  obtain ⟨b1, b2, xs, rel, dd⟩ := nd_at I3.hok e f
  have hl : xs.length = es.length := (Paired.length rel).symm
  refine wpAny_setItem_heap (hsz := by rw [hl]; exact b2) (nroom hu) ⟨NP.is _ _ (kd.np I3.hok _ _ _ rfl), dp⟩ dd fun h' dd' hs => ?_
  obtain ⟨q, ents, ep, hq, h2, h3, h4, _, _⟩ := dd'
  refine ⟨σ, _, d_write I3 (by rw [e]; exact True.intro) hs ⟨q, hq⟩ (ndO_ok ⟨b1, ?_, _, storedN_rel k b rv rel, q, ents, ep, hq, h2, h3, h4⟩), q3⟩
  have := length_storedN es k b v
  have hs16 : 1001 ≤ sizeLine := by decide
  omega
theorem pe_nget {o e : Expr} {es : List Expr} {to : TE} {t : TA} {apos cpos : Pos} (hu : X.A.units + 64 < cLine) (ho : PE X o to) (ha : PA X (e :: es) t)
    (hbase : attributeBase o "get" X.env (eval o X.env) = eval o X.env := by rfl)
    (hfew : ((backTo cpos (starEach (e :: es) X.env)).all (fun x => !x.1) && (backToKw cpos (keywordEach [] X.env)).all (fun x => x.1.isSome)
      && decide ((e :: es).length + ([] : List Keyword).length + (if ([] : List Keyword).isEmpty then 0 else 1) < 30)) = true := by rfl)
    (hline : (apos.endLine == cpos.line) = true := by rfl) (hs : starEach (e :: es) X.env = (false, eval e X.env) :: starEach es X.env := by rfl) (hplain : (backTo cpos (starEach es X.env)).any (·.1) = false := by rfl) :
    PE X (.Call (.Attribute o "get" apos) (e :: es) [] cpos) (tNGet X.prog X.w to t) := by
  refine ⟨fun pins s σ H Q I h => ?_⟩
  refine wpAny_Call_method_late hbase hfew hline rfl (thn (ho.run pins s σ H _ I h) fun v s1 ⟨x, H1, I1, r1, a, es0, ex, e0, q1⟩ => ?_)
  subst ex
  obtain rfl : v = Value.ref a := r1
  obtain ⟨⟨_, _, _, _, ob, _, _, hob, hxd, _⟩, _, _⟩ := I1.hok a _ e0
  refine ⟨"dict", "dict.get", PySem.F.plainAttrs_dict, PySem.F.slot_dict_get, PySem.F.type_dict_get, ⟨ob, hob, hxd.1⟩, fun b eb => ?_, ?_⟩
  · cases eb
    exact ⟨ob, hob, hxd.2.1⟩
  · have hA := ha.run cpos pins s1 σ H1 _ I1 q1
    rw [hs] at hA ⊢
    refine Calls.callWith_builtin (by show (false || (backTo cpos (starEach es X.env)).any (·.1)) = false; rw [hplain]; rfl) (Calls.evalArgs_plain ?_)
    refine thn hA fun us s2 ⟨vs, H2, I2, r2, es, k, b, y, ev, e, f, kd, dp, q2⟩ => ?_
    subst ev
    obtain ⟨u1, u2, rfl, ru1, ru2⟩ := vals2 r2
    obtain rfl : u1 = Value.ref b := ru1
    obtain ⟨b1, b2, xs, rel, dd⟩ := nd_at I2.hok e f
    refine call_meetsIn PySem.F.slot_dict_get dd.typeIs PySem.F.entry_dict_get (PySem.F.args_dict_get_3 _ _ _) (meetsH_dict_get_default (nestedKind X.prog X.w) a b b1 u2) ⟨nroom hu, k, xs, ⟨NP.is _ _ (kd.np I2.hok _ _ _ rfl), dp⟩, dd, ?_⟩
    rcases atN_rel rel k with ⟨h1, h2⟩ | ⟨v', p, h1, h2, rv⟩
    · rw [h1] at q2
      rw [h2]
      exact ⟨y, H2, I2.tok _, ru2, q2⟩
    · rw [h1] at q2
      rw [h2]
      exact ⟨v', H2, I2.tok _, rv, q2⟩
end
end K47
end
section
set_option Elab.async false
set_option maxRecDepth 100000
set_option maxHeartbeats 4000000
set_option autoImplicit false
/-! sorted of a dict keyed by nested data; dict of a tuple of pairs. -/
namespace K47
open PySem L2 PySem.Spec PyProof.Rows
section
variable {X : Cx}
theorem ne_refs {es : List NE} {xs : List (NK × Addr × Value)} (r : Paired NRel es xs) : ∀ {us : List Value}, us = xs.map (fun x => Value.ref x.2.1) → Vals (es.map fun e => V.ref e.2.1) us := by
  induction r with
  | nil => rintro _ rfl; exact .nil
  | @cons e x es xs h _ ih =>
    rintro _ rfl
    refine .cons ?_ (ih rfl)
    show Value.ref x.2.1 = Value.ref e.2.1
    rw [h.2.1]
/-- sorted(d): its keys in some order -/
def rSortND (P : Program) (w : World) : List V → Hp → VK → Prop := fun vs H Q => ∃ a es, vs = [V.ref a] ∧ H a = some (ndO P w a es) ∧ KF H es ∧ Cmps (es.map (·.1)) ∧ ∀ ys p, ys.Perm (es.map fun e => V.ref e.2.1) → H p = none → Q (.ref p) (upd H p (.lst ys))
theorem cr_sortND (hcalm : X.calm = true) (hu : X.A.units + 64 < cLine) : CallR X (.builtin "sorted") (rSortND X.prog X.w) := by
  intro pins s σ H vs us Q I r h
  obtain ⟨a, es, rfl, e, f, C, q⟩ := h
  obtain ⟨u, rfl, ru⟩ := vals1 r
  obtain rfl : u = Value.ref a := ru
  obtain ⟨b1, b2, xs, rel, dd⟩ := nd_at I.hok e f
  have hlx : xs.length = es.length := (Paired.length rel).symm
  obtain ⟨o, ents, ep, ho, hx, hd, he, his, hnd⟩ := id dd
  have hraw : s.heap.DictRaw a ents ep := ⟨o, ho, hx, hd⟩
  have hel : ents.size = xs.length := by rw [← Array.length_toList, he, List.length_map]
  refine Calls.call_function_entry PyProof.Rows.kind_sorted PyProof.Rows.plain_sorted PyProof.Rows.entry_sorted (PyProof.Rows.args_sorted1 _) ?_
  unfold Builtin.«sorted»
  refine wpAny_bind (m := checkCount "sorted" 1 1 _) (wpAny_pure ?_)
  refine wpAny_bind (PySem.W.kdu_collect (A := X.A.in1) (KdlSrc.rawDict (prog := X.prog) (w := X.w) (es := ents) (ep := ep) b1) (I.ok.hd hcalm) hraw (by rw [hel, hlx]; exact b2) fun h' tk acc hk hacc => ?_)
  have hal : acc.toList.length = xs.length := by rw [Array.length_toList, hacc.1, hel]
  have hus : acc.toList = xs.map fun x => Value.ref x.2.1 := by
    refine List.ext_getElem (by rw [List.length_map, hal]) fun j h1 h2 => ?_
    have hj : j < acc.size := by simpa using h1
    obtain ⟨hi, ev⟩ := hacc.2 j acc[j] (by rw [Array.getElem?_eq_getElem hj])
    have e1 : acc.toList[j] = acc[j] := by simp
    rw [e1, ev]
    have hjx : j < xs.length := by rw [← hal]; exact h1
    have e2 : ents[j]? = some (entryOfKey (nestedKind X.prog X.w) xs[j]) := by rw [← Array.getElem?_toList, he, List.getElem?_map, List.getElem?_eq_getElem hjx]; rfl
    rw [Array.getElem?_eq_getElem hi] at e2
    rw [Option.some.inj e2, List.getElem_map]; rfl
  have I1 : Inv X pins σ H { s with heap := h', toks := tk } := I.kept hk
  have hvals : Vals (es.map fun e => V.ref e.2.1) acc.toList := ne_refs rel hus
  have e2 : ∀ u ∈ acc.toList, ∃ t, u = Value.ref t := fun u hu => by
    rw [hus] at hu
    obtain ⟨x, _, rfl⟩ := List.mem_map.mp hu
    exact ⟨_, rfl⟩
  have hz : acc.toList.length ≤ sizeLine := by rw [hal, hlx]; exact b2
  refine wpAny_bind (wpAny_newList ?_ hz)
  have hoL : (h'.push (seqObj "list" acc.toList.toArray 0)).get? h'.objs.size = some (seqObj "list" acc.toList.toArray 0) := Heap.get?_push_size _ rfl
  show wpAny _ _ _ _ _ { s with heap := h'.push (seqObj "list" acc.toList.toArray 0), toks := tk }
  have hnp : ∀ u ∈ acc.toList, ∃ k ∈ es.map (·.1), NP (h'.push (seqObj "list" acc.toList.toArray 0)) k u := fun u hu => by
    obtain ⟨j, hj, ej⟩ := List.getElem_of_mem hu
    have hje : j < es.length := by rw [← hlx, ← hal]; exact hj
    have r1 := hvals.get (i := j) (x := V.ref es[j].2.1) (by rw [List.getElem?_map, List.getElem?_eq_getElem hje]; rfl)
    obtain ⟨u', eu, ru⟩ := r1
    rw [List.getElem?_eq_getElem hj, ej] at eu
    cases eu
    have kd := (f.kd es[j] (List.getElem_mem hje)).1
    exact ⟨es[j].1, List.mem_map.mpr ⟨_, List.getElem_mem hje, rfl⟩, (kd.np I1.hok _ _ _ ru).keep fun b o eb _ => Heap.get?_push_of_some _ eb⟩
  refine wpAny_bind (wpAny_holding (wpAny_call_entry PyProof.Rows.slot_list_sort ⟨_, hoL, rfl⟩ PyProof.Rows.entry_list_sort
    (Srt.list_sort_any (s := { s with heap := h'.push (seqObj "list" acc.toList.toArray 0), toks := tk }) hoL hz
      (fun h2 => keys_sortable (s := { s with heap := h'.push (seqObj "list" acc.toList.toArray 0), toks := tk }) C (by show X.A.units + 1 + 1 + 8 < cLine; omega) (by omega) hnp fun o eo => by
        have e' := eo.symm.trans hoL
        cases e'
        intro c
        exact absurd (Value.type.inj c) (by decide)) fun out hp => ⟨_, rfl, ?_⟩)
    (PyProof.Rows.args_list_sort _)))
  have h3 : ∀ u ∈ out, ∃ a, u = Value.ref a := fun u hu => e2 u (hp.mem_iff.mp hu)
  obtain ⟨e', he'⟩ := PyProof.Rows.sortedHeap_at (vs := acc.toList) (out := out.toArray) hoL
  have e1 : (es.map fun e => V.ref e.2.1) = acc.toList.map backV := (refs_back hvals fun x hx => by
    obtain ⟨en, _, rfl⟩ := List.mem_map.mp hx
    exact ⟨_, rfl⟩).1
  refine wpAny_pure ⟨_, rfl, .ref h'.objs.size, upd H h'.objs.size (.lst (out.map backV)), I1.laid (t' := tk) (fun b u e => ?_) (Nat.le_refl _)
    (show ObjOk X.prog X.w _ _ _ (.lst (out.map backV)) from ⟨by rw [List.length_map, hp.length_eq]; exact hz, out, e', vals_back h3, he'⟩), rfl, q _ _ ?_ (I1.hok.fresh (Nat.le_refl _))⟩
  · have hb : b < h'.objs.size := Heap.lt_size e
    rw [PyProof.Rows.sortedHeap_old (Nat.ne_of_lt hb) (by rw [size_push']; exact Nat.lt_succ_of_lt hb)]
    exact Heap.get?_push_of_some _ e
  · rw [e1]; exact hp.map backV
/-- a tuple that is known to have no dict of its own -/
def Plt (H : Hp) (a : Addr) (xs : List V) : Prop := ∃ o, H a = some (.frz o (.tup xs)) ∧ o.dict = none
theorem Plt.rd {H : Hp} {a : Addr} {xs : List V} (h : Plt H a xs) : Rd H a (.tup xs) := let ⟨o, e, _⟩ := h; .inr ⟨o, e⟩
theorem Plt.same {H H' : Hp} {a : Addr} {xs : List V} (h : Plt H a xs) (s : Same H H') : Plt H' a xs := let ⟨o, e, d⟩ := h; ⟨o, s _ _ e, d⟩
theorem plt_ok {P : Program} {w : World} {H : Hp} {h : Heap} {a : Addr} {xs : List V} {its : List Value} {o : Obj} (hz : xs.length ≤ sizeLine) (r : Vals xs its) (e : h.get? a = some o) (hc : o.cls = .type "tuple") (n : Nat) (hd : o.data = .seq its.toArray n) :
    ObjOk P w H h a (.frz o (.tup xs)) := ⟨e, hz, its, r, o, e, hc, n, hd⟩
/-- tuple(list), known plain -/
def rTupF (K : PySem.W.Frag) : List V → Hp → VK → Prop := fun xs H Q => ∃ p ys, xs = [.ref p] ∧ SqL K H p ys ∧ ∀ l o, H l = none → o.dict = none → Q (.ref l) (upd H l (.frz o (.tup ys)))
theorem call_tupF : CallR X (.type "tuple") (rTupF X.K) := by
  intro pins s σ H xs us Q I r h
  obtain ⟨p, ys, rfl, hq, q⟩ := h
  obtain ⟨u, rfl, rx⟩ := vals1 r
  cases rx
  obtain ⟨its, r', pl, hz⟩ := I.list hq
  have hlen := r'.length
  refine call_tuple_list pl.isList (fun h' kp => ?_) (by simp only [List.size_toArray]; omega)
  have I1 : Inv X pins σ H { s with heap := h' } := I.kept (t' := s.toks) kp
  exact ⟨.ref h'.objs.size, _, I1.laid (t' := s.toks) (fun b o e => Heap.get?_push_of_some _ e) (Nat.le_refl _) (plt_ok hz r' (Heap.get?_push_size _ rfl) rfl 0 rfl), rfl, q _ _ (I1.hok.fresh (Nat.le_refl _)) rfl⟩
def tTupF (t : TA) : TE := fun σ H Q => t σ H fun xs H1 => xs.length ≤ sizeLine ∧ ∀ p o, H1 p = none → o.dict = none → Q (.ref p) (upd H1 p (.frz o (.tup xs)))
theorem pe_tupF {es : List Expr} {t : TA} {pos : Pos} {x1} (h : PA X es t) : PE X (.Tuple es x1 pos) (tTupF t) := by
  refine ⟨fun pins s σ H Q I hq => ?_⟩
  refine wpAny_Tuple_spliced (thn (h.run pos pins s σ H _ I hq) fun us s1 ⟨xs, H1, I1, r, z, q⟩ => ⟨by rw [← r.length]; exact z, ?_⟩)
  exact ⟨.ref s1.heap.objs.size, _, I1.laid (t' := s1.toks) (fun b u e => Heap.get?_push_of_some _ e) (Nat.le_refl _) (plt_ok z r (Heap.get?_push_size _ rfl) rfl _ rfl), rfl, q _ _ (I1.hok.fresh (Nat.le_refl _)) rfl⟩
/-- pairs (key, where it stands, value) with the pairs' own tuples -/
def rDictN (P : Program) (w : World) : List V → Hp → VK → Prop := fun xs H Q => ∃ (a : Addr) (ps : List (Addr × NE)), xs = [.ref a] ∧ Plt H a (ps.map fun p => V.ref p.1) ∧ (∀ p ∈ ps, Rd H p.1 (.tup [.ref p.2.2.1, p.2.2.2])) ∧ KF H (ps.map (·.2)) ∧
  ∀ d, H d = none → Q (.ref d) (upd H d (ndO P w d (ps.map (·.2))))
theorem storedAll_new : ∀ (ps xs : List (NK × Addr × Value)), ((xs ++ ps).map (·.1)).Nodup → storedAllH xs ps = xs ++ ps
  | [], xs, _ => by rw [List.append_nil]; rfl
  | p :: ps, xs, h => by
    have hn : atKey xs p.1 = none := by
      unfold atKey
      rw [Option.map_eq_none_iff, List.find?_eq_none]
      intro x hx z
      have z' : x.1 = p.1 := by simpa using z
      rw [List.map_append, List.nodup_append] at h
      exact h.2.2 x.1 (List.mem_map.mpr ⟨x, hx, rfl⟩) p.1 (by simp) z'
    have h2 : xs ++ p :: ps = (xs ++ [p]) ++ ps := by simp
    show storedAllH (storedH xs p.1 p.2.1 p.2.2) ps = _
    rw [storedH_new hn, storedAll_new ps _ (by rw [← h2]; exact h), ← h2]
/-- the values of the pairs, in the heap -/
theorem pairs_at {H : Hp} {h : Heap} {P : Program} {w : World} (ok : HOk P w H h) : ∀ (ps : List (Addr × NE)), (∀ p ∈ ps, Rd H p.1 (.tup [.ref p.2.2.1, p.2.2.2])) →
    ∃ xs : List (NK × Addr × Value), Paired NRel (ps.map (·.2)) xs ∧ ∀ j, (hj : j < ps.length) → ∃ x, xs[j]? = some x ∧ h.IsTuple ps[j].1 #[.ref x.2.1, x.2.2]
  | [], _ => ⟨[], .nil, fun j hj => absurd hj (Nat.not_lt_zero _)⟩
  | p :: ps, hp => by
    obtain ⟨xs, h1, h2⟩ := pairs_at ok ps fun q hq => hp q (List.mem_cons_of_mem _ hq)
    obtain ⟨_, its, rv, o, ho, hc, n, hd⟩ := (hp p List.mem_cons_self).ok ok
    obtain ⟨u1, u2, rfl, r1, r2⟩ := vals2 rv
    obtain rfl : u1 = Value.ref p.2.2.1 := r1
    refine ⟨(p.2.1, p.2.2.1, u2) :: xs, .cons ⟨rfl, rfl, r2⟩ h1, fun j hj => ?_⟩
    cases j with
    | zero => exact ⟨_, rfl, o, ho, hc, n, hd⟩
    | succ j => exact h2 j (Nat.lt_of_succ_lt_succ hj)
theorem call_dictN (hcalm : X.calm = true) (hu : X.A.units + 64 < cLine) : CallR X (.type "dict") (rDictN X.prog X.w) := by
  intro pins s σ H xs us Q I r h
  obtain ⟨a, ps, rfl, ha, hps, f, q⟩ := h
  obtain ⟨u, rfl, ru⟩ := vals1 r
  obtain rfl : u = Value.ref a := ru
  obtain ⟨o, ea, hdict⟩ := ha
  obtain ⟨ho, hz, its, rv, o', ho', hc, n, hd⟩ := I.hok a _ ea
  rw [ho] at ho'
  cases ho'
  rw [List.length_map] at hz
  have hlen : its.length = ps.length := by rw [← rv.length, List.length_map]
  obtain ⟨xs, rel, hx⟩ := pairs_at I.hok ps hps
  have hxl : xs.length = ps.length := by rw [← Paired.length rel, List.length_map]
  have hPI : PairItems s.heap its.toArray (fun j => (ps.map (·.1)).getD j 0) (xs.map fun x => (Value.ref x.2.1, x.2.2)) := by
    refine ⟨by rw [List.size_toArray, List.length_map, hlen, hxl], fun j k v hj => ?_⟩
    rw [List.getElem?_map] at hj
    cases e : xs[j]? with
    | none => rw [e] at hj; cases hj
    | some x =>
      rw [e] at hj
      cases hj
      have hjl : j < ps.length := by rw [← hxl]; exact (List.getElem?_eq_some_iff.mp e).1
      obtain ⟨x', e', ht⟩ := hx j hjl
      rw [e] at e'; cases e'
      have hT : (ps.map (·.1)).getD j 0 = ps[j].1 := by rw [List.getD_eq_getElem?_getD, List.getElem?_map, List.getElem?_eq_getElem hjl]; rfl
      refine ⟨?_, ?_⟩
      · obtain ⟨u', eu, ru⟩ := rv.get (i := j) (x := V.ref ps[j].1) (by rw [List.getElem?_map, List.getElem?_eq_getElem hjl]; rfl)
        rw [List.getElem?_toArray, eu]
        show some u' = some (Value.ref ((ps.map (·.1)).getD j 0))
        rw [hT]
        cases ru; rfl
      · show PairAt s.heap ((ps.map (·.1)).getD j 0) _ _
        rw [hT]; exact .inl ht
  have hkeys : ∀ x ∈ xs, (nestedKind X.prog X.w).is s.heap x.1 x.2.1 := fun x hm => by
    obtain ⟨en, hm', z1, z2, z3⟩ := paired_mem rel x hm
    obtain ⟨kd, dp⟩ := f.kd en hm'
    exact ⟨by rw [← z1, ← z2]; exact NP.is _ _ (kd.np I.hok _ _ _ rfl), by rw [← z1]; exact dp⟩
  have hnd : (xs.map (·.1)).Nodup := by rw [← nrel_keys rel]; exact f.nd
  have hnl : (xs.map fun x => (Value.ref x.2.1, x.2.2)).length ≤ sizeLine := by rw [List.length_map, hxl]; exact hz
  refine call_dict_pairsH (knd := nestedKind X.prog X.w) (ps := xs) (PairArg.tuple a its.toArray (fun j => (ps.map (·.1)).getD j 0) (xs.map fun x => (Value.ref x.2.1, x.2.2))) (I.ok.hd hcalm) (by show X.A.units + 1 + 1 + 8 < cLine; omega)
    ⟨⟨o, n, ho, hc, hdict, hd⟩, hPI⟩ ⟨by rw [List.length_map], fun i key v hr => ?_⟩ (fun h' hk x hm => ?_) hnl fun h' tk dd hk => ?_
  · have hr' : (xs.map fun x => (Value.ref x.2.1, x.2.2))[i]? = some (key, v) := hr
    rw [List.getElem?_map] at hr'
    cases e : xs[i]? with
    | none => rw [e] at hr'; cases hr'
    | some x =>
      rw [e] at hr'
      cases hr'
      exact ⟨x.1, x.2.1, rfl, rfl⟩
  · exact nestedKind_stays.stays (fun b o vs n e _ => hk b o (Nat.ne_of_lt (Heap.lt_size e)) (fun z => nomatch z) e) (hkeys x hm)
  · rw [storedAll_new _ _ (by simpa using hnd), List.nil_append] at dd
    obtain ⟨o2, ents, ep, g1, g2, g3, g4, _, _⟩ := dd
    have kp : ∀ b u, s.heap.get? b = some u → h'.get? b = some u := fun b u e => hk b u (fun z => nomatch z) e
    exact ⟨.ref s.heap.objs.size, _, I.laid (t' := tk) kp (Nat.le_refl _) (ndO_ok ⟨beq_eq_false_iff_ne.mpr (Ne.symm (Nat.ne_of_lt I.big)), by rw [List.length_map]; exact hz, xs, rel, o2, ents, ep, g1, g2, g3, g4⟩), rfl, q _ (I.hok.fresh (Nat.le_refl _))⟩
end
end K47
end
section
set_option Elab.async false
set_option maxRecDepth 100000
set_option maxHeartbeats 4000000
set_option autoImplicit false
/-! Forms on the heap; Table.__init__. -/
namespace K47
open PySem L2 PySem.Spec PyProof.Rows
/-- a piece of a form: its pair's place, its thing's place, the thing, how often -/
structure Pc where
  pa : Addr
  ta : Addr
  k : NK
  m : Int
/-- a form: its place, its pieces' place, its number, its pieces -/
structure Fm where
  a : Addr
  p : Addr
  c : Int
  es : List Pc
def Pc.ne (e : Pc) : NE := (e.k, e.ta, .int e.m)
/-- how often a thing stands in a list of pieces -/
def cfP (es : List Pc) (k : NK) : Int := ((es.find? fun e => decide (e.k = k)).map (·.m)).getD 0
def Fm.cf (f : Fm) (k : NK) : Int := cfP f.es k
/-- tuples stay -/
structure Tk (H H' : Hp) : Prop where
  tup : ∀ c xs, H c = some (.tup xs) → H' c = some (.tup xs)
  frz : ∀ c u xs, H c = some (.frz u (.tup xs)) → H' c = some (.frz u (.tup xs))
theorem Tk.refl {H : Hp} : Tk H H := ⟨fun _ _ h => h, fun _ _ _ h => h⟩
theorem Tk.trans {H H1 H2 : Hp} (a : Tk H H1) (b : Tk H1 H2) : Tk H H2 := ⟨fun c xs h => b.tup c xs (a.tup c xs h), fun c u xs h => b.frz c u xs (a.frz c u xs h)⟩
theorem Tk.of {H H' : Hp} (s : Same H H') : Tk H H' := ⟨fun _ _ h => s _ _ h, fun _ _ _ h => s _ _ h⟩
theorem Tk.tst {H H' : Hp} (t : Tk H H') : Tst H H' := fun b xs h => h.elim (fun z => .inl (t.tup b xs z)) fun ⟨o, z⟩ => .inr ⟨o, t.frz b o xs z⟩
/-- what is not a tuple -/
def NTup : HO → Prop
  | .tup _ => False
  | .frz _ _ => False
  | _ => True
theorem Tk.but {H H' : Hp} {a : Addr} {o : HO} (ha : H a = some o) (hn : NTup o) (s : ∀ c u, H c = some u → c ≠ a → H' c = some u) : Tk H H' :=
  ⟨fun c xs h => s c _ h fun z => by rw [z, ha] at h; cases h; exact hn, fun c u xs h => s c _ h fun z => by rw [z, ha] at h; cases h; exact hn⟩
theorem Tk.upd {H : Hp} {a : Addr} {o u : HO} (ha : H a = some o) (hn : NTup o) : Tk H (L2.upd H a u) := Tk.but ha hn fun c v h hc => by rw [upd_ne hc]; exact h
theorem Tk.new {H : Hp} {a : Addr} {u : HO} (ha : H a = none) : Tk H (L2.upd H a u) := Tk.of (same_upd ha)
theorem Tk.rd {H H' : Hp} (t : Tk H H') {a : Addr} {xs : List V} (h : Rd H a (.tup xs)) : Rd H' a (.tup xs) := t.tst a xs h
theorem Tk.plt {H H' : Hp} (t : Tk H H') {a : Addr} {xs : List V} (h : Plt H a xs) : Plt H' a xs := let ⟨o, e, d⟩ := h; ⟨o, t.frz _ _ _ e, d⟩
/-- the form stands there, its things among W -/
structure FmOk (H : Hp) (W : List NK) (f : Fm) : Prop where
  at_ : Rd H f.a (.tup [.int f.c, .ref f.p])
  ps : Plt H f.p (f.es.map fun e => .ref e.pa)
  pc : ∀ e ∈ f.es, Rd H e.pa (.tup [.ref e.ta, .int e.m]) ∧ KD H e.k (.ref e.ta) ∧ e.k ∈ W
  nd : (f.es.map (·.k)).Nodup
theorem FmOk.tk {H H' : Hp} {W : List NK} {f : Fm} (x : FmOk H W f) (t : Tk H H') : FmOk H' W f :=
  ⟨t.rd x.at_, t.plt x.ps, fun e he => let ⟨a, b, c⟩ := x.pc e he; ⟨t.rd a, b.stay t.tst _ _, c⟩, x.nd⟩
theorem FmOk.kf {H : Hp} {W : List NK} {f : Fm} (C : Cmps W) (x : FmOk H W f) : KF H (f.es.map Pc.ne) := by
  refine ⟨by rw [List.map_map]; exact x.nd, fun e he => ?_⟩
  obtain ⟨e', m, rfl⟩ := List.mem_map.mp he
  obtain ⟨a, b, c⟩ := x.pc e' m
  exact ⟨b, C.dep _ c⟩
theorem atN_pc (es : List Pc) (k : NK) : (atN (es.map Pc.ne) k).getD (.int 0) = .int (cfP es k) := by
  unfold atN cfP
  rw [List.find?_map]
  show ((es.find? ((fun e : NE => decide (e.1 = k)) ∘ Pc.ne)).map Pc.ne |>.map (·.2.2)).getD (.int 0) = _
  have e : ((fun e : NE => decide (e.1 = k)) ∘ Pc.ne) = fun e : Pc => decide (e.k = k) := rfl
  rw [e]
  cases es.find? fun e : Pc => decide (e.k = k) with
  | none => rfl
  | some e => rfl
theorem nodup_le {α : Type} [DecidableEq α] : ∀ (l U : List α), l.Nodup → (∀ x ∈ l, x ∈ U) → l.length ≤ U.length
  | [], _, _, _ => Nat.zero_le _
  | x :: l, U, hn, hs => by
    rw [List.nodup_cons] at hn
    have hx := hs x List.mem_cons_self
    have h1 := nodup_le l (U.erase x) hn.2 fun y hy => (List.mem_erase_of_ne (fun z => hn.1 (by rw [← z]; exact hy))).mpr (hs y (List.mem_cons_of_mem _ hy))
    rw [List.length_erase_of_mem hx] at h1
    have := List.length_pos_of_mem hx
    rw [List.length_cons]; omega
theorem perm_map_ex {α β : Type} (f : α → β) {ys zs : List β} (h : ys.Perm zs) : ∀ es : List α, zs = es.map f → ∃ es' : List α, es'.Perm es ∧ ys = es'.map f := by
  induction h with
  | nil => intro es e; cases es with
    | nil => exact ⟨[], .refl _, rfl⟩
    | cons _ _ => cases e
  | cons x _ ih =>
    intro es e
    cases es with
    | nil => cases e
    | cons a r =>
      cases e
      obtain ⟨r', p, rfl⟩ := ih r rfl
      exact ⟨a :: r', .cons a p, rfl⟩
  | swap x y l =>
    intro es e
    cases es with
    | nil => cases e
    | cons a r => cases r with
      | nil => cases e
      | cons b r => cases e; exact ⟨b :: a :: r, .swap a b r, rfl⟩
  | trans _ _ ih1 ih2 =>
    intro es e
    obtain ⟨e1, p1, q1⟩ := ih2 es e
    obtain ⟨e2, p2, q2⟩ := ih1 e1 q1
    exact ⟨e2, p2.trans p1, q2⟩
/-- the first table of forms, its rows by the things tk -/
def cfJ (fs : List Fm) (tk : List NK) (j i : Nat) : Int := ((fs[j]?).map fun f => f.cf (tk.getD i .none)).getD 0
def cstJ (fs : List Fm) (j : Nat) : Int := ((fs[j]?).map (·.c)).getD 0
def tabI (fs : List Fm) (tk : List NK) : TS := initI fs.length tk.length (cfJ fs tk) (cstJ fs)
def spInit (C : Addr) : Sp := fun vs H Q _ => ∃ (p dx fa : Addr) (fs : List Fm) (W : List NK), vs = [.ref p, .ref fa] ∧ H p = some (.ins C dx []) ∧ H fa = some (.lst (fs.map fun f => .ref f.a)) ∧ (∀ f ∈ fs, FmOk H W f) ∧ W.length ≤ 12 ∧ Cmps W ∧ fs.length ≤ 64 ∧
  ∀ (H' : Hp) (r b : Addr) (as : List Addr) (tk : List NK), tk.length ≤ 12 → (∀ f ∈ fs, ∀ e ∈ f.es, e.k ∈ tk) → tk.Nodup → TabAt C H' p fs.length (tabI fs tk) r b as → H r = none → H b = none → (∀ c o, H c = some o → c ≠ p → H' c = some o) → Q .non H'
theorem scInit : FnScope ["self", "forms", "things", "number", "parts", "thing", "many", "form"] ["self", "forms"] (defScope sInit) := ⟨rfl, rfl, rfl, by decide +kernel, rfl, by decide +kernel, by decide +kernel⟩
section
variable {P : Program} {w : World} {K : PySem.W.Frag} {mg : Str → Option Value} {base : Heap} {C : Addr}
abbrev tRowE (P : Program) (w : World) (K : PySem.W.Frag) : TE := tNGet P w (tCB (rDictN P w) (tCons (tOp (rIxT K) (tVar 7) (tC (.int 1))) tNil)) (tCons (tVar 5) (tCons (tC (.int 0)) tNil))
theorem cal_init (D : DfM K C "__init__" "Table.__init__" sInit ["self", "forms"]) (Y : Txt K mg C) : CalM P w K mg base C "__init__" 1 ["self", "forms"] (spInit C) := by
  refine D.cal scInit (fun vs H Q E h => ?_) (fun _ _ cdv A outer s H vs Q E hr h => ?_)
  · obtain ⟨_, _, _, _, _, rfl, _⟩ := h
    rfl
  · obtain ⟨p, dx, fa, fs, W, rfl, hp, hfa, hfs, hW, CW, hn, k⟩ := h
    have nd := scInit.nd
    have hu := hr.units
    refine ⟨_, pss_cons (ps_fld (pv 0) (pe_callB call_len_seq (by rfl) Y.len PySem.boot_len (pa_cons (pv 1) pa_nil)) (by rfl))
      (pss_cons (ps_set (i := 2) nd rfl (Or.inl rfl) pe_dnewN)
      (pss_cons (ps_for PassesOwn.never rfl (pi_list (pv 1)) (pg_tup rfl (pgs_cons (pg_name (i := 3) nd rfl (Or.inl rfl)) (pgs_cons (pg_name (i := 4) nd rfl (Or.inl rfl)) pgs_nil)))
        (pss_one (ps_for PassesOwn.never rfl (pi_tup (pv 4)) (pg_tup rfl (pgs_cons (pg_name (i := 5) nd rfl (Or.inr rfl)) (pgs_cons (pg_name (i := 6) nd rfl (Or.inl rfl)) pgs_nil)))
          (pss_one (ps_nput hu (pv 2) (pv 5) pe_bl (by rfl))))))
      (pss_cons (ps_fld (pv 0) (pe_lst pa_nil) (by rfl))
      (pss_cons (ps_fld (pv 0) (pe_lst pa_nil) (by rfl))
      (pss_cons (ps_for PassesOwn.never rfl (pi_list (pe_callB (cr_sortND rfl hu) (by rfl) Y.sorted (by decide +kernel) (pa_cons (pv 2) pa_nil))) (pg_name (i := 5) nd rfl (Or.inr rfl))
        (pss_cons (ps_expr (pe_bm PySem.F.plainAttrs_list PySem.F.slot_list_append PySem.F.type_list_append mt_append (pe_fld (pv 0) rfl) (pa_cons (pe_op op_cat
            (pe_lc (own := [("form", 7)]) (g := gName 7) (tt := tYes) (te := tRowE P w K) rfl nd (pi_list (pv 1)) (blkOk_by (N := ["self", "forms", "things", "number", "parts", "thing", "many", "form"]) (sc := defScope sInit) (by decide +kernel)) (fun _ _ _ _ _ => pg_name (i := 7) nd rfl (Or.inl rfl)) (fun _ _ _ _ _ => pts_nil)
              (fun _ _ _ _ _ => pe_nget hu (pe_callTy (call_dictN rfl hu) (by rfl) Y.dict (by decide +kernel) (pa_cons (pe_ix ix_tup (pv 7) pe_int (fun _ _ => rfl)) pa_nil)) (pa_cons (pv 5) (pa_cons pe_int pa_nil))))
            (pe_lst (pa_cons pe_int (pa_cons pe_int pa_nil)))) pa_nil)))
        (pss_one (ps_expr (pe_bm PySem.F.plainAttrs_list PySem.F.slot_list_append PySem.F.type_list_append mt_append (pe_fld (pv 0) rfl) (pa_cons pe_non pa_nil))))))
      (pss_cons (ps_expr (pe_bm PySem.F.plainAttrs_list PySem.F.slot_list_append PySem.F.type_list_append mt_append (pe_fld (pv 0) rfl) (pa_cons (pe_op op_cat
            (pe_lc (own := [("form", 7)]) (g := gName 7) (tt := tYes) (te := tOp (rI0 fun i j => V.int (i - j)) (tC (.int 0)) (tOp (rIxT K) (tVar 7) (tC (.int 0)))) rfl nd (pi_list (pv 1)) (blkOk_by (N := ["self", "forms", "things", "number", "parts", "thing", "many", "form"]) (sc := defScope sInit) (by decide +kernel)) (fun _ _ _ _ _ => pg_name (i := 7) nd rfl (Or.inl rfl)) (fun _ _ _ _ _ => pts_nil)
              (fun _ _ _ _ _ => pe_op op_sub pe_int (pe_ix ix_tup (pv 7) pe_int (fun _ _ => rfl))))
            (pe_lst (pa_cons pe_int (pa_cons pe_int pa_nil)))) pa_nil)))
      (pss_one (ps_expr (pe_bm PySem.F.plainAttrs_list PySem.F.slot_list_append PySem.F.type_list_append mt_append (pe_fld (pv 0) rfl) (pa_cons pe_non pa_nil)))))))))), ?_⟩
    have hfmS : ∀ {H' : Hp}, (∀ c o, H c = some o → c ≠ p → H' c = some o) → Tk H H' := fun fr => Tk.but hp trivial fr
    refine ⟨_, rfl, fa, _, rfl, .inl (SqL.of hfa), _, rfl, p, C, dx, [], rfl, hp, Y.cl, Y.nW, by decide, ?_⟩
    show tSeq (tAsg (tDNewN P w) (gName 2)) _ _ _ _
    have hp1 : (upd H p (.ins C dx (putF "width" (.int ((fs.map fun f => V.ref f.a).length : Nat)) []))) p = some (.ins C dx (putF "width" (.int (fs.length : Int)) [])) := by rw [upd_same, List.length_map]
    have fr1 : ∀ c o, H c = some o → c ≠ p → (upd H p (.ins C dx (putF "width" (.int ((fs.map fun f => V.ref f.a).length : Nat)) []))) c = some o := fun c o h hc => by rw [upd_ne hc]; exact h
    generalize (upd H p (.ins C dx (putF "width" (.int ((fs.map fun f => V.ref f.a).length : Nat)) []))) = H1 at hp1 fr1 ⊢
    have fap : fa ≠ p := fun z => by rw [z, hp] at hfa; cases hfa
    have hfa1 := fr1 _ _ hfa fap
    have hfs1 : ∀ f ∈ fs, FmOk H1 W f := fun f hf => (hfs f hf).tk (hfmS fr1)
    refine q_setE ?_
    intro d hd
    have tkd : ∀ o, Tk H1 (upd H1 d o) := fun o => Tk.new hd
    have hfad : ∀ o, (upd H1 d o) fa = some (.lst (fs.map fun f => .ref f.a)) := fun o => by rw [upd_ne (ne_of_none hfa1 hd)]; exact hfa1
    refine q_seq ⟨_, rfl, fa, rfl, ⟨_, SqL.of (hfad _)⟩, for_list (K := K) (a := fa) (xs := fs.map fun f => .ref f.a)
      (fun i σ H' => ∃ es v3 v4 v5 v6, H' = upd H1 d (ndO P w d es) ∧ σ = [some (.ref p), some (.ref fa), some (.ref d), v3, v4, v5, v6, none] ∧ KF H1 es ∧ (∀ en ∈ es, en.1 ∈ W) ∧ ∀ j f, fs[j]? = some f → j < i → ∀ e ∈ f.es, e.k ∈ es.map (·.1))
      ⟨[], none, none, none, none, rfl, rfl, ⟨List.nodup_nil, fun e he => (nomatch he)⟩, fun e he => (nomatch he), fun j f _ h => absurd h (Nat.not_lt_zero j)⟩ (fun i σ H' _ ⟨es, _, _, _, _, e, _⟩ => by rw [e]; exact SqL.of (hfad _)) ?_ ?_⟩
    · rintro i x σ H' hi ⟨es, v3, v4, v5, v6, rfl, rfl, kf, hW', hks⟩
      rw [List.getElem?_map] at hi
      cases ef : fs[i]? with
      | none => rw [ef] at hi; cases hi
      | some f =>
        rw [ef] at hi
        cases hi
        have F := hfs1 f (List.mem_of_getElem? ef)
        refine ⟨f.a, _, rfl, .inl ((tkd _).rd F.at_), rfl, _, _, rfl, _, _, rfl, rfl, ?_⟩
        refine ⟨_, rfl, f.p, rfl, ⟨_, .inl ((tkd _).plt F.ps).rd⟩, for_tup (K := K) (a := f.p) (xs := f.es.map fun e => .ref e.pa)
          (fun i' σ H' => ∃ es v5 v6, H' = upd H1 d (ndO P w d es) ∧ σ = [some (.ref p), some (.ref fa), some (.ref d), some (.int f.c), some (.ref f.p), v5, v6, none] ∧ KF H1 es ∧ (∀ en ∈ es, en.1 ∈ W) ∧ (∀ j f, fs[j]? = some f → j < i → ∀ e ∈ f.es, e.k ∈ es.map (·.1)) ∧ ∀ j e, f.es[j]? = some e → j < i' → e.k ∈ es.map (·.1))
          ⟨es, v5, v6, rfl, rfl, kf, hW', hks, fun j e _ h => absurd h (Nat.not_lt_zero j)⟩ (fun i σ H' _ ⟨es, _, _, e, _⟩ => by rw [e]; exact .inl ((tkd _).plt F.ps).rd) ?_ ?_⟩
        · rintro i' x σ H' hi' ⟨es, v5, v6, rfl, rfl, kf, hW', hks, hk2⟩
          rw [List.getElem?_map] at hi'
          cases ee : f.es[i']? with
          | none => rw [ee] at hi'; cases hi'
          | some e =>
            rw [ee] at hi'
            cases hi'
            obtain ⟨a1, a2, a3⟩ := F.pc e (List.mem_of_getElem? ee)
            refine ⟨e.pa, _, rfl, .inl ((tkd _).rd a1), rfl, _, _, rfl, _, _, rfl, rfl, ?_⟩
            have hlen : es.length ≤ 12 := by
              have := nodup_le _ W kf.nd fun x hx => by
                obtain ⟨en, m, rfl⟩ := List.mem_map.mp hx
                exact hW' en m
              rw [List.length_map] at this
              omega
            refine ⟨_, rfl, _, rfl, d, es, e.k, e.ta, rfl, rfl, upd_same, kf.stay (tkd _).tst, a2.stay (tkd _).tst _ _, CW.dep _ a3, by omega, ?_⟩
            refine ⟨storedN es e.k e.ta (.bl true), _, _, upd_upd, rfl, kf.put a2 (CW.dep _ a3) _, fun en hen => ?_, fun j f' h1 h2 e' he' => ?_, fun j e' h1 h2 => ?_⟩
            · have hm : en.1 ∈ (storedN es e.k e.ta (.bl true)).map (·.1) := List.mem_map.mpr ⟨en, hen, rfl⟩
              rw [keys_storedN] at hm
              split at hm
              · obtain ⟨e2, m, z⟩ := List.mem_map.mp hm
                rw [← z]; exact hW' e2 m
              · rcases List.mem_append.mp hm with m | m
                · obtain ⟨e2, m, z⟩ := List.mem_map.mp m
                  rw [← z]; exact hW' e2 m
                · rw [List.mem_singleton] at m; rw [m]; exact a3
            · have := hks j f' h1 h2 e' he'
              rw [keys_storedN]
              split
              · exact this
              · exact List.mem_append_left _ this
            · rw [keys_storedN]
              by_cases hj : j = i'
              · subst hj
                rw [ee] at h1; cases h1
                split
                · assumption
                · exact List.mem_append_right _ (List.mem_singleton.mpr rfl)
              · have := hk2 j e' h1 (by omega)
                split
                · exact this
                · exact List.mem_append_left _ this
        · rintro σ H' ⟨es, v5, v6, rfl, rfl, kf, hW', hks, hk2⟩
          refine ⟨es, _, _, _, _, rfl, rfl, kf, hW', fun j f' h1 h2 e he => ?_⟩
          by_cases hj : j = i
          · subst hj
            rw [ef] at h1; cases h1
            obtain ⟨j', hj', z⟩ := List.getElem_of_mem he
            exact hk2 j' e (by rw [List.getElem?_eq_getElem hj', z]) (by rw [List.length_map]; exact hj')
          · exact hks j f' h1 (by omega) e he
    · rintro σ H' ⟨es, v3, v4, v5, v6, rfl, rfl, kf, hW', hks⟩
      -- self.rows, self.basis
      have hp2 : (upd H1 d (ndO P w d es)) p = some (.ins C dx (putF "width" (.int (fs.length : Int)) [])) := by rw [upd_ne (ne_of_none hp1 hd)]; exact hp1
      have fr2 : ∀ c o, H c = some o → c ≠ p → (upd H1 d (ndO P w d es)) c = some o := fun c o h hc => by
        have h1 := fr1 c o h hc
        rw [upd_ne (ne_of_none h1 hd)]; exact h1
      have hd2 : (upd H1 d (ndO P w d es)) d = some (ndO P w d es) := upd_same
      have kf2 : KF (upd H1 d (ndO P w d es)) es := kf.stay (tkd _).tst
      generalize upd H1 d (ndO P w d es) = H2 at hp2 fr2 hd2 kf2 ⊢
      have hdp : d ≠ p := fun z => by rw [z, hp2] at hd2; cases hd2
      refine ⟨Nat.zero_le _, fun r hr0 => ⟨_, rfl, p, C, dx, _, rfl, by rw [upd_ne (ne_of_none hp2 hr0)]; exact hp2, Y.cl, Y.nR, Nat.lt_of_le_of_lt (length_putF _ _ _) (by show 0 + 1 < 1000; decide), ?_⟩⟩
      have hrp : r ≠ p := fun z => by rw [z, hp2] at hr0; cases hr0
      have hrd : r ≠ d := fun z => by rw [z, hd2] at hr0; cases hr0
      have hrH : H r = none := by
        cases q : H r with
        | none => rfl
        | some o => have := fr2 r o q hrp; rw [hr0] at this; cases this
      have fr2' : ∀ c o, H2 c = some o → c ≠ p → (upd (upd H2 r (.lst [])) p (.ins C dx (putF "rows" (.ref r) (putF "width" (.int (fs.length : Int)) [])))) c = some o := fun c o h hc => by
        rw [upd_ne hc, upd_ne (ne_of_none h hr0)]; exact h
      have hp3 : (upd (upd H2 r (.lst [])) p (.ins C dx (putF "rows" (.ref r) (putF "width" (.int (fs.length : Int)) [])))) p = some (.ins C dx (putF "rows" (.ref r) (putF "width" (.int (fs.length : Int)) []))) := upd_same
      have hr3 : (upd (upd H2 r (.lst [])) p (.ins C dx (putF "rows" (.ref r) (putF "width" (.int (fs.length : Int)) [])))) r = some (.lst []) := by rw [upd_ne hrp, upd_same]
      show tSeq _ _ _ _ _
      generalize upd (upd H2 r (.lst [])) p (.ins C dx (putF "rows" (.ref r) (putF "width" (.int (fs.length : Int)) []))) = H3 at fr2' hp3 hr3 ⊢
      refine ⟨Nat.zero_le _, fun b hb0 => ⟨_, rfl, p, C, dx, _, rfl, by rw [upd_ne (ne_of_none hp3 hb0)]; exact hp3, Y.cl, Y.nB, Nat.lt_of_le_of_lt (Nat.le_trans (length_putF _ _ _) (Nat.succ_le_succ (length_putF _ _ _))) (by show 0 + 1 + 1 < 1000; decide), ?_⟩⟩
      have hbp : b ≠ p := fun z => by rw [z, hp3] at hb0; cases hb0
      have hrb : r ≠ b := fun z => by rw [← z, hr3] at hb0; cases hb0
      have hbd : b ≠ d := fun z => by
        have := fr2' d _ hd2 hdp
        rw [z, this] at hb0; cases hb0
      have hbH : H b = none := by
        cases q : H b with
        | none => rfl
        | some o => have := fr2' b o (fr2 b o q hbp) hbp; rw [hb0] at this; cases this
      have fr4 : ∀ c o, H2 c = some o → c ≠ p → (upd (upd H3 b (.lst [])) p (.ins C dx (tf (fs.length : Int) r b))) c = some o := fun c o h hc => by
        have h3 := fr2' c o h hc
        rw [upd_ne hc, upd_ne (ne_of_none h3 hb0)]; exact h3
      have hp4 : (upd (upd H3 b (.lst [])) p (.ins C dx (tf (fs.length : Int) r b))) p = some (.ins C dx (tf (fs.length : Int) r b)) := upd_same
      have hr4 : (upd (upd H3 b (.lst [])) p (.ins C dx (tf (fs.length : Int) r b))) r = some (.lst []) := by rw [upd_ne hrp, upd_ne hrb, hr3]
      have hb4 : (upd (upd H3 b (.lst [])) p (.ins C dx (tf (fs.length : Int) r b))) b = some (.lst []) := by rw [upd_ne hbp, upd_same]
      show tSeq _ _ _ _ (upd (upd H3 b (.lst [])) p (.ins C dx (tf (fs.length : Int) r b)))
      generalize upd (upd H3 b (.lst [])) p (.ins C dx (tf (fs.length : Int) r b)) = H4 at fr4 hp4 hr4 hb4 ⊢
      have tk24 : Tk H2 H4 := Tk.but hp2 trivial fr4
      have hd4 := fr4 d _ hd2 hdp
      have kf4 := kf2.stay tk24.tst
      have Ck : Cmps (es.map (·.1)) := ⟨fun x hx => by obtain ⟨en, m, rfl⟩ := List.mem_map.mp hx; exact CW.dep _ (hW' en m), fun x hx y hy => by
        obtain ⟨en, m, rfl⟩ := List.mem_map.mp hx
        obtain ⟨en', m', rfl⟩ := List.mem_map.mp hy
        exact CW.all _ (hW' en m) _ (hW' en' m'), CW.hd.imp (fun z x hx => by obtain ⟨en, m, rfl⟩ := List.mem_map.mp hx; exact z _ (hW' en m)) fun z x hx => by obtain ⟨en, m, rfl⟩ := List.mem_map.mp hx; exact z _ (hW' en m)⟩
      refine q_seq ⟨_, rfl, d, es, rfl, hd4, kf4, Ck, fun ys l hperm hl => ?_⟩
      obtain ⟨es', hes, rfl⟩ := perm_map_ex (fun e : NE => V.ref e.2.1) hperm es rfl
      have hlen : es'.length ≤ 12 := by
        have := nodup_le _ W kf4.nd fun x hx => by
          obtain ⟨en, m, rfl⟩ := List.mem_map.mp hx
          exact hW' en m
        rw [List.length_map] at this
        rw [hes.length_eq]; omega
      have hlp : ∀ {c : Addr} {o : HO}, H4 c = some o → c ≠ l := fun h => ne_of_none h hl
      have fr5 : ∀ c o, H4 c = some o → (upd H4 l (.lst (es'.map fun e => V.ref e.2.1))) c = some o := fun c o h => by rw [upd_ne (hlp h)]; exact h
      have hl5 : (upd H4 l (.lst (es'.map fun e => V.ref e.2.1))) l = some (.lst (es'.map fun e => V.ref e.2.1)) := upd_same
      generalize upd H4 l (.lst (es'.map fun e => V.ref e.2.1)) = H5 at fr5 hl5 ⊢
      have fr05 : ∀ c o, H c = some o → c ≠ p → H5 c = some o := fun c o h hc => fr5 c o (fr4 c o (fr2 c o h hc) hc)
      have hp5 := fr5 _ _ hp4
      have hr5 := fr5 _ _ hr4
      have hb5 := fr5 _ _ hb4
      have hfa5 := fr05 _ _ hfa fap
      have hlr : l ≠ r := fun z => hlp hr4 z.symm
      have hlb : l ≠ b := fun z => hlp hb4 z.symm
      have hfr : fa ≠ r := fun z => by rw [z, hrH] at hfa; cases hfa
      have hfb : fa ≠ b := fun z => by rw [z, hbH] at hfa; cases hfa
      have tk05 : Tk H H5 := hfmS fr05
      have kf5 : KF H5 es' := ⟨((hes.map (·.1)).nodup_iff).mpr kf4.nd, fun e he => by
        obtain ⟨z1, z2⟩ := kf4.kd e (hes.mem_iff.mp he)
        exact ⟨z1.stay (Tk.of fr5).tst _ _, z2⟩⟩
      have fr5t : ∀ {H' : Hp}, (∀ c o, H5 c = some o → c ≠ r → c ≠ b → H' c = some o) → Tk H5 H' := fun fr => ⟨fun c xs h => fr c _ h (fun z => by rw [z, hr5] at h; cases h) (fun z => by rw [z, hb5] at h; cases h), fun c u xs h => fr c _ h (fun z => by rw [z, hr5] at h; cases h) (fun z => by rw [z, hb5] at h; cases h)⟩
      -- one row appended
      have rowStep : ∀ (H' : Hp) (as : List Addr) (σ : L2.St) (te : TE) (xs : List Int) (y : Int) (Q : Hp → Prop), σ[0]? = some (some (.ref p)) → σ[1]? = some (some (.ref fa)) → wipe σ [7] = σ → σ.length = 8 → H' r = some (.lst (as.map V.ref)) → as.length ≤ 20 → (∀ c o, H5 c = some o → c ≠ r → c ≠ b → H' c = some o) →
          xs.length = fs.length → (∀ (H'' : Hp) (j : Nat) (f : Fm) (Q : VK), (∀ c o, H' c = some o → H'' c = some o) → fs[j]? = some f → (∀ H3, (∀ c o, H'' c = some o → H3 c = some o) → Q (.int (xs.getD j 0)) H3) → te (σ.set 7 (some (.ref f.a))) H'' Q) →
          (∀ a H'', (∀ c o, H' c = some o → c ≠ r → H'' c = some o) → H' a = none → H'' a = some (.lst ((xs ++ [y, 1]).map V.int)) → H'' r = some (.lst ((as ++ [a]).map V.ref)) → Q H'') →
          tBM K "list" rAppend (tFld K (tVar 0) "rows") (tCons (tOp rCat (tLc (iList K (tVar 1)) (gName 7) tYes te [7]) (tLst (tCons (tC (.int y)) (tCons (tC (.int 1)) tNil)))) tNil) σ H' (fun _ H'' => Q H'') := by
        intro H' as σ te xs y Q s0 s1 sw sl hr' has fr hx hte hq
        have hp' : H' p = some (.ins C dx (tf (fs.length : Int) r b)) := fr _ _ hp5 (fun z => hrp z.symm) (fun z => hbp z.symm)
        have hfa' := fr _ _ hfa5 hfr hfb
        refine (val_fld (val_v s0) hp' Y.cl Y.nR (tf_r _ _ _)) _ ⟨.inl ⟨rfl, _, SqL.of hr'⟩, ?_⟩
        refine ⟨_, s1, fa, rfl, ⟨_, SqL.of hfa'⟩, fun Dl nD => lc_list (K := K) (a := fa) (xs := fs.map fun f => .ref f.a) (fun j H'' => (∀ c o, H' c = some o → H'' c = some o) ∧ H'' Dl = some (.lst ((xs.take j).map V.int))) ⟨fun c o h => by rw [upd_ne (ne_of_none h nD)]; exact h, upd_same⟩
          (fun i H'' _ ⟨e, _⟩ => SqL.of (e _ _ hfa')) ?_ ?_⟩
        · rintro j x H'' hj ⟨e1, e2⟩
          rw [List.getElem?_map] at hj
          cases ef : fs[j]? with
          | none => rw [ef] at hj; cases hj
          | some f =>
            rw [ef] at hj
            cases hj
            rw [sw]
            have hjl : j < xs.length := by rw [hx]; exact (List.getElem?_eq_some_iff.mp ef).1
            refine ⟨?_, ?_⟩
            · show (σ.set 7 _).set 7 none = σ
              rw [List.set_set]; exact sw
            · refine hte H'' j f _ e1 ef fun H3 e3 => ⟨_, e3 _ _ e2, ?_, fun c o h => ?_, ?_⟩
              · rw [List.length_map, List.length_take]; exact small100 (by omega)
              · have h1 := e3 _ _ (e1 c o h)
                rw [upd_ne (ne_of_none h nD)]; exact h1
              · rw [upd_same, take_succ_get (x := xs.getD j 0) (by rw [List.getD_eq_getElem?_getD, List.getElem?_eq_getElem hjl]; rfl), List.map_append]; rfl
        · rintro H'' ⟨e1, e2⟩
          rw [List.length_map, ← hx, List.take_of_length_le (Nat.le_refl _)] at e2
          refine ⟨by show 2 ≤ sizeLine; decide, fun q hq0 => ?_⟩
          have hDq : Dl ≠ q := ne_of_none e2 hq0
          refine ⟨Dl, q, xs.map V.int, [.int y, .int 1], rfl, rfl, by rw [upd_ne hDq]; exact e2, upd_same, ?_, fun a ha => ?_⟩
          · rw [List.length_map, hx]; exact Nat.le_of_lt (small100 (by show fs.length + 2 ≤ 1000; omega))
          have haq : a ≠ q := fun z => by rw [z, upd_same] at ha; cases ha
          have haN : H'' a = none := by rw [upd_ne haq] at ha; exact ha
          have haH : H' a = none := by
            cases z : H' a with
            | none => rfl
            | some o => rw [e1 a o z] at haN; cases haN
          have hra : r ≠ a := ne_of_none hr' haH
          have hrq : r ≠ q := ne_of_none (e1 _ _ hr') hq0
          refine ⟨r, as.map V.ref, .ref a, rfl, rfl, by rw [upd_ne hra, upd_ne hrq]; exact e1 _ _ hr', ?_, ?_⟩
          · rw [List.length_map]; exact small100 (by omega)
          · refine hq a _ (fun c o h hc => ?_) haH ?_ ?_
            · have h1 := e1 c o h
              rw [upd_ne hc, upd_ne (ne_of_none h haH), upd_ne (ne_of_none h1 hq0)]; exact h1
            · rw [upd_ne (Ne.symm hra), upd_same, List.map_append]; rfl
            · rw [upd_same, List.map_append]; rfl
      have hli : ∀ {H' : Hp}, (∀ c o, H5 c = some o → c ≠ r → c ≠ b → H' c = some o) → H' l = some (.lst (es'.map fun e => V.ref e.2.1)) := fun fr => fr _ _ hl5 hlr hlb
      let tk : List NK := es'.map (·.1)
      let rowI : Nat → List Int := fun i => (List.range fs.length).map fun j => cfJ fs tk j i
      refine ⟨l, rfl, ⟨_, SqL.of hl5⟩, for_list (K := K) (a := l) (xs := es'.map fun e => V.ref e.2.1)
        (fun i σ H' => ∃ as v3 v4 v5 v6, σ = [some (.ref p), some (.ref fa), some (.ref d), v3, v4, v5, v6, none] ∧ as.length = i ∧ H' r = some (.lst (as.map V.ref)) ∧ (∀ a ∈ as, a ≠ r ∧ a ≠ b) ∧ (∀ (k : Nat) (a : Addr), as[k]? = some a → H' a = some (.lst ((rowI k ++ [0, 1]).map V.int))) ∧
          H' b = some (.lst (List.replicate i .non)) ∧ ∀ c o, H5 c = some o → c ≠ r → c ≠ b → H' c = some o)
        ⟨[], v3, v4, v5, v6, rfl, rfl, hr5, fun a h => (nomatch h), fun k a h => by simp at h, hb5, fun c o h _ _ => h⟩ (fun i σ H' _ ⟨_, _, _, _, _, _, _, _, _, _, _, fr⟩ => SqL.of (hli fr)) ?_ ?_⟩
      · rintro i x σ H' hi ⟨as, v3, v4, v5, v6, rfl, hal, hr', has, hrows, hb', fr⟩
        rw [List.getElem?_map] at hi
        cases ee : es'[i]? with
        | none => rw [ee] at hi; cases hi
        | some en =>
          rw [ee] at hi
          cases hi
          have hil : i < es'.length := (List.getElem?_eq_some_iff.mp ee).1
          have kfH : KF H' es' := kf5.stay (fr5t fr).tst
          have hen := kfH.kd en (List.mem_of_getElem? ee)
          have htk : tk.getD i .none = en.1 := by
            show (es'.map (·.1)).getD i .none = en.1
            rw [List.getD_eq_getElem?_getD, List.getElem?_map, ee]; rfl
          refine rowStep H' as [some (.ref p), some (.ref fa), some (.ref d), v3, v4, some (.ref en.2.1), v6, none] (tRowE P w K) (rowI i) 0 _ rfl rfl rfl rfl hr' (by omega) fr (by show (List.map _ _).length = _; rw [List.length_map, List.length_range]) ?_ ?_
          · intro H'' j f Q' e1 ef hQ
            have tk1 : Tk H H'' := (tk05.trans (fr5t fr)).trans (Tk.of e1)
            have F := (hfs f (List.mem_of_getElem? ef)).tk tk1
            refine ⟨_, rfl, f.a, _, 1, .ref f.p, rfl, rfl, .inl F.at_, rfl, ?_⟩
            refine ⟨f.p, f.es.map (fun e => (e.pa, e.ne)), rfl, by rw [List.map_map]; exact F.ps, fun q hq => ?_, by rw [List.map_map]; exact F.kf CW, fun d2 hd2 => ?_⟩
            · obtain ⟨e, m, rfl⟩ := List.mem_map.mp hq
              exact (F.pc e m).1
            · refine ⟨d2, _, rfl, upd_same, _, rfl, _, en.1, en.2.1, .int 0, rfl, upd_same, ?_, (hen.1.stay (Tk.of e1).tst _ _).stay (Tk.new hd2).tst _ _, hen.2, ?_⟩
              · rw [List.map_map]; exact (F.kf CW).stay (Tk.new hd2).tst
              · rw [List.map_map]
                show Q' ((atN (f.es.map Pc.ne) en.1).getD (.int 0)) _
                rw [atN_pc]
                have hv : (rowI i).getD j 0 = cfP f.es en.1 := by
                  have hjl : j < fs.length := (List.getElem?_eq_some_iff.mp ef).1
                  show ((List.range fs.length).map _).getD j 0 = _
                  rw [List.getD_eq_getElem?_getD, List.getElem?_map, List.getElem?_range hjl]
                  show cfJ fs tk j i = _
                  unfold cfJ
                  rw [ef, htk]; rfl
                have := hQ (upd H'' d2 (ndO P w d2 (List.map ((fun x => x.2) ∘ fun e => (e.pa, e.ne)) f.es))) fun c o h => by rw [upd_ne (ne_of_none h hd2)]; exact h
                rw [hv] at this
                exact this
          · intro a H'' e1 haN ha hr''
            have hbn : b ≠ r := Ne.symm hrb
            have har : a ≠ r := fun z => by rw [z, hr'] at haN; cases haN
            have hab : a ≠ b := fun z => by rw [z, hb'] at haN; cases haN
            have fr'' : ∀ c o, H5 c = some o → c ≠ r → c ≠ b → H'' c = some o := fun c o h h1 h2 => e1 _ _ (fr c o h h1 h2) h1
            have hp'' := fr'' _ _ hp5 (Ne.symm hrp) (Ne.symm hbp)
            have hb'' := e1 _ _ hb' hbn
            have hV : Val (tFld K (tVar 0) "basis") [some (.ref p), some (.ref fa), some (.ref d), v3, v4, some (.ref en.2.1), v6, none] H'' (.ref b) := val_fld (val_v rfl) hp'' Y.cl Y.nB (tf_b _ _ _)
            show tBM K "list" rAppend (tFld K (tVar 0) "basis") (tCons (tC .non) tNil) _ H'' _
            refine hV _ ⟨.inl ⟨rfl, _, SqL.of hb''⟩, b, _, .non, rfl, rfl, hb'', ?_, ?_⟩
            · rw [List.length_replicate]; exact small100 (by omega)
            · refine ⟨as ++ [a], _, _, _, _, rfl, by rw [List.length_append, hal]; rfl, by rw [upd_ne hrb]; exact hr'', fun c hc => ?_, fun k c hc => ?_, ?_, fun c o h h1 h2 => ?_⟩
              · rcases List.mem_append.mp hc with h | h
                · exact has c h
                · rw [List.mem_singleton.mp h]; exact ⟨har, hab⟩
              · by_cases hk : k < as.length
                · rw [List.getElem?_append_left hk] at hc
                  have hm := has c (List.mem_of_getElem? hc)
                  rw [upd_ne hm.2]
                  exact e1 _ _ (hrows k c hc) hm.1
                · rw [List.getElem?_append_right (by omega)] at hc
                  have hk0 : k - as.length = 0 := by
                    have := (List.getElem?_eq_some_iff.mp hc).1
                    simp at this; omega
                  rw [hk0] at hc
                  cases hc
                  have hki : k = i := by omega
                  rw [hki, upd_ne hab]; exact ha
              · rw [upd_same, List.replicate_succ']
              · rw [upd_ne h2]; exact fr'' c o h h1 h2
      · rintro σ H' ⟨as, v3, v4, v5, v6, rfl, hal, hr', has, hrows, hb', fr⟩
        rw [List.length_map] at hal hb'
        show tSeq _ _ _ _ _
        refine rowStep H' as [some (.ref p), some (.ref fa), some (.ref d), v3, v4, v5, v6, none] _ ((List.range fs.length).map fun j => 0 - cstJ fs j) 1 _ rfl rfl rfl rfl hr' (by omega) fr (by rw [List.length_map, List.length_range]) ?_ ?_
        · intro H'' j f Q' e1 ef hQ
          have tk1 : Tk H H'' := (tk05.trans (fr5t fr)).trans (Tk.of e1)
          have F := (hfs f (List.mem_of_getElem? ef)).tk tk1
          have hjl : j < fs.length := (List.getElem?_eq_some_iff.mp ef).1
          refine ⟨_, rfl, f.a, _, 0, .int f.c, rfl, rfl, .inl F.at_, rfl, _, _, rfl, rfl, ?_⟩
          have := hQ H'' fun c o h => h
          rw [List.getD_eq_getElem?_getD, List.getElem?_map, List.getElem?_range hjl] at this
          show Q' (.int (0 - f.c)) H''
          have e : cstJ fs j = f.c := by unfold cstJ; rw [ef]; rfl
          rw [← e]
          exact this
        · intro a H'' e1 haN ha hr''
          have hbn : b ≠ r := Ne.symm hrb
          have har : a ≠ r := fun z => by rw [z, hr'] at haN; cases haN
          have hab : a ≠ b := fun z => by rw [z, hb'] at haN; cases haN
          have fr'' : ∀ c o, H5 c = some o → c ≠ r → c ≠ b → H'' c = some o := fun c o h h1 h2 => e1 _ _ (fr c o h h1 h2) h1
          have hp'' := fr'' _ _ hp5 (Ne.symm hrp) (Ne.symm hbp)
          have hb'' := e1 _ _ hb' hbn
          have hV : Val (tFld K (tVar 0) "basis") [some (.ref p), some (.ref fa), some (.ref d), v3, v4, v5, v6, none] H'' (.ref b) := val_fld (val_v rfl) hp'' Y.cl Y.nB (tf_b _ _ _)
          show tBM K "list" rAppend (tFld K (tVar 0) "basis") (tCons (tC .non) tNil) _ H'' _
          refine hV _ ⟨.inl ⟨rfl, _, SqL.of hb''⟩, b, _, .non, rfl, rfl, hb'', ?_, ?_⟩
          · rw [List.length_replicate]; exact small100 (by omega)
          have htl : tk.length = es'.length := by show (es'.map _).length = _; rw [List.length_map]
          have hTl : (tabI fs tk).rows.length = es'.length + 1 := by unfold tabI initI; simp [tk]
          refine k _ r b (as ++ [a]) tk (by rw [htl]; exact hlen) (fun f hf e he => ?_) kf5.nd ⟨⟨dx, by rw [upd_ne (Ne.symm hbp)]; exact hp''⟩, by rw [upd_ne hrb]; exact hr'', by rw [List.length_append, hal, hTl]; rfl, fun k c hc => ?_, ?_, hrb, fun c hc => ?_⟩ hrH hbH fun c o h hc => ?_
          · obtain ⟨j, hj, z⟩ := List.getElem_of_mem hf
            have := hks j f (by rw [List.getElem?_eq_getElem hj, z]) (by rw [List.length_map]; exact hj) e he
            exact ((hes.map (·.1)).mem_iff).mpr this
          · have hkl : k < tk.length + 1 := by
              have := (List.getElem?_eq_some_iff.mp hc).1
              rw [List.length_append, hal] at this
              simp at this; omega
            have hrow : (tabI fs tk).rows.getD k [] = if k < tk.length then rowI k ++ [0, 1] else (List.range fs.length).map (fun j => 0 - cstJ fs j) ++ [1, 1] := by
              unfold tabI initI
              rw [List.getD_eq_getElem?_getD]
              by_cases h : k < tk.length
              · rw [if_pos h, List.getElem?_append_left (by simpa using h), List.getElem?_map, List.getElem?_range h]; rfl
              · have e : k = tk.length := by omega
                rw [if_neg h, List.getElem?_append_right (by simp; omega), List.length_map, List.length_range, e, Nat.sub_self]; rfl
            rw [hrow]
            by_cases hk : k < as.length
            · rw [List.getElem?_append_left hk] at hc
              have hm := has c (List.mem_of_getElem? hc)
              rw [upd_ne hm.2, if_pos (by omega)]
              exact e1 _ _ (hrows k c hc) hm.1
            · rw [List.getElem?_append_right (by omega)] at hc
              have hk0 : k - as.length = 0 := by
                have := (List.getElem?_eq_some_iff.mp hc).1
                simp at this; omega
              rw [hk0] at hc
              cases hc
              rw [upd_ne hab, if_neg (by omega)]; exact ha
          · rw [upd_same]
            unfold tabI initI
            rw [List.map_replicate, List.replicate_succ', htl]; rfl
          · rcases List.mem_append.mp hc with h | h
            · exact has c h
            · rw [List.mem_singleton.mp h]; exact ⟨har, hab⟩
          · have hcr : c ≠ r := fun z => by rw [z, hrH] at h; cases h
            have hcb : c ≠ b := fun z => by rw [z, hbH] at h; cases h
            rw [upd_ne hcb]
            exact fr'' _ _ (fr05 c o h hc) hcr hcb
end
end K47
end
section
set_option autoImplicit false
/-! From the tables' words to plain sums. -/
namespace K47
def sumL (ps : List (Nat × Int)) (f : Nat → Int) : Int := (ps.map fun q => q.2 * f q.1).sum
theorem sumL_congr {ps : List (Nat × Int)} {f g : Nat → Int} (h : ∀ q ∈ ps, f q.1 = g q.1) : sumL ps f = sumL ps g := by
  unfold sumL
  rw [List.map_congr_left fun q hq => by rw [h q hq]]
theorem sumL_cons (q : Nat × Int) (ps : List (Nat × Int)) (f : Nat → Int) : sumL (q :: ps) f = q.2 * f q.1 + sumL ps f := by
  unfold sumL; rw [List.map_cons, List.sum_cons]
theorem sumL_neg (f : Nat → Int) : ∀ ps : List (Nat × Int), sumL ps (fun j => 0 - f j) = 0 - sumL ps f
  | [] => rfl
  | q :: ps => by rw [sumL_cons, sumL_cons, sumL_neg f ps]; grind
theorem sumL_zero : ∀ ps : List (Nat × Int), sumL ps (fun _ => 0) = 0
  | [] => rfl
  | q :: ps => by rw [sumL_cons, sumL_zero ps]; grind
theorem sumL_perm {ps qs : List (Nat × Int)} (h : ps.Perm qs) (f : Nat → Int) : sumL ps f = sumL qs f := by
  induction h with
  | nil => rfl
  | cons x _ ih => rw [sumL_cons, sumL_cons, ih]
  | swap x y l => rw [sumL_cons, sumL_cons, sumL_cons, sumL_cons]; grind
  | trans _ _ a b => rw [a, b]
theorem sumL_map (g : Nat → Nat) (f : Nat → Int) : ∀ ps : List (Nat × Int), sumL (ps.map fun q => (g q.1, q.2)) f = sumL ps fun j => f (g j)
  | [] => rfl
  | q :: ps => by rw [List.map_cons, sumL_cons, sumL_cons, sumL_map g f ps]
theorem found_plain {n p : Nat} {K : Nat → Nat → Int} {cst : Nat → Int} {ps : List (Nat × Int)} (S : SumOk n (p + 1) (A0 n p K cst) ps) : (∀ i, i < p → sumL ps (fun j => K j i) = 0) ∧ sumL ps cst < 0 := by
  obtain ⟨sc, hsc, hs⟩ := S.sum
  refine ⟨fun i hi => ?_, ?_⟩
  · have h := hs i (by omega)
    have e1 : A0 n p K cst i n = 0 := by unfold A0; rw [if_neg (by omega), if_pos rfl, if_neg (by omega)]
    rw [e1, Int.mul_zero] at h
    rw [← h]
    exact sumL_congr fun q hq => by
      show K q.1 i = A0 n p K cst i q.1
      unfold A0; rw [if_pos (S.ok q hq).1, if_pos hi]
  · have h := hs p (by omega)
    have e1 : A0 n p K cst p n = 1 := by unfold A0; rw [if_neg (by omega), if_pos rfl, if_pos rfl]
    rw [e1, Int.mul_one] at h
    have h2 : sumL ps (fun j => 0 - cst j) = sc := by
      rw [← h]
      exact sumL_congr fun q hq => by
        show 0 - cst q.1 = A0 n p K cst p q.1
        unfold A0; rw [if_pos (S.ok q hq).1, if_neg (by omega)]
    rw [sumL_neg] at h2
    omega
theorem none_plain {n p : Nat} {K : Nat → Nat → Int} {cst : Nat → Int} (N : NoSum n (p + 1) (A0 n p K cst)) (lam : Nat → Int) (hl : ∀ j, j < n → 0 ≤ lam j) (h0 : ∀ i, i < p → si n (fun j => lam j * K j i) = 0) (h1 : si n (fun j => lam j * cst j) < 0) : False := by
  refine N lam hl (0 - si n (fun j => lam j * cst j)) (by omega) fun i hi => ?_
  by_cases h : i < p
  · have e1 : A0 n p K cst i n = 0 := by unfold A0; rw [if_neg (by omega), if_pos rfl, if_neg (by omega)]
    rw [e1, Int.mul_zero, ← h0 i h]
    exact si_congr fun j hj => by unfold A0; rw [if_pos hj, if_pos h, Int.mul_comm]
  · have e : i = p := by omega
    subst e
    have e1 : A0 n i K cst i n = 1 := by unfold A0; rw [if_neg (by omega), if_pos rfl, if_pos rfl]
    rw [e1, Int.mul_one]
    have h2 := si_lin (f := fun j => lam j * cst j) (g := fun j => lam j * cst j) 0 1 n
    have h3 : si n (fun j => A0 n i K cst i j * lam j) = si n (fun j => 0 * (lam j * cst j) - 1 * (lam j * cst j)) := si_congr fun j hj => by unfold A0; rw [if_pos hj, if_neg h]; grind
    rw [h3, h2]; omega
end K47
end
section
set_option Elab.async false
set_option maxRecDepth 100000
set_option maxHeartbeats 4000000
set_option autoImplicit false
/-! Facts on the heap; summed. -/
namespace K47
open PySem L2 PySem.Spec PyProof.Rows
/-- a fact: a least fact with its form, or an each fact -/
structure Fc where
  a : Addr
  f : Option Fm
def eachK (k : Int) : NK := .tup [.text "each", .tup [.text "r", .num 0], .tup [.num 0, .tup []], .tup [.num 9, .tup []], .num 1, .num 0, .tup [.num k, .tup []]]
def FcOk (H : Hp) (W : List NK) (x : Fc) : Prop := match x.f with
  | some f => Rd H x.a (.tup [.str "least", .ref f.a]) ∧ FmOk H W f
  | none => ∃ k, KD H (eachK k) (.ref x.a)
theorem FcOk.tk {H H' : Hp} {W : List NK} {x : Fc} (h : FcOk H W x) (t : Tk H H') : FcOk H' W x := by
  unfold FcOk at h ⊢
  split
  · rename_i f e; rw [e] at h; exact ⟨t.rd h.1, h.2.tk t⟩
  · rename_i e; rw [e] at h; obtain ⟨k, kd⟩ := h; exact ⟨k, kd.stay t.tst _ _⟩
theorem FcOk.headE {H : Hp} {W : List NK} {x : Fc} (h : FcOk H W x) (e : x.f = none) : ∃ xs, Rd H x.a (.tup (.str "each" :: xs)) := by
  unfold FcOk at h
  rw [e] at h
  obtain ⟨k, kd⟩ := h
  obtain ⟨a, vs, e2, hr, ks⟩ := kd.tup_inv
  cases e2
  obtain ⟨v, r, rfl, k1, _⟩ := ks.cons_inv
  rw [k1.text_inv] at hr
  exact ⟨r, hr⟩
theorem FcOk.least {H : Hp} {W : List NK} {x : Fc} {f : Fm} (h : FcOk H W x) (e : x.f = some f) : Rd H x.a (.tup [.str "least", .ref f.a]) ∧ FmOk H W f := by
  unfold FcOk at h; rw [e] at h; exact h
def fcF (fcs : List Fc) (k : Nat) : Option Fm := (fcs[k]?).bind (·.f)
def lsTo (fcs : List Fc) (i : Nat) : List (Nat × Fm) := (List.range i).filterMap fun k => (fcF fcs k).map fun f => (k, f)
theorem lsTo_succ (fcs : List Fc) (i : Nat) : lsTo fcs (i + 1) = lsTo fcs i ++ (match fcF fcs i with | some f => [(i, f)] | none => []) := by
  unfold lsTo
  rw [List.range_succ, List.filterMap_append]
  congr 1
  cases e : fcF fcs i <;> simp [e]
theorem mem_lsTo {fcs : List Fc} {i : Nat} {q : Nat × Fm} : q ∈ lsTo fcs i ↔ q.1 < i ∧ fcF fcs q.1 = some q.2 := by
  unfold lsTo
  rw [List.mem_filterMap]
  constructor
  · rintro ⟨k, hk, h⟩
    obtain ⟨f, e1, e2⟩ := Option.map_eq_some_iff.mp h
    subst e2
    exact ⟨List.mem_range.mp hk, e1⟩
  · rintro ⟨h1, h2⟩
    exact ⟨q.1, List.mem_range.mpr h1, by rw [h2]; rfl⟩
theorem lsTo_len (fcs : List Fc) (i : Nat) : (lsTo fcs i).length ≤ i := by
  have := List.length_filterMap_le (fun k => (fcF fcs k).map fun f => (k, f)) (List.range i)
  rw [List.length_range] at this
  exact this
theorem lsTo_up (fcs : List Fc) : ∀ i, ((lsTo fcs i).map (·.1)).Pairwise (· < ·)
  | 0 => List.Pairwise.nil
  | i + 1 => by
    rw [lsTo_succ]
    cases e : fcF fcs i with
    | none => simpa using lsTo_up fcs i
    | some f =>
      rw [List.map_append, List.pairwise_append]
      refine ⟨lsTo_up fcs i, by simp, fun x hx y hy => ?_⟩
      obtain ⟨q, hq, rfl⟩ := List.mem_map.mp hx
      simp at hy
      rw [hy]
      exact (mem_lsTo.mp hq).1
def cfA (fcs : List Fc) (t : NK) (k : Nat) : Int := ((fcF fcs k).map (·.cf t)).getD 0
def cA (fcs : List Fc) (k : Nat) : Int := ((fcF fcs k).map (·.c)).getD 0
structure RightS (fcs : List Fc) (qs : List (Nat × Int)) : Prop where
  up : (qs.map (·.1)).Pairwise (· < ·)
  ok : ∀ q ∈ qs, (fcF fcs q.1).isSome = true ∧ 0 < q.2 ∧ Fit 8000 q.2
  th : ∀ t, sumL qs (cfA fcs t) = 0
  cs : sumL qs (cA fcs) < 0
def NoRight (fcs : List Fc) : Prop := ∀ lam : Nat → Int, (∀ k, k < fcs.length → 0 ≤ lam k) → (∀ t, si fcs.length (fun k => lam k * cfA fcs t k) = 0) → si fcs.length (fun k => lam k * cA fcs k) < 0 → False
theorem si_take {α : Type} (h : α → Int) (d : α) (l : List α) : ∀ n, n ≤ l.length → si n (fun j => h (l.getD j d)) = ((l.take n).map h).sum
  | 0, _ => rfl
  | n + 1, hn => by
    have hl : n < l.length := hn
    rw [take_succ_get (x := l[n]) (by rw [List.getElem?_eq_getElem hl]), List.map_append, List.sum_append, ← si_take h d l n (by omega)]
    show _ + h (l.getD n d) = _ + (h l[n] + 0)
    rw [List.getD_eq_getElem?_getD, List.getElem?_eq_getElem hl, Int.add_zero]; rfl
theorem si_list {α : Type} (h : α → Int) (d : α) (l : List α) : si l.length (fun j => h (l.getD j d)) = (l.map h).sum := by
  rw [si_take h d l _ (Nat.le_refl _), List.take_of_length_le (Nat.le_refl _)]
theorem si_ls (fcs : List Fc) (g : Nat → Int) (hg : ∀ k, fcF fcs k = none → g k = 0) : ∀ i, ((lsTo fcs i).map fun q => g q.1).sum = si i g
  | 0 => rfl
  | i + 1 => by
    rw [lsTo_succ, List.map_append, List.sum_append, si_ls fcs g hg i]
    show si i g + _ = si i g + g i
    cases e : fcF fcs i with
    | none => rw [hg i e]; rfl
    | some f => simp
def SumAt (H : Hp) (v : V) (qs : List (Nat × Int)) : Prop := ∃ (a tp : Addr) (prs : List (Addr × Nat × Int)), v = .ref a ∧ Rd H a (.tup [.str "sum", .ref tp]) ∧ Rd H tp (.tup (prs.map fun p => V.ref p.1)) ∧ qs = prs.map (·.2) ∧ ∀ p ∈ prs, Rd H p.1 (.tup [.int (p.2.1 : Nat), .int p.2.2])
def Big (M : Nat) (f : Fm) : Prop := f.c.natAbs ≤ M ∧ ∀ e ∈ f.es, e.m.natAbs ≤ M
def spSummed : Sp := fun vs H Q _ => ∃ (q : Addr) (fcs : List Fc) (W : List NK), vs = [.ref q] ∧ H q = some (.lst (fcs.map fun x => .ref x.a)) ∧ (∀ x ∈ fcs, FcOk H W x) ∧ W.length ≤ 12 ∧ Cmps W ∧ fcs.length ≤ 60 ∧ (∀ x ∈ fcs, ∀ f, x.f = some f → Big (10 ^ 11) f) ∧
  (∀ H', NoRight fcs → Same H H' → Q .non H') ∧ ∀ v H' qs, RightS fcs qs → SumAt H' v qs → Same H H' → Q v H'
theorem scSummed : FnScope ["facts", "places", "found", "k"] ["facts"] (defScope sSummed) := ⟨rfl, rfl, rfl, by decide +kernel, rfl, by decide +kernel, by decide +kernel⟩
section
variable {P : Program} {w : World} {K : PySem.W.Frag} {mg : Str → Option Value} {base : Heap} {C : Addr}
theorem cal_summed (D : Df K mg "summed" sSummed ["facts"]) (cI : CalM P w K mg base C "__init__" 1 ["self", "forms"] (spInit C)) (cS : CalM P w K mg base C "solved" 4 ["self"] (spSolve C)) (Y : Txt K mg C) : Cal P w K mg base "summed" 5 ["facts"] spSummed := by
  obtain ⟨fI, fdI, GI, mI, bI⟩ := cI
  obtain ⟨fS, fdS, GS, mS, bS⟩ := cS
  refine D.cal scSummed (fun vs H Q E h => ?_) (fun _ _ cdv A outer s H vs Q E hr h => ?_)
  · obtain ⟨_, _, _, rfl, _⟩ := h
    rfl
  · obtain ⟨q, fcs, W, rfl, hq, hfc, hW, CW, h60, hbig, kN, kF⟩ := h
    have nd := scSummed.nd
    have hu := hr.units
    have hu1 := hu_of hr
    have MK : Mk K C fI := ⟨Y.mkC, mI.at_, mI.fn, Y.kpC⟩
    refine ⟨_, pss_cons (ps_set (i := 1) nd rfl (Or.inr rfl) (pe_lc (own := [("k", 3)]) (g := gName 3) (tt := tTest (tOp rEq (tOp (rIxT K) (tOp (rIxL K) (tVar 0) (tVar 3)) (tC (.int 0))) (tC (.str "least")))) (te := tVar 3) rfl nd (pi_range1 rfl Y.range (pa_cons (pe_callB call_len_seq (by rfl) Y.len PySem.boot_len (pa_cons (pv 0) pa_nil)) pa_nil)) (blkOk_by (N := ["facts", "places", "found", "k"]) (sc := defScope sSummed) (by decide +kernel)) (fun _ _ _ _ _ => pg_name (i := 3) nd rfl (Or.inl rfl))
        (fun _ _ _ _ _ => pts_one (pt_cmpR op_eq (pe_ix ix_tup (pe_ix ix_list (pv 0) (pv 3) (fun _ _ => rfl)) pe_int (fun _ _ => rfl)) pe_str (nomark _))) (fun _ _ _ _ _ => pv 3)))
      (pss_cons (ps_set (i := 2) nd rfl (Or.inr rfl) (pe_meth0 (pe_make MK GI (hr.mono (by decide)) (by rfl) Y.mgC bI .nil pass0 (pa_cons (pe_lc (own := [("k", 3)]) (g := gName 3) (tt := tYes) (te := tOp (rIxT K) (tOp (rIxL K) (tVar 0) (tVar 3)) (tC (.int 1))) rfl nd (pi_list (pv 1)) (blkOk_by (N := ["facts", "places", "found", "k"]) (sc := defScope sSummed) (by decide +kernel)) (fun _ _ _ _ _ => pg_name (i := 3) nd rfl (Or.inl rfl)) (fun _ _ _ _ _ => pts_nil)
          (fun _ _ _ _ _ => pe_ix ix_tup (pe_ix ix_list (pv 0) (pv 3) (fun _ _ => rfl)) pe_int (fun _ _ => rfl))) pa_nil)) Y.cl mS GS hr bS .nil pass0))
      (pss_cons (ps_if (pt_cmpR op_isN1 (pv 2) pe_non (nomark _)) (pss_one (ps_ret pe_non)) pss_nil)
      (pss_one (ps_ret (pe_tup (pa_cons pe_str (pa_cons (pe_callTy call_tuple_of (by rfl) Y.tuple (by decide +kernel) (pa_cons (pe_lc (own := [("k", 3)]) (g := gName 3) (tt := tYes) (te := tTup (tCons (tOp (rIxL K) (tVar 1) (tVar 3)) (tCons (tDGet (tVar 2) (tVar 3)) tNil))) rfl nd (pi_list (pe_callB (call_sortedDI rfl) (by rfl) Y.sorted (by decide +kernel) (pa_cons (pv 2) pa_nil))) (blkOk_by (N := ["facts", "places", "found", "k"]) (sc := defScope sSummed) (by decide +kernel)) (fun _ _ _ _ _ => pg_name (i := 3) nd rfl (Or.inl rfl)) (fun _ _ _ _ _ => pts_nil)
          (fun _ _ _ _ _ => pe_tup (pa_cons (pe_ix ix_list (pv 1) (pv 3) (fun _ _ => rfl)) (pa_cons (pe_dget hu1 (pv 2) (pv 3) (fun _ _ => rfl)) pa_nil)))) pa_nil)) pa_nil))))))), ?_⟩
    have hfmem : ∀ {k : Nat} {f : Fm}, fcF fcs k = some f → ∃ x, fcs[k]? = some x ∧ x ∈ fcs ∧ x.f = some f := fun {k f} e => by
      unfold fcF at e
      cases ex : fcs[k]? with
      | none => rw [ex] at e; cases e
      | some x => rw [ex] at e; exact ⟨x, rfl, List.mem_of_getElem? ex, e⟩
    -- places
    refine q_setE ?_
    refine ⟨_, rfl, q, _, rfl, .inl (SqL.of hq), ((fcs.map fun x => V.ref x.a).length : Int), rfl, by omega, by rw [List.length_map]; omega, fun D1 nD1 => ?_⟩
    have e0 : ((fcs.map fun x => V.ref x.a).length : Int).toNat = fcs.length := by rw [Int.toNat_natCast, List.length_map]
    rw [e0]
    refine lc_range0 (fun i H' => H' = upd H D1 (.lst ((lsTo fcs i).map fun z => V.int (z.1 : Nat)))) rfl ?_ ?_
    · rintro i H' hi rfl
      have hx : fcs[i]? = some fcs[i] := List.getElem?_eq_getElem hi
      have ok := (hfc fcs[i] (List.getElem_mem hi)).tk (Tk.new (u := .lst ((lsTo fcs i).map fun z => V.int (z.1 : Nat))) nD1)
      have hqD : (upd H D1 (.lst ((lsTo fcs i).map fun z => V.int (z.1 : Nat)))) q = some (.lst (fcs.map fun x => .ref x.a)) := by rw [upd_ne (ne_of_none hq nD1)]; exact hq
      have eF : fcF fcs i = fcs[i].f := by unfold fcF; rw [hx]; rfl
      have hl60 : (lsTo fcs i).length ≤ 1000 := by have := lsTo_len fcs i; omega
      refine ⟨rfl, ?_⟩
      rw [lsTo_succ, eF]
      cases ef : fcs[i].f with
      | some f =>
        refine ⟨_, rfl, _, rfl, q, _, (i : Int), .ref fcs[i].a, rfl, rfl, SqL.of hqD, at_of rfl (by rw [List.getElem?_map, hx]; rfl), fcs[i].a, [.str "least", .ref f.a], 0, .str "least", rfl, rfl, .inl (ok.least ef).1, rfl, rfl, ⟨_, rfl, ?_⟩⟩
        refine iteT ⟨_, rfl, _, upd_same, ?_, ?_⟩
        · rw [List.length_map]; exact small100 hl60
        · rw [upd_upd, List.map_append]; rfl
      | none =>
        obtain ⟨xs, hhd⟩ := ok.headE ef
        refine ⟨_, rfl, _, rfl, q, _, (i : Int), .ref fcs[i].a, rfl, rfl, SqL.of hqD, at_of rfl (by rw [List.getElem?_map, hx]; rfl), fcs[i].a, .str "each" :: xs, 0, .str "each", rfl, rfl, .inl hhd, at_of (j := 0) rfl rfl, rfl, ⟨_, rfl, ?_⟩⟩
        refine iteF ?_
        show upd H D1 _ = _
        rw [List.append_nil]
    · rintro H' rfl
      have lsL : (lsTo fcs fcs.length).length ≤ 60 := Nat.le_trans (lsTo_len _ _) h60
      have hD : (upd H D1 (.lst ((lsTo fcs fcs.length).map fun z => V.int (z.1 : Nat)))) D1 = some (.lst ((lsTo fcs fcs.length).map fun z => V.int (z.1 : Nat))) := upd_same
      have s1 : Same H (upd H D1 (.lst ((lsTo fcs fcs.length).map fun z => V.int (z.1 : Nat)))) := same_upd nD1
      generalize (upd H D1 (.lst ((lsTo fcs fcs.length).map fun z => V.int (z.1 : Nat)))) = H1 at hD s1 ⊢
      -- Table(..)
      have hmem : ∀ z ∈ lsTo fcs fcs.length, ∃ x, fcs[z.1]? = some x ∧ x ∈ fcs ∧ x.f = some z.2 := fun z hz => hfmem (mem_lsTo.mp hz).2
      refine q_setE ?_
      refine ⟨_, rfl, D1, rfl, ⟨_, SqL.of hD⟩, fun D2 nD2 => lcM_in (K := K) (lsTo fcs fcs.length) (fun z => V.int (z.1 : Nat)) (fun z => V.ref z.2.a) hD (by omega) (by intro x; rfl) (fun z H' hz s' => ?_) nD2 ?_⟩
      · obtain ⟨x, e1, e2, e3⟩ := hmem z hz
        have ok := (hfc x e2).tk (Tk.of (s1.trans s'))
        intro Q hQ
        exact ⟨_, rfl, _, rfl, q, _, (z.1 : Int), .ref x.a, rfl, rfl, SqL.of (s' _ _ (s1 _ _ hq)), at_of rfl (by rw [List.getElem?_map, e1]; rfl), x.a, _, 1, .ref z.2.a, rfl, rfl, .inl (ok.least e3).1, rfl, hQ⟩
      have hD2 : (upd H1 D2 (.lst ((lsTo fcs fcs.length).map fun z => V.ref z.2.a))) D2 = some (.lst ((lsTo fcs fcs.length).map fun z => V.ref z.2.a)) := upd_same
      have s2 : Same H (upd H1 D2 (.lst ((lsTo fcs fcs.length).map fun z => V.ref z.2.a))) := s1.trans (same_upd nD2)
      have hDp : (upd H1 D2 (.lst ((lsTo fcs fcs.length).map fun z => V.ref z.2.a))) D1 = some (.lst ((lsTo fcs fcs.length).map fun z => V.int (z.1 : Nat))) := by rw [upd_ne (ne_of_none hD nD2)]; exact hD
      generalize (upd H1 D2 (.lst ((lsTo fcs fcs.length).map fun z => V.ref z.2.a))) = H2 at hD2 s2 hDp ⊢
      intro x dx hx0 hdx0 hdx
      have s3 : Same H2 (upd (upd H2 dx (.own x)) x (.ins C dx [])) := fun c o h => by rw [upd_ne (ne_of_none h hx0), upd_ne (ne_of_none h hdx0)]; exact h
      have hfm : ∀ f ∈ (lsTo fcs fcs.length).map (·.2), FmOk (upd (upd H2 dx (.own x)) x (.ins C dx [])) W f ∧ Big (10 ^ 11) f := fun f hf => by
        obtain ⟨z, hz, rfl⟩ := List.mem_map.mp hf
        obtain ⟨y, e1, e2, e3⟩ := hmem z hz
        exact ⟨((hfc y e2).least e3).2.tk (Tk.of (s2.trans s3)), hbig y e2 _ e3⟩
      refine ⟨x, dx, D2, (lsTo fcs fcs.length).map (·.2), W, rfl, upd_same, by rw [s3 _ _ hD2, List.map_map]; rfl, fun f hf => (hfm f hf).1, hW, CW, by rw [List.length_map]; omega, fun H3 r b as tk htl htk htn X hr0 hb0 fr => ⟨rfl, ?_⟩⟩
      have hbK : ∀ j i, ((cfJ ((lsTo fcs fcs.length).map (·.2)) tk j i).natAbs) ≤ 10 ^ 11 := fun j i => by
        unfold cfJ
        cases ef : ((lsTo fcs fcs.length).map (·.2))[j]? with
        | none => simp
        | some f =>
          show (cfP f.es (tk.getD i .none)).natAbs ≤ _
          have hb := (hfm f (List.mem_of_getElem? ef)).2.2
          unfold cfP
          cases eg : f.es.find? fun e => decide (e.k = tk.getD i .none) with
          | none => simp
          | some e => exact hb e (List.mem_of_find?_eq_some eg)
      have hbC : ∀ j, (cstJ ((lsTo fcs fcs.length).map (·.2)) j).natAbs ≤ 10 ^ 11 := fun j => by
        unfold cstJ
        cases ef : ((lsTo fcs fcs.length).map (·.2))[j]? with
        | none => simp
        | some f => exact (hfm f (List.mem_of_getElem? ef)).2.1
      have hln : ((lsTo fcs fcs.length).map (·.2)).length ≤ 60 := by rw [List.length_map]; exact lsL
      have hlm : ((lsTo fcs fcs.length).map (·.2)).length = (lsTo fcs fcs.length).length := List.length_map ..
      obtain ⟨dx', hpx⟩ := X.ob
      have s4 : Same H2 H3 := fun c o h => fr c o (s3 c o h) (ne_of_none h hx0)
      have rN : H2 r = none := s3.free hr0
      have bN : H2 b = none := s3.free hb0
      -- from sums over the least facts to sums over all
      have hcf0 : ∀ t k, fcF fcs k = none → cfA fcs t k = 0 := fun t k e => by unfold cfA; rw [e]; rfl
      have hc0 : ∀ k, fcF fcs k = none → cA fcs k = 0 := fun k e => by unfold cA; rw [e]; rfl
      have hat : ∀ j, j < (lsTo fcs fcs.length).length → ∃ z, (lsTo fcs fcs.length)[j]? = some z ∧ fcF fcs z.1 = some z.2 ∧ z.1 < fcs.length := fun j hj => ⟨_, List.getElem?_eq_getElem hj, (mem_lsTo.mp (List.getElem_mem hj)).2, (mem_lsTo.mp (List.getElem_mem hj)).1⟩
      have hcfJ : ∀ j i, j < (lsTo fcs fcs.length).length → cfJ ((lsTo fcs fcs.length).map (·.2)) tk j i = cfA fcs (tk.getD i .none) ((((lsTo fcs fcs.length)[j]?).map (·.1)).getD 0) := fun j i hj => by
        obtain ⟨z, e1, e2, _⟩ := hat j hj
        unfold cfJ cfA
        rw [List.getElem?_map, e1]
        show z.2.cf _ = ((fcF fcs z.1).map _).getD 0
        rw [e2]; rfl
      have hcJ : ∀ j, j < (lsTo fcs fcs.length).length → cstJ ((lsTo fcs fcs.length).map (·.2)) j = cA fcs ((((lsTo fcs fcs.length)[j]?).map (·.1)).getD 0) := fun j hj => by
        obtain ⟨z, e1, e2, _⟩ := hat j hj
        unfold cstJ cA
        rw [List.getElem?_map, e1]
        show z.2.c = ((fcF fcs z.1).map _).getD 0
        rw [e2]; rfl
      have hout : ∀ t, t ∉ tk → ∀ k, cfA fcs t k = 0 := fun t ht k => by
        unfold cfA
        cases ef : fcF fcs k with
        | none => rfl
        | some f =>
          show cfP f.es t = 0
          have hk : k < fcs.length := by
            obtain ⟨x, e1, _⟩ := hfmem ef
            exact (List.getElem?_eq_some_iff.mp e1).1
          have hm : f ∈ (lsTo fcs fcs.length).map (·.2) := List.mem_map.mpr ⟨(k, f), mem_lsTo.mpr ⟨hk, ef⟩, rfl⟩
          unfold cfP
          cases eg : f.es.find? fun e => decide (e.k = t) with
          | none => rfl
          | some e =>
            have h1 := htk f hm e (List.mem_of_find?_eq_some eg)
            have h2 : e.k = t := by have := List.find?_some eg; simpa using this
            exact absurd (by rw [← h2]; exact h1) ht
      refine ⟨x, dx', _, rfl, hpx, tf_no _ _ _ (by decide +kernel) (by decide +kernel) (by decide +kernel), x, r, b, _, tk.length + 1, 10 ^ 11, _, as, _, _, _, rfl, X, by omega, by omega, org0 (by decide) (fun j i _ _ => hbK j i) (fun j _ => hbC j), ?_, lnk0 (by decide) (fun j i _ _ => hbK j i) (fun j _ => hbC j) ?_, fun H4 N fr4 => ?_, fun fd ps H4 S hfd0 hfd fr4 => ?_⟩
      · have : (tk.length + 1) * 10 ^ 11 ≤ 13 * 10 ^ 11 := Nat.mul_le_mul (by omega) (Nat.le_refl _)
        have e42 : (2 : Nat) ^ 42 = 4398046511104 := by decide
        rw [e42]
        omega
      · have : (10 : Nat) ^ 11 ≤ 2 ^ 42 := by decide
        exact Nat.le_trans this (Nat.pow_le_pow_right (by omega) (by omega))
      · have s5 : Same H H4 := fun c o h => fr4 c o (s4 _ _ (s2 c o h)) (fun z => by rw [z] at h; have := s2 _ _ h; rw [rN] at this; cases this) (fun z => by rw [z] at h; have := s2 _ _ h; rw [bN] at this; cases this)
        refine q_if (ans_isN (b := true) vn rfl) (iteT (kN H4 (fun lam hl h0 h1 => ?_) s5))
        have key : ∀ g : Nat → Int, (∀ k, fcF fcs k = none → g k = 0) → si ((lsTo fcs fcs.length).map (·.2)).length (fun j => lam ((((lsTo fcs fcs.length)[j]?).map (·.1)).getD 0) * g ((((lsTo fcs fcs.length)[j]?).map (·.1)).getD 0)) = si fcs.length fun k => lam k * g k := fun g hg => by
          rw [hlm, ← si_ls fcs (fun k => lam k * g k) (fun k e => by rw [hg k e, Int.mul_zero]), ← si_list (fun z : Nat × Fm => lam z.1 * g z.1) (0, ⟨0, 0, 0, []⟩)]
          exact si_congr fun j hj => by
            rw [List.getD_eq_getElem?_getD, List.getElem?_eq_getElem hj]; rfl
        refine none_plain N (fun j => lam ((((lsTo fcs fcs.length)[j]?).map (·.1)).getD 0)) (fun j hj => ?_) (fun i hi => ?_) ?_
        · obtain ⟨z, e1, e2, e3⟩ := hat j (by rw [← hlm]; exact hj)
          rw [e1]; exact hl _ e3
        · rw [← h0 (tk.getD i .none), ← key (cfA fcs (tk.getD i .none)) (hcf0 _)]
          exact si_congr fun j hj => by rw [hcfJ j i (by rw [← hlm]; exact hj)]
        · rw [← key (cA fcs) hc0] at h1
          rw [si_congr fun j hj => by rw [hcJ j (by rw [← hlm]; exact hj)]]
          exact h1
      · have s5 : Same H H4 := fun c o h => fr4 c o (s4 _ _ (s2 c o h)) (fun z => by rw [z] at h; have := s2 _ _ h; rw [rN] at this; cases this) (fun z => by rw [z] at h; have := s2 _ _ h; rw [bN] at this; cases this)
        have hD14 : H4 D1 = some (.lst ((lsTo fcs fcs.length).map fun z => V.int (z.1 : Nat))) := fr4 _ _ (s4 _ _ hDp) (fun z => by rw [z, rN] at hDp; cases hDp) (fun z => by rw [z, bN] at hDp; cases hDp)
        refine q_if (ans_isN (b := false) vn rfl) (iteF ?_)
        have hpsl : ps.length ≤ 60 := by
          have := nodup_le _ (List.range ((lsTo fcs fcs.length).map (·.2)).length) S.nd fun x hx => by
            obtain ⟨q, m, rfl⟩ := List.mem_map.mp hx
            exact List.mem_range.mpr (S.ok q m).1
          rw [List.length_map, List.length_range] at this
          omega
        have hkeys : (dK ps).map (·.1) = (ps.map fun q => (q.1 : Int)).map Sum.inl := by unfold dK; rw [List.map_map, List.map_map]; rfl
        have hknd : ((dK ps).map (·.1)).Nodup := by
          unfold dK
          rw [List.map_map]
          have h1 := S.nd
          rw [List.nodup_iff_pairwise_ne, List.pairwise_map] at h1 ⊢
          exact h1.imp fun {a b} h z => h (by have := Sum.inl.inj z; exact Int.ofNat.inj this)
        refine ⟨_, rfl, fd, dK ps, ps.map fun q => (q.1 : Int), rfl, .inl hfd, hkeys, by rw [List.length_map]; omega, fun ys l hperm hsort hl => ?_⟩
        obtain ⟨rs, hrs, rfl⟩ := perm_map_ex (fun q : Nat × Int => (q.1 : Int)) hperm ps rfl
        have s6 : Same H4 (upd H4 l (.lst ((rs.map fun q => (q.1 : Int)).map V.int))) := same_upd hl
        have hl6 : (upd H4 l (.lst ((rs.map fun q => (q.1 : Int)).map V.int))) l = some (.lst ((rs.map fun q => (q.1 : Int)).map V.int)) := upd_same
        generalize upd H4 l (.lst ((rs.map fun q => (q.1 : Int)).map V.int)) = H5 at s6 hl6 ⊢
        refine ⟨l, rfl, ⟨_, SqL.of hl6⟩, fun D3 nD3 => lc_list (K := K) (a := l) (xs := (rs.map fun q => (q.1 : Int)).map V.int)
          (fun i H' => Same H5 H' ∧ ∃ prs : List (Addr × Nat × Int), prs.map (·.2) = (rs.take i).map (fun r => ((((lsTo fcs fcs.length)[r.1]?).map (·.1)).getD 0, r.2)) ∧ H' D3 = some (.lst (prs.map fun p => V.ref p.1)) ∧ ∀ p ∈ prs, H' p.1 = some (.tup [.int (p.2.1 : Nat), .int p.2.2]))
          ⟨same_upd nD3, [], rfl, upd_same, fun p hp => (nomatch hp)⟩ (fun i H' _ ⟨e, _⟩ => SqL.of (e _ _ hl6)) ?_ ?_⟩
        · rintro i x H' hi ⟨e, prs, e1, e2, e3⟩
          rw [List.map_map, List.getElem?_map] at hi
          cases er : rs[i]? with
          | none => rw [er] at hi; cases hi
          | some r =>
            rw [er] at hi
            cases hi
            have hrm : r ∈ ps := hrs.mem_iff.mp (List.mem_of_getElem? er)
            obtain ⟨z, z1, z2, z3⟩ := hat r.1 (by rw [← hlm]; exact (S.ok r hrm).1)
            refine ⟨rfl, ?_⟩
            refine ⟨_, rfl, _, rfl, D1, _, (r.1 : Int), .int (z.1 : Nat), rfl, rfl, SqL.of (e _ _ (s6 _ _ hD14)), at_of rfl (by rw [List.getElem?_map, z1]; rfl), _, rfl, _, rfl, fd, .int r.2, rfl, ?_, ?_, fun a ha => ⟨prs.map fun p => V.ref p.1, ?_, ?_, ?_, ?_⟩⟩
            · have hv := val_nodup hknd (Sum.inl (r.1 : Int), V.int r.2) (by unfold dK; exact List.mem_map.mpr ⟨r, hrm, rfl⟩)
              rw [← hv]
              exact DGet.k (k := Sum.inl (r.1 : Int)) (e _ _ (s6 _ _ hfd))
            · show 2 ≤ sizeLine; decide
            · rw [upd_ne (ne_of_none e2 ha)]; exact e2
            · rw [List.length_map]
              have h1 := congrArg List.length e1
              rw [List.length_map, List.length_map, List.length_take] at h1
              have h2 := hrs.length_eq
              exact small100 (by omega)
            · intro c o h
              have h1 := e c o h
              rw [upd_ne (ne_of_none h nD3), upd_ne (ne_of_none h1 ha)]; exact h1
            · have hDa : D3 ≠ a := ne_of_none e2 ha
              refine ⟨prs ++ [(a, z.1, r.2)], ?_, ?_, fun p hp => ?_⟩
              · rw [List.map_append, e1, take_succ_get er, List.map_append]
                congr 1
                show [(z.1, r.2)] = [(_, r.2)]
                rw [z1]; rfl
              · rw [upd_same, List.map_append]; rfl
              · rcases List.mem_append.mp hp with m | m
                · have h1 := e3 p m
                  have h2 : p.1 ≠ D3 := fun y => by rw [y, e2] at h1; cases h1
                  rw [upd_ne h2, upd_ne (ne_of_none h1 ha)]; exact h1
                · rw [List.mem_singleton] at m
                  subst m
                  rw [upd_ne (Ne.symm hDa), upd_same]
        · rintro H' ⟨e, prs, e1, e2, e3⟩
          rw [List.length_map, List.length_map, List.take_of_length_le (Nat.le_refl _)] at e1
          refine ⟨D3, _, rfl, .inl ⟨SqL.of e2, fun tp htp => ⟨by show 2 ≤ sizeLine; decide, fun a ha => ?_⟩⟩⟩
          have htpa : tp ≠ a := fun z => by rw [← z, upd_same] at ha; cases ha
          have st : Same H' (upd H' tp (.tup (prs.map fun p => V.ref p.1))) := same_upd htp
          refine kF _ _ (prs.map (·.2)) ?_ ⟨a, tp, prs, rfl, .inl upd_same, .inl (by rw [upd_ne htpa, upd_same]), rfl, fun p hp => .inl ?_⟩ fun c o h => ?_
          · rw [e1]
            have hpl : ∀ j, j < (lsTo fcs fcs.length).length → ∀ f : Nat → Int, f ((((lsTo fcs fcs.length)[j]?).map (·.1)).getD 0) = f ((((lsTo fcs fcs.length)[j]?).map (·.1)).getD 0) := fun _ _ _ => rfl
            have hsum : ∀ f : Nat → Int, sumL (rs.map fun r => ((((lsTo fcs fcs.length)[r.1]?).map (·.1)).getD 0, r.2)) f = sumL ps fun j => f ((((lsTo fcs fcs.length)[j]?).map (·.1)).getD 0) := fun f => by
              rw [sumL_map (fun j => (((lsTo fcs fcs.length)[j]?).map (·.1)).getD 0) f rs, sumL_perm hrs]
            obtain ⟨p1, p2⟩ := found_plain S
            have hok : ∀ r ∈ rs, r.1 < (lsTo fcs fcs.length).length ∧ 0 < r.2 ∧ Fit 8000 r.2 := fun r hr => by
              obtain ⟨a1, a2, a3⟩ := S.ok r (hrs.mem_iff.mp hr)
              exact ⟨by rw [← hlm]; exact a1, a2, a3⟩
            refine ⟨?_, fun q hq => ?_, fun t => ?_, ?_⟩
            · rw [List.map_map, List.pairwise_map]
              have h1 := hsort
              rw [List.pairwise_map] at h1
              have h2 : rs.Pairwise fun a b => a.1 ≠ b.1 := by
                have h3 := ((hrs.map (·.1)).nodup_iff).mpr S.nd
                rw [List.nodup_iff_pairwise_ne, List.pairwise_map] at h3
                exact h3
              refine (h1.and h2).imp_of_mem fun {a b} ha hb ⟨h3, h4⟩ => ?_
              have hab : a.1 < b.1 := by omega
              have hbl := (hok b hb).1
              have hu := lsTo_up fcs fcs.length
              rw [List.pairwise_map, List.pairwise_iff_getElem] at hu
              have := hu a.1 b.1 (by omega) hbl hab
              show (((lsTo fcs fcs.length)[a.1]?).map (·.1)).getD 0 < (((lsTo fcs fcs.length)[b.1]?).map (·.1)).getD 0
              rw [List.getElem?_eq_getElem hbl, List.getElem?_eq_getElem (show a.1 < _ by omega)]
              exact this
            · obtain ⟨r, hr, rfl⟩ := List.mem_map.mp hq
              obtain ⟨a1, a2, a3⟩ := hok r hr
              obtain ⟨z, z1, z2, _⟩ := hat r.1 a1
              exact ⟨by show (fcF fcs ((((lsTo fcs fcs.length)[r.1]?).map (·.1)).getD 0)).isSome = true; rw [z1]; show (fcF fcs z.1).isSome = true; rw [z2]; rfl, a2, a3⟩
            · rw [hsum]
              by_cases ht : t ∈ tk
              · obtain ⟨i, hi, z⟩ := List.getElem_of_mem ht
                have := p1 i hi
                rw [← this]
                refine sumL_congr fun q hq => ?_
                rw [hcfJ q.1 i (by rw [← hlm]; exact (S.ok q hq).1), List.getD_eq_getElem?_getD, List.getElem?_eq_getElem hi, z]; rfl
              · exact (sumL_congr (ps := ps) (f := fun j => cfA fcs t ((((lsTo fcs fcs.length)[j]?).map (·.1)).getD 0)) (g := fun _ => 0) fun q _ => hout t ht _).trans (sumL_zero _)
            · rw [hsum]
              exact (sumL_congr (ps := ps) (f := cstJ ((lsTo fcs fcs.length).map (·.2))) (g := fun j => cA fcs ((((lsTo fcs fcs.length)[j]?).map (·.1)).getD 0)) fun q hq => hcJ q.1 (by rw [← hlm]; exact (S.ok q hq).1)) ▸ p2
          · have h1 := st _ _ (e3 p hp)
            rw [upd_ne (ne_of_none h1 ha)]; exact h1
          · have h1 := st _ _ (e _ _ (s6 _ _ (s5 c o h)))
            rw [upd_ne (ne_of_none h1 ha)]; exact h1
end
end K47
end
section
set_option Elab.async false
set_option maxRecDepth 100000
set_option maxHeartbeats 4000000
set_option autoImplicit false
/-! Defs that show values by repr: they run where nothing is being shown. -/
namespace K47
open PySem L2 PySem.Spec PyProof.Rows
/-- a def's promise, where nothing is being shown -/
structure FnG (P : Program) (w : World) (K : PySem.W.Frag) (mg : Str → Option Value) (base : Heap) (k : Nat) (f : Addr) (fd : FuncData) (ps : List Str) (sp : Sp) : Prop where
  len : ∀ vs H Q E, sp vs H Q E → vs.length = ps.length
  run : ∀ (A : Around) (fr : List Env) (s : Shared) (H : Hp) (args : Args) (us : List Value) (vs : List V) (Q : VK) (E : XK), A.guards = some [] → Room k A → Env0 P w K mg base A fr s H → BindsTo s fd args (ps.zip us) → Vals vs us → sp vs H Q E →
    codeAny (model P w) A (.call (.ref f) args) (CR CX0 fr P w H s Q E) s
section
variable {P : Program} {w : World} {K : PySem.W.Frag} {mg : Str → Option Value} {base : Heap} {k : Nat} {f : Addr} {fd : FuncData} {ps N : List Str} {sp : Sp}
theorem FnG.mono {j : Nat} (F : FnG P w K mg base j f fd ps sp) (h : j ≤ k) : FnG P w K mg base k f fd ps sp := ⟨F.len, fun A fr s H args us vs Q E g hr => F.run A fr s H args us vs Q E g (hr.mono h)⟩
theorem deeper_guards {A : Around} {env : Env} (h : A.guards = some []) : (A.deeper env).guards = some [] := h
theorem Fun_okG {x qual : Str} {st : Stmt} (F : Fun K x qual st f fd) (S : FnScope N ps (defScope st)) (len : ∀ vs H Q E, sp vs H Q E → vs.length = ps.length)
    (body : ∀ (cdv : Value) (A : Around) (fr : List Env) (s : Shared) (H : Hp) (vs : List V) (Q : VK) (E : XK), A.guards = some [] → Room k (A.deeper (envOfC qual (defScope st) s.heap.objs.size f cdv)) → sp vs H Q E →
      ∃ t, PSs (cxOf CX0 P w K mg base N qual (defScope st) f cdv A fr s H E).nox (defBody st) t ∧ t { nx := fun _ H' => Q .non H', rt := Q } (start N vs) H) : FnG P w K mg base (k + 1) f fd ps sp := by
  obtain ⟨oc, od, kV, doc, pm, an, cdv, ct, osl, rfl, lk, hcode⟩ := F.ex
  constructor
  · exact len
  intro A fr s H args us vs Q E gd room en bnd rel want
  have nargs := len _ _ _ _ want
  have kin : K.In s.heap := en.mod.kin.keeps fun c o z => (en.bs c o z).1
  have lim : s.heap.NoLimit := en.mod.nolimit.keeps fun c o z => (en.bs c o z).1
  have kinds : ∀ z ∈ ps.zip us, (defScope st).names.lookup z.1 = some .local ∨ ((defScope st).names.lookup z.1 = some .cell ∧ ((cellsFrom (s.heap.objs.size + 1) (defScope st).names []).lookup z.1).isSome = true) := by
    rintro ⟨n, v⟩ hz
    exact (S.par n (List.of_mem_zip hz).1).imp id fun c => ⟨c, PySem.W.cellsFrom_some _ _ _ (.inl c)⟩
  have kd : K.In s.heap ∧ True := ⟨kin, trivial⟩
  refine codeAny_call_function room.depth (kin _ _ lk) rfl S.co S.gen rfl (PySem.W.codeRec_of kin hcode) (bnd _ _ _ _ ?_)
  refine wpAny_newFunctionEnv_cells S.kind kinds ?_
  rintro env rfl s1 nx
  refine ⟨lim.keeps nx.toInCall.keep, codeAny_func ?_⟩
  obtain ⟨t, red, go⟩ := body cdv A fr s H vs Q E gd (room.deeper _) want
  have inv : Inv (cxOf CX0 P w K mg base N qual (defScope st) f cdv A fr s H E) [] (start N vs) H s1 := inv_start S room.hd en nargs rel nx
  have out : ∀ {σ' : L2.St} {H' : Hp} {v : V} {u : Value} {s' : Shared}, Inv (cxOf CX0 P w K mg base N qual (defScope st) f cdv A fr s H E) [] σ' H' s' → RelV v u → Q v H' → CE fr P w H s Q u s' := fun {_ H' v _ _} J r q => ⟨v, H', J.os, J.bare, J.base, J.hok, r, q⟩
  refine wpAny_mono (red.nox.run [] s1 (start N vs) H _ inv go) (fun fl s' hs => ?_) fun _ _ hs => hs
  match fl, hs with
  | .ret u, ⟨v, σ', H', J, r, q⟩ => exact out J r q
  | .next, ⟨σ', H', J, q⟩ => exact out (v := V.non) (u := Value.none) J rfl q
  | .brk, ⟨_, _, _, q⟩ => exact q.elim
  | .cont, ⟨_, _, _, q⟩ => exact q.elim
end
/-- a def of the module that keeps its promise where nothing is being shown -/
def CalG (P : Program) (w : World) (K : PySem.W.Frag) (mg : Str → Option Value) (base : Heap) (x : Str) (k : Nat) (ps : List Str) (sp : Sp) : Prop := ∃ (f : Addr) (fd : FuncData), FnG P w K mg base k f fd ps sp ∧ mg x = some (.ref f) ∧ PySem.W.keepIn K (.ref f) = true ∧ Binds K fd ps []
section
variable {P : Program} {w : World} {K : PySem.W.Frag} {mg : Str → Option Value} {base : Heap}
theorem Df.calG {x : Str} {st : Stmt} {N ps : List Str} {k : Nat} {sp : Sp} (D : Df K mg x st ps) (S : FnScope N ps (defScope st)) (len : ∀ vs H Q E, sp vs H Q E → vs.length = ps.length)
    (hbody : ∀ (qual : Str) (f : Addr) (cdv : Value) (A : Around) (outer : List Env) (s : Shared) (H : Hp) (vs : List V) (Q : VK) (E : XK), A.guards = some [] → Room k (A.deeper (envOfC qual (defScope st) s.heap.objs.size f cdv)) → sp vs H Q E →
      ∃ t, PSs (cxOf CX0 P w K mg base N qual (defScope st) f cdv A outer s H E).nox (defBody st) t ∧ t { nx := fun _ H' => Q .non H', rt := Q } (start N vs) H) : CalG P w K mg base x (k + 1) ps sp := by
  obtain ⟨f, fd, F, m, b⟩ := D.ex
  exact ⟨f, fd, Fun_okG F S len (hbody x f), m, F.kp, b⟩
end
section
variable {X : Cx}
theorem pe_callG {k : Nat} {f : Addr} {fd : FuncData} {ps : List Str} {sp : Sp} {x : Str} {p pos : Pos} {e : Expr} {es : List Expr} {t : TA} (F : FnG X.prog X.w X.K X.mg X.base k f fd ps sp) (gd : X.A.guards = some []) (hr : Room k X.A) (hg : Gl X x) (hm : X.mg x = some (.ref f)) (hk : PySem.W.keepIn X.K (.ref f) = true) (hb : Binds X.K fd ps [])
    (ha : PA X (e :: es) t) (hdb : (x == ("__debug__" : Str)) = false := by decide) (he : starEach (e :: es) X.env = (false, eval e X.env) :: starEach es X.env := by rfl) (hpl : (backTo pos (starEach es X.env)).any (·.1) = false := by rfl) :
    PE X (.Call (.Name x p) (e :: es) [] pos) (tCall sp [] E0 t) := by
  constructor
  intro pins s σ H Q I h
  refine wpAny_Call_Name_kw (ld_glob I hg hm ?_ hdb)
  refine PySem.W.callWith_K (h₀ := X.base) I.ok.mod.kin hk (thn (ha.run pos pins s σ H _ I h) ?_) he hpl
  rintro us s1 ⟨vs, H1, I1, rel, want⟩
  refine ⟨I1.kIn, ?_⟩
  rw [List.append_nil] at want
  have nl : us.length = ps.length := by rw [← rel.length]; exact F.len _ _ _ _ want
  have bn := hb s1 us I1.kIn (by rw [List.append_nil]; exact nl)
  rw [List.append_nil] at bn
  refine wpAny_call (codeAny_mono (F.run X.A X.stack s1 H1 ⟨us, []⟩ us vs Q E0 gd hr I1.env0 bn rel want) ?_)
  intro r s' out
  match r, out with
  | .error _, o => exact o.elim
  | .ok (.ret _), o => exact I1.after o
  | .ok .next, o => exact o.elim
  | .ok .brk, o => exact o.elim
  | .ok .cont, o => exact o.elim
/-- repr of nested data -/
def rRepr : List V → Hp → VK → Prop := fun xs H Q => ∃ x k, xs = [x] ∧ KD H k x ∧ (∃ ks, k = .tup ks) ∧ k.data.showable = true ∧ k.data.hasDict = false ∧ k.depth ≤ 8 ∧ k.data.shown.length ≤ sizeLine ∧ Q (.str k.data.shown) H
theorem cr_repr (gd : X.A.guards = some []) (hu : X.A.units + 64 < cLine) : CallR X (.builtin "repr") rRepr := by
  intro pins s σ H xs us Q I r h
  obtain ⟨x, k, rfl, kd, ⟨ks, rfl⟩, h1, h2, h3, h4, q⟩ := h
  obtain ⟨u, rfl, ru⟩ := vals1 r
  obtain ⟨a, vs, rfl, _⟩ := kd.tup_inv
  obtain rfl : u = Value.ref a := ru
  obtain ⟨as, rd⟩ := Dp.reads I _ _ (.ref a) (kd.dp (K := X.K)) rfl
  refine repr_of_reads' rd h1 (fun z => by rw [h2] at z; cases z) gd (by rw [depth_data]; omega) (fun _ _ e => e) (fun h' u tk hk => ?_) h4
  exact ⟨.str _, H, I.kept (t' := tk) hk, ⟨u, rfl⟩, q⟩
end
end K47
end
section
set_option Elab.async false
set_option maxRecDepth 100000
set_option maxHeartbeats 4000000
set_option autoImplicit false
/-! The law's call, where nothing is being shown. -/
namespace K47
open PySem L2 PySem.Spec PyProof.Rows
/-- the script's own heap: nothing, or the script alone -/
theorem lawG_core {P : Program} {w : World} {K : PySem.W.Frag} {mg mb : Str → Option Value} {k : Nat} {fa a : Addr} {fd : FuncData} {x : Str} {sp : Sp} {s₁ : Shared} {vs : List Value}
    (kin : K.In s₁.heap) (gl : s₁.heap.Ns mainGlobals mg) (bl : s₁.heap.Ns builtinsNs mb) (bb : ∀ x : Str, x ≠ "__name__" → mb x = bootBuiltins x) (lim : s₁.heap.NoLimit) (gens : s₁.gens = #[])
    (ha : s₁.heap.get? a = some { cls := .type "list", data := .seq vs.toArray }) (room : Room k callerA)
    (F : ∀ base : Heap, K.In base → base.Ns mainGlobals mg → FnG P w K mg base k fa fd [x] sp) (bind : ∀ (s : Shared) (u : Value), BindsTo s fd ⟨[u], []⟩ [(x, u)])
    (H : Hp) (only : Only H) (want : sp [.ref a] H (fun v _ => v = .bl true) fun _ _ _ => False) (ok : HOk P w H s₁.heap) (hA : ∀ b, H b ≠ none → b = a) (hK : H a ≠ none → K.lookup a = none) :
    codeAny (model P w) callerA (.call (.ref fa) ⟨[.ref a], []⟩) (fun r s' => r = .ok (.ret (.bool true)) ∧ OldK s₁.heap s'.heap ∧ s'.os = s₁.os ∧ AllBare s'.gens) s₁ := by
  have here : ∀ {b : Addr}, H b ≠ none → b = a := fun {b} z => hA b z
  have hid : ∀ {b : Addr} {o : Obj}, s₁.heap.get? b = some o → H b = none → (hidT s₁.heap H).get? b = some o := fun e n => hidT_get e n
  have dictN : ∀ {b : Addr} {o : Obj} {es : Array DictEntry} {ep : Nat}, s₁.heap.get? b = some o → o.data = .dict es ep → H b = none := by
    intro b o es ep e d
    apply Classical.byContradiction
    intro z
    rw [here z, ha] at e
    cases e
    cases d
  have names : ∀ {b : Addr} {m : Str → Option Value}, s₁.heap.Ns b m → (hidT s₁.heap H).Ns b m := by
    rintro b m ⟨o, es, ep, e, d, r⟩
    exact ⟨o, es, ep, hid e (dictN e d), d, r⟩
  have kb : K.In (hidT s₁.heap H) := by
    intro b o e
    refine hid (kin b o e) (Classical.byContradiction fun z => ?_)
    have eb := here z
    subst eb
    rw [hK z] at e
    cases e
  have md : Mod K mg (hidT s₁.heap H) := ⟨kb, names gl, ⟨mb, names bl, bb⟩, lim.imp fun mc z => ⟨names z.1, z.2⟩⟩
  have en : Env0 P w K mg (hidT s₁.heap H) callerA [] s₁ H :=
    { frames := rfl, mod := md, bs := fun _ _ e => of_hidT e, bsz := Nat.le_of_eq (hidT_size _ _), funs := trivial, frf := fun _ hb => (nomatch hb), hok := ok, bare := .of_eq gens }
  refine codeAny_mono ((F _ kb (names gl)).run callerA [] s₁ H ⟨[.ref a], []⟩ [.ref a] [.ref a] _ _ rfl room en (bind s₁ (.ref a)) (.cons rfl .nil) want) ?_
  intro r s' out
  match r, out with
  | .error _, o => exact o.elim
  | .ok .next, o => exact o.elim
  | .ok .brk, o => exact o.elim
  | .ok .cont, o => exact o.elim
  | .ok (.ret u), ⟨v, H', os, bare, un, ok', rv, q⟩ =>
    have qv : v = .bl true := q
    subst qv
    obtain rfl : u = Value.bool true := rv
    refine ⟨rfl, OldK.of_keep ?_, os, bare⟩
    intro b o e
    rcases only b with z | ⟨ob, xs, z⟩
    · exact un.keep b o e z (fun y => (nomatch y)) (fun y => (nomatch y))
    · have o1 := (ok b _ z).1
      have o2 := (ok' b _ (un.frzs b ob _ z)).1
      rw [e] at o1
      cases o1
      exact o2
theorem lawG {P : Program} {w : World} {K : PySem.W.Frag} {mg mb : Str → Option Value} {k : Nat} {fa a : Addr} {fd : FuncData} {x : Str} {sp : Sp} {s₁ : Shared} {vs : List Value} {ns : List Int}
    (kin : K.In s₁.heap) (gl : s₁.heap.Ns mainGlobals mg) (bl : s₁.heap.Ns builtinsNs mb) (bb : ∀ x : Str, x ≠ "__name__" → mb x = bootBuiltins x) (lim : s₁.heap.NoLimit) (gens : s₁.gens = #[])
    (ha : s₁.heap.get? a = some { cls := .type "list", data := .seq vs.toArray }) (hi : IntsAre vs ns) (hl : ns.length ≤ sizeLine) (room : Room k callerA)
    (F : ∀ base : Heap, K.In base → base.Ns mainGlobals mg → FnG P w K mg base k fa fd [x] sp) (bind : ∀ (s : Shared) (u : Value), BindsTo s fd ⟨[u], []⟩ [(x, u)])
    (want : ∀ H : Hp, Only H → SqL K H a (ns.map V.int) → sp [.ref a] H (fun v _ => v = .bl true) fun _ _ _ => False) :
    codeAny (model P w) callerA (.call (.ref fa) ⟨[.ref a], []⟩) (fun r s' => r = .ok (.ret (.bool true)) ∧ OldK s₁.heap s'.heap ∧ s'.os = s₁.os ∧ AllBare s'.gens) s₁ := by
  have rv := vals_ints hi
  cases hk : K.lookup a with
  | some o =>
    have e := kin a o hk
    rw [ha] at e
    cases e
    have hO : Only fun _ => none := fun _ => .inl rfl
    refine lawG_core kin gl bl bb lim gens ha room F bind (fun _ => none) hO (want _ hO ?_) (fun b u z => (nomatch z)) (fun b z => absurd rfl z) fun z => absurd rfl z
    exact .inr ⟨_, vs.toArray, _, hk, rfl, rfl, rfl, by rw [List.size_toArray, hi.length]; exact hl, by simpa using rv⟩
  | none =>
    have e0 : ∀ b, (upd (fun _ => none) a (.frz { cls := .type "list", data := .seq vs.toArray } (.lst (ns.map V.int)))) b ≠ none → b = a := fun b z => Classical.byContradiction fun y => z (upd_ne y)
    have hO : Only (upd (fun _ => none) a (.frz { cls := .type "list", data := .seq vs.toArray } (.lst (ns.map V.int)))) := fun b => by
      by_cases hb : b = a
      · subst hb; exact .inr ⟨_, _, upd_same⟩
      · exact .inl (upd_ne hb)
    refine lawG_core kin gl bl bb lim gens ha room F bind _ hO (want _ hO (.inl (.inr ⟨_, upd_same⟩))) (fun b u z => ?_) e0 fun _ => hk
    have hb := e0 b (by rw [z]; simp)
    subst hb
    rw [upd_same] at z
    cases z
    exact ⟨ha, by rw [List.length_map]; exact hl, vs, _, rv, ha⟩
/-- the walk's goal, from the law's promise -/
theorem walk_ofG {l : PySem.W.OpenLaw} {n k : Nat} {q : Program} {loose : List Str} {XP : (Str → Option Value) → Heap → Prop} {YP : World → Heap → Prop} {d : DefRec} {K : Params → PySem.W.Frag} {sp : PySem.W.Frag → Sp} {x : Str}
    (hn : l.most = some n) (hn2 : n ≤ sizeLine) (hdf : d.params.defaults = []) (room : Room k callerA) (hY : ∀ (w : World) (h : Heap), YP w h → (K w.params).In h)
    (F : ∀ (w : World) (mg : Str → Option Value) (fa : Addr) (h : Heap), (K w.params).In h → h.Ns mainGlobals mg → mg d.name = some (.ref fa) →
      ∃ fd : FuncData, (∀ (s : Shared) (u : Value), BindsTo s fd ⟨[u], []⟩ [(x, u)]) ∧ ∀ base : Heap, (K w.params).In base → base.Ns mainGlobals mg → FnG l.prog w (K w.params) mg base k fa fd [x] (sp (K w.params)))
    (want : ∀ (K : PySem.W.Frag) (H : Hp) (a : Addr) (ns : List Int), ns.length ≤ n → Only H → SqL K H a (ns.map V.int) → sp K [.ref a] H (fun v _ => v = .bl true) fun _ _ _ => False) :
    PySem.W.WalkO q loose XP YP l.row.toRowW d [] (fun f vs => PySem.call f vs) := by
  refine Att.attach_call hn hdf ?_
  intro w s₀ s₁ mg mb fa o pm cd doc a vs ns G Y ho hd hcd hmg hobj hints hlen hg
  have kin := hY w _ Y
  obtain ⟨fd, bind, all⟩ := F w mg fa _ kin G.T.g hmg
  exact lawG kin G.T.g G.T.b G.T.builtins G.T.nolimit hg hobj hints (by omega) room all bind fun H hO hS => want _ H a ns hlen hO hS
end K47
end
section
set_option Elab.async false
set_option maxRecDepth 100000
set_option maxHeartbeats 4000000
set_option autoImplicit false
/-! The law's numbers: feed, next. -/
namespace K47
open PySem L2 PySem.Spec PyProof.Rows
/-- a feed after at most n draws -/
def FdS (xs : List V) (n : Nat) : Prop := ∃ l c k : Int, xs = [.int l, .int c, .int k] ∧ 0 ≤ l ∧ 0 ≤ c ∧ c < 2147483399 ∧ 0 ≤ k ∧ k ≤ n
def FdAt (H : Hp) (q : Addr) (n : Nat) : Prop := ∃ xs, H q = some (.lst xs) ∧ FdS xs n
theorem FdS.mono {xs : List V} {n m : Nat} (h : FdS xs n) (hm : n ≤ m) : FdS xs m := let ⟨l, c, k, e, a1, a2, a3, a4, a5⟩ := h; ⟨l, c, k, e, a1, a2, a3, a4, by omega⟩
theorem FdAt.mono {H : Hp} {q : Addr} {n m : Nat} (h : FdAt H q n) (hm : n ≤ m) : FdAt H q m := let ⟨xs, e, f⟩ := h; ⟨xs, e, f.mono hm⟩
/-- all but the thing at q is as it was -/
def Fz (q : Addr) (H H' : Hp) : Prop := ∀ c o, H c = some o → c ≠ q → H' c = some o
theorem Fz.refl {q : Addr} {H : Hp} : Fz q H H := fun _ _ h _ => h
theorem Fz.trans {q : Addr} {H H1 H2 : Hp} (a : Fz q H H1) (b : Fz q H1 H2) : Fz q H H2 := fun c o h hc => b c o (a c o h hc) hc
theorem Fz.of {q : Addr} {H H' : Hp} (s : Same H H') : Fz q H H' := fun c o h _ => s c o h
theorem Fz.upd {q : Addr} {H : Hp} {o : HO} : Fz q H (L2.upd H q o) := fun c u h hc => by rw [upd_ne hc]; exact h
theorem Fz.tk {q : Addr} {H H' : Hp} {n : Nat} (z : Fz q H H') (f : FdAt H q n) : Tk H H' := let ⟨_, e, _⟩ := f; Tk.but e trivial z
def spFeed (K : PySem.W.Frag) : Sp := fun vs H Q _ => ∃ (a : Addr) (ns : List Int) (k : Nat), vs = [.ref a, .int (k : Int)] ∧ SqL K H a (ns.map V.int) ∧ ns.length ≤ 63 ∧ ∀ q H', H q = none → Same H H' → FdAt H' q 0 → Q (.ref q) H'
theorem scFeed : FnScope ["_law_script", "_law_k", "_law_cell", "_law_left"] ["_law_script", "_law_k"] (defScope sFeed) := ⟨rfl, rfl, rfl, by decide +kernel, rfl, by decide +kernel, by decide +kernel⟩
theorem scNext : FnScope ["_law_feed_here", "_law_many", "_law_digit", "_law_mixed"] ["_law_feed_here", "_law_many"] (defScope sNext) := ⟨rfl, rfl, rfl, by decide +kernel, rfl, by decide +kernel, by decide +kernel⟩
section
variable {H : Hp} {K : PySem.W.Frag} {σ : L2.St} {ta tb : TE}
theorem s_ret {te : TE} {D : Ends} {v : V} (h : Val te σ H v) (k : D.rt v H) : tRet te D σ H := h _ k
theorem n_next {D : Ends} (h : D.nx σ H) : tNext D σ H := h
theorem val_ixS {q : Addr} {xs : List V} {z : Int} {v : V} (ha : Val ta σ H (.ref q)) (hb : Val tb σ H (.int z)) (h : SqL K H q xs) (hv : atI xs z = some v) : Val (tOp (rIxL K) ta tb) σ H v := val_op ha hb fun _ q' => ⟨q, xs, z, v, rfl, rfl, h, hv, q'⟩
theorem val_ixT {q : Addr} {xs : List V} {z : Int} {v : V} (ha : Val ta σ H (.ref q)) (hb : Val tb σ H (.int z)) (h : Rd H q (.tup xs)) (hv : atI xs z = some v) : Val (tOp (rIxT K) ta tb) σ H v := val_op ha hb fun _ q' => ⟨q, xs, z, v, rfl, rfl, .inl h, hv, q'⟩
end
section
variable {P : Program} {w : World} {K : PySem.W.Frag} {mg : Str → Option Value} {base : Heap} {C : Addr}
theorem cal_feed (D : Df K mg "_law_feed" sFeed ["_law_script", "_law_k"]) (Y : Txt K mg C) : Cal P w K mg base "_law_feed" 1 ["_law_script", "_law_k"] (spFeed K) := by
  refine D.cal scFeed (fun vs H Q E h => ?_) (fun _ _ cdv A outer s H vs Q E hr h => ?_)
  · obtain ⟨_, _, _, rfl, _⟩ := h
    rfl
  · obtain ⟨a, ns, k, rfl, ha, h63, kk⟩ := h
    have nd := scFeed.nd
    refine ⟨_, pss_cons (ps_set (i := 2) nd rfl (Or.inl rfl) pe_int)
      (pss_cons (ps_if (pt_cmpR op_gt1 (pe_callB call_len_seq (by rfl) Y.len PySem.boot_len (pa_cons (pv 0) pa_nil)) pe_int (nomark _))
        (pss_one (ps_set (i := 2) nd rfl (Or.inl rfl) (pe_ix ix_list (pv 0) (pe_op op_mod (pv 1) (pe_callB call_len_seq (by rfl) Y.len PySem.boot_len (pa_cons (pv 0) pa_nil))) (fun _ _ => rfl)))) pss_nil)
      (pss_cons (ps_set (i := 3) nd rfl (Or.inl rfl) (pe_callB call_abs (by rfl) Y.abs (by decide +kernel) (pa_cons (pv 2) pa_nil)))
      (pss_cons (ps_if (pt_cmpR op_lt (pv 3) (pe_op op_pow pe_int pe_int) (nomark _)) (pss_one (ps_set (i := 3) nd rfl (Or.inl rfl) pe_int)) pss_nil)
      (pss_one (ps_ret (pe_lst (pa_cons (pv 3) (pa_cons (pe_op op_mod (pe_op op_add (pe_op op_add (pv 2) (pe_op op_mul pe_int (pv 1))) pe_int) pe_int) (pa_cons pe_int pa_nil))))))))), ?_⟩
    refine q_set val_c ?_
    have hlen : ∀ σ : L2.St, σ[0]? = some (some (.ref a)) → Val (tCB (fun xs H Q => ∃ p ys, xs = [V.ref p] ∧ (SqL K H p ys ∨ SqT K H p ys) ∧ Q (.int ys.length) H) (tCons (tVar 0) tNil)) σ H (.int ((ns.length : Nat) : Int)) := fun σ h0 Q q => by
      refine ⟨_, h0, a, _, rfl, .inl ha, ?_⟩
      rw [List.length_map]; exact q
    -- what follows
    have rest : ∀ cell : Int, (∀ σ : L2.St, σ = [some (.ref a), some (.int (k : Int)), some (.int cell), none] →
        (tSeq (tAsg (tCB (fun xs H Q => ∃ i, xs = [V.int i] ∧ Q (.int (if i < 0 then -i else i)) H) (tCons (tVar 2) tNil)) (gName 3))
          (tSeq (tIfS (tTest (tOp (rI0 fun i j => V.bl (decide (i < j))) (tVar 3) (tOp (rI CPow fun i j => V.int (i ^ j.toNat)) (tC (.int 10)) (tC (.int 18))))) (tAsg (tC (.int 0)) (gName 3)) tNext)
            (tRet (tLst (tCons (tVar 3) (tCons (tOp (rI (fun _ j => 0 < j) fun i j => V.int (i % j)) (tOp (rI0 fun i j => V.int (i + j)) (tOp (rI0 fun i j => V.int (i + j)) (tVar 2) (tOp (rI CMul fun i j => V.int (i * j)) (tC (.int 7919)) (tVar 1))) (tC (.int 13))) (tC (.int 2147483399))) (tCons (tC (.int 0)) tNil)))))))
          { nx := fun _ H' => Q .non H', rt := Q } σ H) := fun cell σ e => by
      subst e
      refine q_set (fun Q q => ⟨_, rfl, cell, rfl, q⟩) ?_
      have fin : ∀ (l : Int), 0 ≤ l → (tRet (tLst (tCons (tVar 3) (tCons (tOp (rI (fun _ j => 0 < j) fun i j => V.int (i % j)) (tOp (rI0 fun i j => V.int (i + j)) (tOp (rI0 fun i j => V.int (i + j)) (tVar 2) (tOp (rI CMul fun i j => V.int (i * j)) (tC (.int 7919)) (tVar 1))) (tC (.int 13))) (tC (.int 2147483399))) (tCons (tC (.int 0)) tNil)))))
          { nx := fun _ H' => Q .non H', rt := Q } [some (.ref a), some (.int (k : Int)), some (.int cell), some (.int l)] H := fun l hl => by
        refine ⟨_, rfl, _, rfl, _, rfl, _, _, rfl, rfl, .inl ⟨by decide, by decide⟩, _, _, rfl, rfl, _, _, rfl, rfl, _, _, rfl, rfl, by show (0 : Int) < 2147483399; decide, by show 3 ≤ sizeLine; decide, fun q hq => ?_⟩
        refine kk q _ hq (same_upd hq) ⟨_, upd_same, l, _, 0, rfl, hl, Int.emod_nonneg _ (by decide), Int.emod_lt_of_pos _ (by decide), by omega, by omega⟩
      refine q_if (ans_cmp (b := decide ((if cell < 0 then -cell else cell) < 10 ^ (18 : Int).toNat)) vn (val_I val_c val_c ⟨by decide, by decide, by decide⟩) fun Q q => ⟨_, _, rfl, rfl, q⟩) ?_
      cases decide ((if cell < 0 then -cell else cell) < 10 ^ (18 : Int).toNat) with
      | true => exact iteT (s_set val_c (fin 0 (by omega)))
      | false => exact iteF (fin _ (by split <;> omega))
    by_cases h0 : 0 < ns.length
    · refine q_if (ans_gt (b := true) (hlen _ rfl) (decide_eq_true (by omega))) (iteT ?_)
      have hj : k % ns.length < ns.length := Nat.mod_lt _ h0
      refine s_set (val_ixS (v := .int (ns.getD (k % ns.length) 0)) (z := (k : Int) % (ns.length : Int)) vn (val_I vn (hlen _ rfl) (by omega)) ha ?_) (rest _ _ rfl)
      rw [show ((k : Int) % (ns.length : Int)) = ((k % ns.length : Nat) : Int) from (Int.natCast_emod ..).symm]
      exact at_ints hj
    · refine q_if (ans_gt (b := false) (hlen _ rfl) (decide_eq_false (by omega))) (iteF (rest 0 _ rfl))
def spNext : Sp := fun vs H Q _ => ∃ (q : Addr) (many : Int) (xs : List V) (n : Nat), vs = [.ref q, .int many] ∧ 0 < many ∧ many < 1073741824 ∧ H q = some (.lst xs) ∧ FdS xs n ∧ n ≤ 1000000 ∧ ∀ r ys, 0 ≤ r → r < many → FdS ys (n + 1) → Q (.int r) (upd H q (.lst ys))
abbrev iMod (a b : TE) : TE := tOp (rI (fun _ j => 0 < j) fun i j => V.int (i % j)) a b
abbrev iMulS (a b : TE) : TE := tOp (rI CMul fun i j => V.int (i * j)) a b
abbrev iFd (a b : TE) : TE := tOp (rI CDiv fun i j => V.int (i / j)) a b
theorem cal_next (D : Df K mg "_law_next" sNext ["_law_feed_here", "_law_many"]) : Cal P w K mg base "_law_next" 1 ["_law_feed_here", "_law_many"] spNext := by
  refine D.cal scNext (fun vs H Q E h => ?_) (fun _ _ cdv A outer s H vs Q E hr h => ?_)
  · obtain ⟨_, _, _, _, rfl, _⟩ := h
    rfl
  · obtain ⟨q, many, xs, n, rfl, hm, hm2, hq, hfd, hn, k⟩ := h
    have nd := scNext.nd
    refine ⟨_, pss_cons (ps_if (pt_cmpR op_gt1 (pe_ix ix_list (pv 0) pe_int (fun _ _ => rfl)) pe_int (nomark _))
        (pss_cons (ps_set (i := 2) nd rfl (Or.inl rfl) (pe_op op_mod (pe_ix ix_list (pv 0) pe_int (fun _ _ => rfl)) (pv 1)))
        (pss_cons (ps_asg (pe_op op_fdiv (pe_ix ix_list (pv 0) pe_int (fun _ _ => rfl)) (pv 1)) (pg_sub (pv 0) pe_int set_list))
        (pss_one (ps_ret (pv 2))))) pss_nil)
      (pss_cons (ps_asg (pe_op op_add (pe_ix ix_list (pv 0) pe_int (fun _ _ => rfl)) pe_int) (pg_sub (pv 0) pe_int set_list))
      (pss_cons (ps_set (i := 3) nd rfl (Or.inl rfl) (pe_op op_mod (pe_op op_mul (pe_op op_mod (pe_op op_add (pe_op op_add (pe_ix ix_list (pv 0) pe_int (fun _ _ => rfl)) (pe_op op_mul pe_int (pe_ix ix_list (pv 0) pe_int (fun _ _ => rfl)))) pe_int) pe_int) pe_int) pe_int))
      (pss_cons (ps_set (i := 3) nd rfl (Or.inl rfl) (pe_op op_mod (pe_op op_mul (pe_op op_mod (pe_op op_add (pe_op op_mul (pv 3) pe_int) (pe_op op_mul (pe_ix ix_list (pv 0) pe_int (fun _ _ => rfl)) (pe_ix ix_list (pv 0) pe_int (fun _ _ => rfl)))) pe_int) pe_int) pe_int))
      (pss_one (ps_ret (pe_op op_mod (pe_op op_fdiv (pv 3) pe_int) (pv 1))))))), ?_⟩
    obtain ⟨l, c, cnt, rfl, h1, h2, h3, h4, h5⟩ := hfd
    have ixV : ∀ (σ : L2.St) (H : Hp) (ys : List Int) (j : Nat), σ[0]? = some (some (.ref q)) → H q = some (.lst (ys.map V.int)) → j < ys.length → Val (tOp (rIxL K) (tVar 0) (tC (.int (j : Int)))) σ H (.int (ys.getD j 0)) := fun σ H ys j h0 hH hj => val_ixL (val_v h0) val_c hH (at_ints hj)
    have hq' : H q = some (.lst ([l, c, cnt].map V.int)) := hq
    by_cases hl : 0 < l
    · refine q_if (ans_gt (b := true) (ixV _ H [l, c, cnt] 0 rfl hq' (by simp)) (decide_eq_true hl)) (iteT ?_)
      refine q_set (val_I (ixV _ H [l, c, cnt] 0 rfl hq' (by simp)) vn hm) ?_
      refine q_asgE ((val_I (ixV _ H [l, c, cnt] 0 rfl hq' (by simp)) vn ⟨hm, hm2⟩) _ ?_)
      refine e_sub vn val_c ⟨q, _, 0, 0, rfl, rfl, hq, rfl, ?_⟩
      exact ⟨_, rfl, k _ _ (Int.emod_nonneg _ (by omega)) (Int.emod_lt_of_pos _ hm) ⟨_, c, cnt, rfl, Int.ediv_nonneg h1 (by omega), h2, h3, h4, by omega⟩⟩
    · refine q_if (ans_gt (b := false) (ixV _ H [l, c, cnt] 0 rfl hq' (by simp)) (decide_eq_false hl)) (iteF (n_next ?_))
      dsimp only
      refine q_asgE ((val_I0 (ixV _ H [l, c, cnt] 2 rfl hq' (by simp)) val_c) _ ?_)
      refine e_sub vn val_c ⟨q, _, 2, 2, rfl, rfl, hq, rfl, ?_⟩
      change tSeq _ _ _ _ (upd H q (.lst ([V.int l, .int c, .int cnt].set 2 (.int (cnt + 1)))))
      have hq2 : (upd H q (.lst ([V.int l, .int c, .int cnt].set 2 (.int (cnt + 1))))) q = some (.lst ([l, c, cnt + 1].map V.int)) := upd_same
      have fin : ∀ r : Int, 0 ≤ r → r < many → Q (.int r) (upd H q (.lst ([V.int l, .int c, .int cnt].set 2 (.int (cnt + 1))))) := fun r a b => k r _ a b ⟨l, c, cnt + 1, rfl, h1, h2, h3, by omega, by omega⟩
      generalize (upd H q (.lst ([V.int l, .int c, .int cnt].set 2 (.int (cnt + 1))))) = H2 at hq2 fin ⊢
      have ix1 : ∀ σ : L2.St, σ[0]? = some (some (.ref q)) → Val (tOp (rIxL K) (tVar 0) (tC (.int 1))) σ H2 (.int c) := fun σ h0 => ixV σ H2 [l, c, cnt + 1] 1 h0 hq2 (by simp)
      have ix2 : ∀ σ : L2.St, σ[0]? = some (some (.ref q)) → Val (tOp (rIxL K) (tVar 0) (tC (.int 2))) σ H2 (.int (cnt + 1)) := fun σ h0 => ixV σ H2 [l, c, cnt + 1] 2 h0 hq2 (by simp)
      have sm : ∀ z : Int, 0 ≤ z → z < 4611686018427387904 → (-(2 ^ 64) < z ∧ z < 2 ^ 64) := fun z a b => ⟨by omega, by omega⟩
      refine q_set (val_I (val_I (val_I (val_I0 (val_I0 (ix1 _ rfl) (val_I val_c (ix2 _ rfl) (.inl ⟨by decide, by decide⟩))) val_c) val_c (show (0 : Int) < 2147483399 by decide)) val_c (.inr ⟨by decide, by decide⟩)) val_c (show (0 : Int) < 2147483647 by decide)) ?_
      refine q_set (val_I (val_I (val_I (val_I0 (val_I vn val_c (.inr ⟨by decide, by decide⟩)) (val_I (ix2 _ rfl) (ix2 _ rfl) (.inl (sm _ (by show 0 ≤ cnt + 1; omega) (by show cnt + 1 < _; omega))))) val_c (show (0 : Int) < 2147483629 by decide)) val_c (.inr ⟨by decide, by decide⟩)) val_c (show (0 : Int) < 2147483543 by decide)) ?_
      refine s_ret (val_I (val_I vn val_c ⟨by decide, by decide⟩) vn hm) (fin _ (Int.emod_nonneg _ (by omega)) (Int.emod_lt_of_pos _ hm))
end
end K47
end
section
set_option Elab.async false
set_option maxRecDepth 100000
set_option maxHeartbeats 4000000
set_option autoImplicit false
/-! made: a form of pairs. -/
namespace K47
open PySem L2 PySem.Spec PyProof.Rows
/-- things that can be shown and ordered -/
structure Uni (W : List NK) : Prop where
  cmp : Cmps W
  dep : ∀ k ∈ W, k.depth ≤ 6
  sh : ∀ k ∈ W, (∃ ks, k = .tup ks) ∧ k.data.showable = true ∧ k.data.hasDict = false ∧ k.data.shown.length ≤ 1000
  inj : ∀ a ∈ W, ∀ b ∈ W, a.data.shown = b.data.shown → a = b
  len : W.length ≤ 12
  tok : ∀ k ∈ W, tOk k = true
def csP (es : List Pc) (t : NK) : Int := (es.map fun e => if e.k = t then e.m else 0).sum
theorem csP_cons (e : Pc) (es : List Pc) (t : NK) : csP (e :: es) t = (if e.k = t then e.m else 0) + csP es t := by unfold csP; rw [List.map_cons, List.sum_cons]
theorem csP_app (es fs : List Pc) (t : NK) : csP (es ++ fs) t = csP es t + csP fs t := by unfold csP; rw [List.map_append, List.sum_append]
theorem csP_perm {es fs : List Pc} (h : es.Perm fs) (t : NK) : csP es t = csP fs t := by
  induction h with
  | nil => rfl
  | cons x _ ih => rw [csP_cons, csP_cons, ih]
  | swap x y l => rw [csP_cons, csP_cons, csP_cons, csP_cons]; omega
  | trans _ _ a b => rw [a, b]
theorem csP_filter (t : NK) : ∀ es : List Pc, csP (es.filter fun e => !decide (e.m = 0)) t = csP es t
  | [] => rfl
  | e :: es => by
    rw [csP_cons]
    by_cases h : e.m = 0
    · rw [List.filter_cons_of_neg (by simp [h]), csP_filter t es, h]; split <;> omega
    · rw [List.filter_cons_of_pos (by simp [h]), csP_cons, csP_filter t es]
theorem csP_none {es : List Pc} {t : NK} (h : t ∉ es.map (·.k)) : csP es t = 0 := by
  induction es with
  | nil => rfl
  | cons e es ih =>
    rw [List.map_cons, List.mem_cons, not_or] at h
    rw [csP_cons, if_neg (fun z => h.1 z.symm), ih h.2]; rfl
theorem cfP_cs (t : NK) : ∀ es : List Pc, (es.map (·.k)).Nodup → cfP es t = csP es t
  | [], _ => rfl
  | e :: es, h => by
    rw [List.map_cons, List.nodup_cons] at h
    rw [csP_cons]
    by_cases c : e.k = t
    · rw [if_pos c, csP_none (by rw [← c]; exact h.1)]
      unfold cfP
      rw [List.find?_cons_of_pos (by simpa using c)]
      show e.m = e.m + 0
      omega
    · rw [if_neg c, ← cfP_cs t es h.2]
      unfold cfP
      rw [List.find?_cons_of_neg (by simpa using c)]
      show _ = 0 + _
      omega
/-- pieces on the heap -/
def PcOk (H : Hp) (W : List NK) (e : Pc) : Prop := Rd H e.pa (.tup [.ref e.ta, .int e.m]) ∧ KD H e.k (.ref e.ta) ∧ e.k ∈ W
theorem PcOk.tk {H H' : Hp} {W : List NK} {e : Pc} (h : PcOk H W e) (t : Tk H H') : PcOk H' W e := ⟨t.rd h.1, h.2.1.stay t.tst _ _, h.2.2⟩
theorem PcOk.kd {H : Hp} {W : List NK} {e : Pc} (h : PcOk H W e) : KD H (.tup [e.k, .num e.m]) (.ref e.pa) := .tup h.1 (.cons h.2.1 (.cons (.int _) .nil))
theorem pairs_cmp {W : List NK} (U : Uni W) {es : List Pc} (h : ∀ e ∈ es, e.k ∈ W) : Cmps (es.map fun e => .tup [e.k, .num e.m]) := by
  refine ⟨fun k hk => ?_, fun a ha b hb => ?_, .inr fun k hk => ?_⟩
  · obtain ⟨e, m, rfl⟩ := List.mem_map.mp hk
    have := U.dep _ (h e m)
    simp only [NestedKey.depth, NestedKey.depthAll]; omega
  · obtain ⟨e, m, rfl⟩ := List.mem_map.mp ha
    obtain ⟨e', m', rfl⟩ := List.mem_map.mp hb
    simp only [cmpOk, cmpOks]
    have := U.cmp.all _ (h e m) _ (h e' m')
    split
    · split <;> rfl
    · exact this
  · obtain ⟨e, m, rfl⟩ := List.mem_map.mp hk
    obtain ⟨⟨ks, hk'⟩, _⟩ := U.sh _ (h e m)
    exact ⟨ks, [.num e.m], by rw [hk']⟩
/-- the dict of pieces by their texts -/
def dP (acc : List Pc) : List (Key × V) := acc.map fun e => (Sum.inr e.k.data.shown, V.ref e.pa)
def putP (acc : List Pc) (n : Pc) : List Pc := if n.k ∈ acc.map (·.k) then acc.map (fun e => if e.k = n.k then n else e) else acc ++ [n]
theorem key_rr' {a b : Str} : ((Sum.inr a : Key) = Sum.inr b) ↔ a = b := ⟨Sum.inr.inj, fun h => by rw [h]⟩
theorem dP_val {W : List NK} (U : Uni W) (k : NK) (hk : k ∈ W) : ∀ acc : List Pc, (∀ e ∈ acc, e.k ∈ W) → valV (dP acc) (Sum.inr k.data.shown) = (acc.find? fun e => decide (e.k = k)).map fun e => V.ref e.pa
  | [], _ => rfl
  | e :: acc, h => by
    have ih := dP_val U k hk acc fun x hx => h x (List.mem_cons_of_mem _ hx)
    by_cases c : e.k = k
    · rw [List.find?_cons_of_pos (by simpa using c)]
      exact valV_pos (p := (Sum.inr e.k.data.shown, V.ref e.pa)) (by rw [c])
    · rw [List.find?_cons_of_neg (by simpa using c), ← ih]
      exact valV_neg (p := (Sum.inr e.k.data.shown, V.ref e.pa)) fun z => c (U.inj _ (h e List.mem_cons_self) _ hk (Sum.inr.inj z))
theorem dP_put {W : List NK} (U : Uni W) (n : Pc) (hk : n.k ∈ W) (acc : List Pc) (h : ∀ e ∈ acc, e.k ∈ W) : putK (dP acc) (Sum.inr n.k.data.shown) (.ref n.pa) = dP (putP acc n) := by
  have hs : (valV (dP acc) (Sum.inr n.k.data.shown)).isSome = true ↔ n.k ∈ acc.map (·.k) := by
    rw [dP_val U n.k hk acc h, Option.isSome_map, List.find?_isSome, List.mem_map]
    exact ⟨fun ⟨x, a, b⟩ => ⟨x, a, by simpa using b⟩, fun ⟨x, a, b⟩ => ⟨x, a, by simpa using b⟩⟩
  unfold putK putP
  rw [valV_any]
  by_cases c : n.k ∈ acc.map (·.k)
  · rw [if_pos (hs.mpr c), if_pos c]
    unfold dP
    rw [List.map_map, List.map_map]
    refine List.map_congr_left fun e he => ?_
    show (if (Sum.inr e.k.data.shown : Key) = Sum.inr n.k.data.shown then _ else _) = _
    by_cases z : e.k = n.k
    · show _ = ((Sum.inr (if e.k = n.k then n else e).k.data.shown : Key), V.ref (if e.k = n.k then n else e).pa)
      rw [if_pos z, if_pos (by rw [z])]
      show ((Sum.inr e.k.data.shown : Key), V.ref n.pa) = _
      rw [z]
    · show _ = ((Sum.inr (if e.k = n.k then n else e).k.data.shown : Key), V.ref (if e.k = n.k then n else e).pa)
      rw [if_neg z, if_neg fun y => z (U.inj _ (h e he) _ hk (Sum.inr.inj y))]
  · rw [if_neg fun z => c (hs.mp z), if_neg c]
    unfold dP; rw [List.map_append]; rfl
theorem putP_keys (acc : List Pc) (n : Pc) : (putP acc n).map (·.k) = if n.k ∈ acc.map (·.k) then acc.map (·.k) else acc.map (·.k) ++ [n.k] := by
  unfold putP
  split
  · rw [List.map_map]
    refine List.map_congr_left fun e _ => ?_
    show (if e.k = n.k then n else e).k = e.k
    split
    · rename_i h; exact h.symm
    · rfl
  · rw [List.map_append]; rfl
theorem csP_put (acc : List Pc) (n : Pc) (hn : (acc.map (·.k)).Nodup) (t : NK) : csP (putP acc n) t = csP acc t + (if n.k = t then n.m - csP acc n.k else 0) := by
  unfold putP
  by_cases c : n.k ∈ acc.map (·.k)
  · rw [if_pos c]
    have key : ∀ l : List Pc, (l.map (·.k)).Nodup → csP (l.map fun e => if e.k = n.k then n else e) t = csP l t + (if n.k = t then (if n.k ∈ l.map (·.k) then n.m - csP l n.k else 0) else 0) := by
      intro l
      induction l with
      | nil => intro _; show (0 : Int) = 0 + _; simp
      | cons e l ih =>
        intro h
        rw [List.map_cons, List.nodup_cons] at h
        have ih := ih h.2
        rw [List.map_cons, csP_cons, csP_cons, csP_cons, ih, List.map_cons]
        by_cases d : e.k = n.k
        · have hnl : n.k ∉ l.map (·.k) := by rw [← d]; exact h.1
          have mem : n.k ∈ e.k :: l.map (·.k) := by rw [d]; exact List.mem_cons_self
          have c0 := csP_none hnl
          rw [if_neg hnl, if_pos mem, c0]
          simp only [d, if_true]
          by_cases f : n.k = t
          · simp only [if_pos f]; omega
          · simp only [if_neg f]; omega
        · simp only [if_neg d]
          by_cases f : n.k = t
          · have et : ¬ e.k = t := fun z => d (z.trans f.symm)
            simp only [if_pos f, if_neg et]
            by_cases g : n.k ∈ l.map (·.k)
            · simp only [if_pos g, if_pos (List.mem_cons_of_mem e.k g)]; omega
            · have g2 : n.k ∉ e.k :: l.map (·.k) := fun z => (List.mem_cons.mp z).elim (fun y => d y.symm) g
              simp only [if_neg g, if_neg g2]; omega
          · simp only [if_neg f]; omega
    rw [key acc hn, if_pos c]
  · rw [if_neg c, csP_app, csP_none c]
    congr 1
    rw [csP_cons]
    show (if n.k = t then n.m else 0) + 0 = _
    split <;> omega
end K47
end
section
set_option Elab.async false
set_option maxRecDepth 100000
set_option maxHeartbeats 4000000
set_option autoImplicit false
/-! made: the walk. -/
namespace K47
open PySem L2 PySem.Spec PyProof.Rows
def Nz (f : Fm) : Prop := ∀ e ∈ f.es, e.m ≠ 0
def spMade : Sp := fun vs H Q _ => ∃ (c : Int) (lp : Addr) (prs : List Pc) (W : List NK), vs = [.int c, .ref lp] ∧ H lp = some (.lst (prs.map fun e => .ref e.pa)) ∧ (∀ e ∈ prs, PcOk H W e) ∧ Uni W ∧
  ∀ f H', Same H H' → FmOk H' W f → f.c = c → (∀ t, f.cf t = csP prs t) → Nz f → Q (.ref f.a) H'
theorem scMade : FnScope ["_law_number", "_law_pairs", "_law_pieces", "_law_thing_here", "_law_many", "_law_some", "_law_text", "_law_pair"] ["_law_number", "_law_pairs"] (defScope sMade) := ⟨rfl, rfl, rfl, by decide +kernel, rfl, by decide +kernel, by decide +kernel⟩
section
variable {P : Program} {w : World} {K : PySem.W.Frag} {mg : Str → Option Value} {base : Heap} {C : Addr}
theorem cal_made (D : Df K mg "_law_made" sMade ["_law_number", "_law_pairs"]) (Y : Txt K mg C) : CalG P w K mg base "_law_made" 1 ["_law_number", "_law_pairs"] spMade := by
  refine D.calG scMade (fun vs H Q E h => ?_) (fun _ _ cdv A outer s H vs Q E gd hr h => ?_)
  · obtain ⟨_, _, _, _, rfl, _⟩ := h
    rfl
  · obtain ⟨c, lp, prs, W, rfl, hlp, hpr, U, k⟩ := h
    have nd := scMade.nd
    have hu := hr.units
    have hu1 := hu_of hr
    refine ⟨_, pss_cons (ps_set (i := 2) nd rfl (Or.inr rfl) pe_dnewK)
      (pss_cons (ps_for PassesOwn.never rfl (pi_list (pv 1)) (pg_tup rfl (pgs_cons (pg_name (i := 3) nd rfl (Or.inl rfl)) (pgs_cons (pg_name (i := 4) nd rfl (Or.inl rfl)) pgs_nil)))
        (pss_one (ps_dput hu1 (pv 2) (pe_callB (cr_repr gd hu) (by rfl) Y.repr (by decide +kernel) (pa_cons (pv 3) pa_nil))
          (pe_tup (pa_cons (pv 3) (pa_cons (pe_op op_add (pe_ix ix_tup (pe_dget2 hu1 (pv 2) (pe_callB (cr_repr gd hu) (by rfl) Y.repr (by decide +kernel) (pa_cons (pv 3) pa_nil)) (pe_tup (pa_cons (pv 3) (pa_cons pe_int pa_nil))) ⟨rfl, rfl, rfl, rfl⟩) pe_int (fun _ _ => rfl)) (pv 4)) pa_nil))) rfl)))
      (pss_cons (ps_set (i := 5) nd rfl (Or.inl rfl) (pe_callB (cr_sortN hu) (by rfl) Y.sorted (by decide +kernel) (pa_cons (pe_lc (own := [("_law_text", 6)]) (g := gName 6) (tt := tYes) (te := tDGet (tVar 2) (tVar 6)) rfl nd (pi_list (pe_callB (call_sortedD rfl) (by rfl) Y.sorted (by decide +kernel) (pa_cons (pv 2) pa_nil)))
          (blkOk_by (N := ["_law_number", "_law_pairs", "_law_pieces", "_law_thing_here", "_law_many", "_law_some", "_law_text", "_law_pair"]) (sc := defScope sMade) (by decide +kernel)) (fun _ _ _ _ _ => pg_name (i := 6) nd rfl (Or.inl rfl)) (fun _ _ _ _ _ => pts_nil) (fun _ _ _ _ _ => pe_dget hu1 (pv 2) (pv 6) (fun _ _ => rfl))) pa_nil)))
      (pss_one (ps_ret (pe_tup (pa_cons (pv 0) (pa_cons (pe_callTy call_tupF (by rfl) Y.tuple (by decide +kernel) (pa_cons (pe_lc (own := [("_law_pair", 7)]) (g := gName 7) (tt := tTest (tOp rNe (tOp (rIxT K) (tVar 7) (tC (.int 1))) (tC (.int 0)))) (te := tVar 7) rfl nd (pi_list (pv 5))
          (blkOk_by (N := ["_law_number", "_law_pairs", "_law_pieces", "_law_thing_here", "_law_many", "_law_some", "_law_text", "_law_pair"]) (sc := defScope sMade) (by decide +kernel)) (fun _ _ _ _ _ => pg_name (i := 7) nd rfl (Or.inl rfl)) (fun _ _ _ _ _ => pts_one (pt_cmpR op_ne (pe_ix ix_tup (pv 7) pe_int (fun _ _ => rfl)) pe_int (nomark _))) (fun _ _ _ _ _ => pv 7)) pa_nil)) pa_nil))))))), ?_⟩
    have showV : ∀ {H' : Hp} {σ : L2.St} {e : Pc} {Q : VK}, PcOk H' W e → σ[3]? = some (some (.ref e.ta)) → Q (.str e.k.data.shown) H' → tCB rRepr (tCons (tVar 3) tNil) σ H' Q := fun {H' σ e Q} ok hσ q => by
      obtain ⟨s1, s2, s3, s4⟩ := U.sh _ ok.2.2
      exact ⟨_, hσ, _, e.k, rfl, ok.2.1, s1, s2, s3, by have := U.dep _ ok.2.2; omega, Nat.le_trans s4 (by decide), q⟩
    refine q_setE ?_
    intro d hd
    have hd0 : (upd H d (.dK [])) d = some (.dK (dP [])) := upd_same
    have s0 : Same H (upd H d (.dK [])) := same_upd hd
    generalize upd H d (.dK []) = H0 at hd0 s0 ⊢
    refine q_seq ⟨_, rfl, lp, rfl, ⟨_, SqL.of (s0 _ _ hlp)⟩, for_list (K := K) (a := lp) (xs := prs.map fun e => .ref e.pa)
      (fun i σ H' => ∃ acc v3 v4, σ = [some (.int c), some (.ref lp), some (.ref d), v3, v4, none, none, none] ∧ H' d = some (.dK (dP acc)) ∧ Same H H' ∧ (∀ e ∈ acc, PcOk H' W e) ∧ (acc.map (·.k)).Nodup ∧ (∀ t, csP acc t = csP (prs.take i) t))
      ⟨[], none, none, rfl, hd0, s0, fun e he => (nomatch he), List.nodup_nil, fun t => rfl⟩ (fun i σ H' _ ⟨_, _, _, _, _, s, _⟩ => SqL.of (s _ _ hlp)) ?_ ?_⟩
    · rintro i x σ H' hi ⟨acc, v3, v4, rfl, hdd, sH, hacc, hnd, hcs⟩
      rw [List.getElem?_map] at hi
      cases ee : prs[i]? with
      | none => rw [ee] at hi; cases hi
      | some e =>
        rw [ee] at hi
        cases hi
        have ok := (hpr e (List.mem_of_getElem? ee)).tk (Tk.of sH)
        have hW : ∀ e ∈ acc, e.k ∈ W := fun e he => (hacc e he).2.2
        have hlen : acc.length ≤ 12 := by
          have := nodup_le _ W hnd fun x hx => by
            obtain ⟨en, m, rfl⟩ := List.mem_map.mp hx
            exact hW en m
          rw [List.length_map] at this
          have := U.len
          omega
        refine ⟨e.pa, _, rfl, .inl ok.1, rfl, _, _, rfl, _, _, rfl, rfl, ?_⟩
        -- the value
        refine ⟨_, rfl, _, rfl, d, rfl, .inl ⟨_, .inl hdd⟩, showV ok rfl ?_⟩
        refine ⟨_, rfl, by show 2 ≤ sizeLine; decide, fun z hz => ?_⟩
        have hdz : d ≠ z := ne_of_none hdd hz
        have sz : Same H' (upd H' z (.tup [.ref e.ta, .int 0])) := same_upd hz
        have okz := ok.tk (Tk.of sz)
        refine ⟨_, DGet.k (k := Sum.inr e.k.data.shown) (sz _ _ hdd), ?_⟩
        -- what stood there
        have hold : ∃ p t, ((valV (dP acc) (Sum.inr e.k.data.shown)).getD (.ref z)) = .ref p ∧ Rd (upd H' z (.tup [.ref e.ta, .int 0])) p (.tup [t, .int (csP acc e.k)]) := by
          rw [dP_val U e.k ok.2.2 acc hW]
          cases ef : acc.find? fun a => decide (a.k = e.k) with
          | none => exact ⟨z, .ref e.ta, rfl, by
              rw [csP_none (fun hm => by
                obtain ⟨a, m, z⟩ := List.mem_map.mp hm
                have := List.find?_eq_none.mp ef a m
                simp [z] at this)]
              exact .inl upd_same⟩
          | some a =>
            have hm := List.mem_of_find?_eq_some ef
            have hk : a.k = e.k := by have := List.find?_some ef; simpa using this
            have hv : a.m = csP acc e.k := by
              rw [← cfP_cs e.k acc hnd]
              unfold cfP
              rw [ef]; rfl
            exact ⟨a.pa, .ref a.ta, rfl, by rw [← hv]; exact (Tk.of sz).rd (hacc a hm).1⟩
        obtain ⟨p, t, hp1, hp2⟩ := hold
        rw [hp1]
        refine ⟨p, _, 1, .int (csP acc e.k), rfl, rfl, .inl hp2, rfl, ?_⟩
        refine ⟨_, rfl, _, _, rfl, rfl, ?_⟩
        refine ⟨by show 2 ≤ sizeLine; decide, fun y hy => ?_⟩
        have sy : Same (upd H' z (.tup [.ref e.ta, .int 0])) (upd (upd H' z (.tup [.ref e.ta, .int 0])) y (.tup [.ref e.ta, .int (csP acc e.k + e.m)])) := same_upd hy
        have hy1 : (upd (upd H' z (.tup [.ref e.ta, .int 0])) y (.tup [.ref e.ta, .int (csP acc e.k + e.m)])) y = some (.tup [.ref e.ta, .int (csP acc e.k + e.m)]) := upd_same
        generalize upd (upd H' z (.tup [.ref e.ta, .int 0])) y (.tup [.ref e.ta, .int (csP acc e.k + e.m)]) = H2 at sy hy1 ⊢
        have s2 : Same H' H2 := sz.trans sy
        have ok2 := ok.tk (Tk.of s2)
        refine ⟨_, rfl, showV ok2 rfl ?_⟩
        refine ⟨d, _, rfl, DPut.k (k := Sum.inr e.k.data.shown) (s2 _ _ hdd) (by show (dP acc).length < _; unfold dP; rw [List.length_map]; exact small100 (by omega)), ?_⟩
        have hput := dP_put U ⟨y, e.ta, e.k, csP acc e.k + e.m⟩ ok.2.2 acc hW
        refine ⟨putP acc ⟨y, e.ta, e.k, csP acc e.k + e.m⟩, _, _, rfl, by rw [upd_same]; exact congrArg (fun z => some (HO.dK z)) hput, fun c0 o0 h0 => ?_, fun a ha => ?_, ?_, fun t0 => ?_⟩
        · have hc0 : c0 ≠ d := ne_of_none h0 hd
          rw [upd_ne hc0]; exact s2 _ _ (sH _ _ h0)
        · have tkd : Tk H2 (upd H2 d (.dK (putK (dP acc) (Sum.inr e.k.data.shown) (.ref y)))) := Tk.upd (s2 _ _ hdd) trivial
          refine PcOk.tk ?_ tkd
          unfold putP at ha
          have hnew : PcOk H2 W ⟨y, e.ta, e.k, csP acc e.k + e.m⟩ := ⟨.inl hy1, ok2.2.1, ok2.2.2⟩
          split at ha
          · obtain ⟨a', m, rfl⟩ := List.mem_map.mp ha
            split
            · exact hnew
            · exact (hacc a' m).tk (Tk.of s2)
          · rcases List.mem_append.mp ha with m | m
            · exact (hacc a m).tk (Tk.of s2)
            · rw [List.mem_singleton] at m; subst m; exact hnew
        · rw [putP_keys]
          split
          · exact hnd
          · rename_i hn
            rw [List.nodup_append]
            exact ⟨hnd, by simp, fun x hx y hy z => by
              rw [List.mem_singleton] at hy
              exact hn (by rw [← hy, ← z]; exact hx)⟩
        · rw [csP_put acc _ hnd, hcs, take_succ_get ee, csP_app, csP_cons]
          congr 1
          show (if e.k = t0 then (csP acc e.k + e.m) - csP acc e.k else 0) = (if e.k = t0 then e.m else 0) + 0
          split <;> omega
    · rintro σ H' ⟨acc, v3, v4, rfl, hdd, sH, hacc, hnd, hcs⟩
      rw [List.length_map, List.take_of_length_le (Nat.le_refl _)] at hcs
      have hW : ∀ e ∈ acc, e.k ∈ W := fun e he => (hacc e he).2.2
      have hlen : acc.length ≤ 12 := by
        have := nodup_le _ W hnd fun x hx => by
          obtain ⟨en, m, rfl⟩ := List.mem_map.mp hx
          exact hW en m
        rw [List.length_map] at this
        have := U.len
        omega
      have hkeys : (dP acc).map (·.1) = (acc.map fun e => e.k.data.shown).map Sum.inr := by unfold dP; rw [List.map_map, List.map_map]; rfl
      dsimp only
      refine q_setE ?_
      refine ⟨_, rfl, d, dP acc, acc.map fun e => e.k.data.shown, rfl, .inl hdd, hkeys, by rw [List.length_map]; omega, fun ys l hperm _ hl => ?_⟩
      obtain ⟨acc', ha', rfl⟩ := perm_map_ex (fun e : Pc => e.k.data.shown) hperm acc rfl
      have s1 : Same H' (upd H' l (.lst ((acc'.map fun e => e.k.data.shown).map V.str))) := same_upd hl
      have hl1 : (upd H' l (.lst ((acc'.map fun e => e.k.data.shown).map V.str))) l = some (.lst (acc'.map fun e => V.str e.k.data.shown)) := by rw [upd_same, List.map_map]; rfl
      generalize upd H' l (.lst ((acc'.map fun e => e.k.data.shown).map V.str)) = H1 at s1 hl1 ⊢
      have hlen' : acc'.length ≤ 12 := by rw [ha'.length_eq]; exact hlen
      refine ⟨l, rfl, ⟨_, SqL.of hl1⟩, fun D1 nD1 => lcM_in (K := K) acc' (fun e => V.str e.k.data.shown) (fun e => V.ref e.pa) hl1 (by omega) (by intro x; rfl) (fun e H'' he s' Q q => ⟨_, rfl, _, rfl, d, _, rfl, ?dg, q⟩) nD1 ?_⟩
      case dg =>
        have hm := ha'.mem_iff.mp he
        have hv := dP_val U e.k (hW e hm) acc hW
        have hf : (acc.find? fun a => decide (a.k = e.k)) = some e := by
          cases ef : acc.find? fun a => decide (a.k = e.k) with
          | none => exact absurd (List.find?_eq_none.mp ef e hm) (by simp)
          | some a =>
            have hk : a.k = e.k := by have := List.find?_some ef; simpa using this
            have h2 := hnd
            rw [List.nodup_iff_pairwise_ne, List.pairwise_map] at h2
            congr 1
            apply Classical.byContradiction
            intro hne
            have hma := List.mem_of_find?_eq_some ef
            obtain ⟨i, hi, ei⟩ := List.getElem_of_mem hma
            obtain ⟨j, hj, ej⟩ := List.getElem_of_mem hm
            rw [List.pairwise_iff_getElem] at h2
            rcases Nat.lt_trichotomy i j with z | z | z
            · exact h2 i j hi hj z (by rw [ei, ej]; exact hk)
            · subst z; exact hne (ei.symm.trans ej)
            · exact h2 j i hj hi z (by rw [ei, ej]; exact hk.symm)
        rw [hf] at hv
        have h3 := DGet.k (k := Sum.inr e.k.data.shown) (s' _ _ (s1 _ _ hdd))
        rw [hv] at h3
        exact h3
      have s2 : Same H1 (upd H1 D1 (.lst (acc'.map fun e => V.ref e.pa))) := same_upd nD1
      have hD1 : (upd H1 D1 (.lst (acc'.map fun e => V.ref e.pa))) D1 = some (.lst (acc'.map fun e => V.ref e.pa)) := upd_same
      generalize upd H1 D1 (.lst (acc'.map fun e => V.ref e.pa)) = H2 at s2 hD1 ⊢
      have hacc2 : ∀ e ∈ acc', PcOk H2 W e := fun e he => (hacc e (ha'.mem_iff.mp he)).tk (Tk.of (s1.trans s2))
      refine ⟨D1, _, acc'.map fun e => .tup [e.k, .num e.m], rfl, SqL.of hD1, pairs_cmp U (fun e he => (hacc2 e he).2.2), fun x hx => ?_, fun ys2 p2 hp2 h2 => ?_⟩
      · obtain ⟨e, m, rfl⟩ := List.mem_map.mp hx
        exact ⟨_, List.mem_map.mpr ⟨e, m, rfl⟩, (hacc2 e m).kd⟩
      obtain ⟨a2, ha2, rfl⟩ := perm_map_ex (fun e : Pc => V.ref e.pa) hp2 acc' rfl
      have s3 : Same H2 (upd H2 p2 (.lst (a2.map fun e => V.ref e.pa))) := same_upd h2
      have hp3 : (upd H2 p2 (.lst (a2.map fun e => V.ref e.pa))) p2 = some (.lst (a2.map fun e => V.ref e.pa)) := upd_same
      generalize upd H2 p2 (.lst (a2.map fun e => V.ref e.pa)) = H3 at s3 hp3 ⊢
      have hacc3 : ∀ e ∈ a2, PcOk H3 W e := fun e he => (hacc2 e (ha2.mem_iff.mp he)).tk (Tk.of s3)
      have hlen2 : a2.length ≤ 12 := by rw [ha2.length_eq]; exact hlen'
      refine ⟨_, rfl, _, rfl, p2, rfl, ⟨_, SqL.of hp3⟩, fun D2 nD2 => lc_list (K := K) (a := p2) (xs := a2.map fun e => .ref e.pa)
        (fun i H'' => H'' = upd H3 D2 (.lst (((a2.take i).filter fun e => !decide (e.m = 0)).map fun e => V.ref e.pa))) rfl (fun i H'' _ e => by rw [e]; exact SqL.of (same_upd nD2 _ _ hp3)) ?_ ?_⟩
      · rintro i x H'' hi rfl
        rw [List.getElem?_map] at hi
        cases ee : a2[i]? with
        | none => rw [ee] at hi; cases hi
        | some e =>
          rw [ee] at hi
          cases hi
          have ok := (hacc3 e (List.mem_of_getElem? ee)).tk (Tk.of (same_upd (o := .lst (((a2.take i).filter fun e => !decide (e.m = 0)).map fun e => V.ref e.pa)) nD2))
          refine ⟨rfl, ?_⟩
          refine ⟨_, rfl, e.pa, _, 1, .int e.m, rfl, rfl, .inl ok.1, rfl, rfl, ⟨_, rfl, ?_⟩⟩
          rw [take_succ_get ee, List.filter_append]
          by_cases h0 : e.m = 0
          · rw [decide_eq_true (show V.int e.m = V.int 0 by rw [h0])]
            refine iteF ?_
            show upd H3 D2 _ = _
            rw [List.filter_cons_of_neg (by simp [h0]), List.filter_nil, List.append_nil]
          · rw [decide_eq_false (fun z => h0 (V.int.inj z))]
            refine iteT ⟨_, rfl, _, upd_same, ?_, ?_⟩
            · rw [List.length_map]
              have := List.length_filter_le (fun e : Pc => !decide (e.m = 0)) (a2.take i)
              rw [List.length_take] at this
              exact small100 (by omega)
            · rw [upd_upd, List.filter_cons_of_pos (by simp [h0]), List.filter_nil, List.map_append]; rfl
      · rintro H'' rfl
        rw [List.length_map, List.take_of_length_le (Nat.le_refl _)]
        have s4 : Same H3 (upd H3 D2 (.lst ((a2.filter fun e => !decide (e.m = 0)).map fun e => V.ref e.pa))) := same_upd nD2
        have hD4 : (upd H3 D2 (.lst ((a2.filter fun e => !decide (e.m = 0)).map fun e => V.ref e.pa))) D2 = some (.lst ((a2.filter fun e => !decide (e.m = 0)).map fun e => V.ref e.pa)) := upd_same
        generalize upd H3 D2 (.lst ((a2.filter fun e => !decide (e.m = 0)).map fun e => V.ref e.pa)) = H4 at s4 hD4 ⊢
        refine ⟨D2, _, rfl, SqL.of hD4, fun tp o htp hod => ⟨by show 2 ≤ sizeLine; decide, fun a ha => ?_⟩⟩
        have s5 : Same H4 (upd H4 tp (.frz o (.tup ((a2.filter fun e => !decide (e.m = 0)).map fun e => V.ref e.pa)))) := same_upd htp
        have hat : tp ≠ a := fun z => by rw [← z, upd_same] at ha; cases ha
        have s6 := same_upd (o := .tup [.int c, .ref tp]) ha
        have perm : a2.Perm acc := ha2.trans ha'
        have nd2 : (a2.map (·.k)).Nodup := ((perm.map (·.k)).nodup_iff).mpr hnd
        have nd3 : ((a2.filter fun e => !decide (e.m = 0)).map (·.k)).Nodup := by
          rw [List.nodup_iff_pairwise_ne, List.pairwise_map] at nd2 ⊢
          exact nd2.filter _
        refine k ⟨a, tp, c, a2.filter fun e => !decide (e.m = 0)⟩ _ ((((sH.trans s1).trans s2).trans (s3.trans (s4.trans s5))).trans s6) ⟨.inl upd_same, ⟨o, by rw [upd_ne hat, upd_same], hod⟩, fun e he => ?_, nd3⟩ rfl (fun t => ?_) fun e he => ?_
        · have hm : e ∈ a2 := (List.mem_filter.mp he).1
          exact (hacc3 e hm).tk (Tk.of ((s4.trans s5).trans s6))
        · show cfP _ t = _
          rw [cfP_cs t _ nd3, csP_filter, csP_perm perm, hcs]
        · have := (List.mem_filter.mp he).2
          simpa using this
end
end K47
end
section
set_option Elab.async false
set_option maxRecDepth 100000
set_option maxHeartbeats 4000000
set_option autoImplicit false
/-! sum. -/
namespace K47
open PySem L2 PySem.Spec PyProof.Rows
theorem FmOk.len {H : Hp} {W : List NK} {f : Fm} (U : Uni W) (h : FmOk H W f) : f.es.length ≤ 12 := by
  have := nodup_le _ W h.nd fun x hx => by
    obtain ⟨en, m, rfl⟩ := List.mem_map.mp hx
    exact (h.pc en m).2.2
  rw [List.length_map] at this
  have := U.len
  omega
theorem FmOk.cs {H : Hp} {W : List NK} {f : Fm} (h : FmOk H W f) (t : NK) : f.cf t = csP f.es t := cfP_cs t _ h.nd
def scaleP (many : Int) (prs : List Pc) (es : List Pc) : Prop := prs.map (fun e => (e.k, e.m)) = es.map fun e => (e.k, many * e.m)
theorem csP_pairs (t : NK) : ∀ prs : List Pc, csP prs t = ((prs.map fun e => (e.k, e.m)).map fun z => if z.1 = t then z.2 else 0).sum
  | [] => rfl
  | e :: prs => by rw [csP_cons, csP_pairs t prs]; rfl
theorem csP_scale {many : Int} {prs es : List Pc} (h : scaleP many prs es) (t : NK) : csP prs t = many * csP es t := by
  rw [csP_pairs, h]
  clear h
  induction es with
  | nil => rw [show csP [] t = 0 from rfl, Int.mul_zero]; rfl
  | cons e es ih =>
    rw [List.map_cons, List.map_cons, List.sum_cons, ih, csP_cons, Int.mul_add]
    congr 1
    show (if e.k = t then many * e.m else 0) = _
    split
    · rfl
    · rw [Int.mul_zero]
def Sm64 (x : Int) : Prop := -(2 ^ 64) < x ∧ x < 2 ^ 64
def spSum : Sp := fun vs H Q _ => ∃ (one other : Fm) (many : Int) (W : List NK), vs = [.ref one.a, .ref other.a, .int many] ∧ FmOk H W one ∧ FmOk H W other ∧ Uni W ∧ (Sm64 many ∨ (Sm64 other.c ∧ ∀ e ∈ other.es, Sm64 e.m)) ∧
  ∀ f H', Same H H' → FmOk H' W f → f.c = one.c + many * other.c → (∀ t, f.cf t = one.cf t + many * other.cf t) → Nz f → Q (.ref f.a) H'
theorem scSum : FnScope ["_law_one_here", "_law_other", "_law_many", "_law_pairs", "_law_thing_here", "_law_often"] ["_law_one_here", "_law_other", "_law_many"] (defScope sSum) := ⟨rfl, rfl, rfl, by decide +kernel, rfl, by decide +kernel, by decide +kernel⟩
section
variable {P : Program} {w : World} {K : PySem.W.Frag} {mg : Str → Option Value} {base : Heap} {C : Addr}
theorem cal_sum (D : Df K mg "_law_sum" sSum ["_law_one_here", "_law_other", "_law_many"]) (cM : CalG P w K mg base "_law_made" 1 ["_law_number", "_law_pairs"] spMade) (Y : Txt K mg C) : CalG P w K mg base "_law_sum" 2 ["_law_one_here", "_law_other", "_law_many"] spSum := by
  obtain ⟨fM, fdM, GM, mM, kM, bM⟩ := cM
  refine D.calG scSum (fun vs H Q E h => ?_) (fun _ _ cdv A outer s H vs Q E gd hr h => ?_)
  · obtain ⟨_, _, _, _, rfl, _⟩ := h
    rfl
  · obtain ⟨one, other, many, W, rfl, F1, F2, U, hsm, k⟩ := h
    have nd := scSum.nd
    refine ⟨_, pss_cons (ps_setLc (i := 3) (own := [("_law_thing_here", 4), ("_law_often", 5)]) (g := gTup K 2 (gCons (gName 4) (gCons (gName 5) gNil))) (tt := tYes) (te := tTup (tCons (tVar 4) (tCons (iMulS (tVar 2) (tVar 5)) tNil))) rfl nd rfl rfl (sw_true rfl rfl rfl (by decide +kernel)) (pi_tup (pe_ix ix_tup (pv 1) pe_int (fun _ _ => rfl)))
        (blkOk_by (N := ["_law_one_here", "_law_other", "_law_many", "_law_pairs", "_law_thing_here", "_law_often"]) (sc := defScope sSum) (by decide +kernel)) (fun _ _ _ _ _ => pg_tup rfl (pgs_cons (pg_name (i := 4) nd rfl (Or.inl rfl)) (pgs_cons (pg_name (i := 5) nd rfl (Or.inl rfl)) pgs_nil))) (fun _ _ _ _ _ => pts_nil)
        (fun _ _ _ _ _ => pe_tup (pa_cons (pv 4) (pa_cons (pe_op op_mul (pv 2) (pv 5)) pa_nil))))
      (pss_one (ps_ret (pe_callG GM gd hr (by rfl) mM kM bM (pa_cons (pe_op op_add (pe_ix ix_tup (pv 0) pe_int (fun _ _ => rfl)) (pe_op op_mul (pv 2) (pe_ix ix_tup (pv 1) pe_int (fun _ _ => rfl)))) (pa_cons (pe_op op_cat (pe_callTy call_list_of (by rfl) Y.list (by decide +kernel) (pa_cons (pe_ix ix_tup (pv 0) pe_int (fun _ _ => rfl)) pa_nil)) (pv 3)) pa_nil))))), ?_⟩
    have hl2 := F2.len U
    have hl1 := F1.len U
    refine q_setE ?_
    refine ⟨_, rfl, other.a, _, 1, .ref other.p, rfl, rfl, .inl F2.at_, rfl, other.p, rfl, ⟨_, .inl F2.ps.rd⟩, fun D1 nD1 => lc_tup (K := K) (a := other.p) (xs := other.es.map fun e => .ref e.pa)
      (fun i H' => Same H H' ∧ ∃ prs : List Pc, H' D1 = some (.lst (prs.map fun e => V.ref e.pa)) ∧ (∀ e ∈ prs, PcOk H' W e) ∧ scaleP many prs (other.es.take i)) ⟨same_upd nD1, [], upd_same, fun e he => (nomatch he), rfl⟩
      (fun i H' _ ⟨s, _⟩ => .inl ((F2.tk (Tk.of s)).ps.rd)) ?_ ?_⟩
    · rintro i x H' hi ⟨s, prs, hD, hp, hs⟩
      rw [List.getElem?_map] at hi
      cases ee : other.es[i]? with
      | none => rw [ee] at hi; cases hi
      | some e =>
        rw [ee] at hi
        cases hi
        have hm := List.mem_of_getElem? ee
        have ok : PcOk H' W e := PcOk.tk (F2.pc e hm) (Tk.of s)
        have hc : CMul many e.m := by
          rcases hsm with h | h
          · exact .inl h
          · exact .inr (h.2 e hm)
        refine ⟨e.pa, _, rfl, .inl ok.1, rfl, _, _, rfl, _, _, rfl, rfl, rfl, ?_⟩
        refine ⟨_, rfl, _, rfl, _, rfl, _, _, rfl, rfl, hc, by show 2 ≤ sizeLine; decide, fun a ha => ?_⟩
        have hDa : D1 ≠ a := ne_of_none hD ha
        have s1 : Same H' (upd H' a (.tup [.ref e.ta, .int (many * e.m)])) := same_upd ha
        have hlen := congrArg List.length hs
        rw [List.length_map, List.length_map, List.length_take] at hlen
        refine ⟨_, s1 _ _ hD, by rw [List.length_map]; exact small100 (by omega), fun c o h => ?_, prs ++ [⟨a, e.ta, e.k, many * e.m⟩], ?_, fun e' he' => ?_, ?_⟩
        · have h1 := s1 _ _ (s c o h)
          rw [upd_ne (ne_of_none h nD1)]; exact h1
        · rw [upd_same, List.map_append]; rfl
        · have tk1 : Tk (upd H' a (.tup [.ref e.ta, .int (many * e.m)])) (upd (upd H' a (.tup [.ref e.ta, .int (many * e.m)])) D1 (.lst (prs.map (fun e => V.ref e.pa) ++ [.ref a]))) := Tk.upd (s1 _ _ hD) trivial
          refine PcOk.tk ?_ tk1
          rcases List.mem_append.mp he' with m | m
          · exact (hp e' m).tk (Tk.of s1)
          · rw [List.mem_singleton] at m
            subst m
            exact ⟨.inl upd_same, (ok.tk (Tk.of s1)).2⟩
        · unfold scaleP at hs ⊢
          rw [List.map_append, hs, take_succ_get ee, List.map_append]; rfl
    · rintro H' ⟨s, prs, hD, hp, hs⟩
      rw [List.length_map, List.take_of_length_le (Nat.le_refl _)] at hs
      have F1' := F1.tk (Tk.of s)
      have F2' := F2.tk (Tk.of s)
      have hc : CMul many other.c := by
        rcases hsm with h | h
        · exact .inl h
        · exact .inr h.1
      refine ⟨_, rfl, one.a, _, 0, .int one.c, rfl, rfl, .inl F1'.at_, rfl, _, rfl, _, rfl, other.a, _, 0, .int other.c, rfl, rfl, .inl F2'.at_, rfl, _, _, rfl, rfl, hc, _, _, rfl, rfl, ?_⟩
      refine ⟨_, rfl, one.a, _, 1, .ref one.p, rfl, rfl, .inl F1'.at_, rfl, one.p, _, rfl, .inr (.inl F1'.ps.rd), fun l hl => ?_⟩
      have s1 := same_upd (o := .lst (one.es.map fun e => V.ref e.pa)) hl
      have hlD : l ≠ D1 := fun z => by rw [z, hD] at hl; cases hl
      have hlen := congrArg List.length hs
      rw [List.length_map, List.length_map] at hlen
      refine ⟨_, rfl, l, D1, _, _, rfl, rfl, upd_same, s1 _ _ hD, ?_, fun z hz => ?_⟩
      · rw [List.length_map, List.length_map]; have : 24 ≤ sizeLine := by decide
        omega
      have s2 := same_upd (o := .lst ((one.es.map fun e => V.ref e.pa) ++ prs.map fun e => V.ref e.pa)) hz
      refine ⟨one.c + many * other.c, z, one.es ++ prs, W, rfl, by rw [upd_same, List.map_append], fun e he => ?_, U, fun f H4 s4 F4 c4 cf4 nz4 => ?_⟩
      · have tk := Tk.of (s1.trans s2)
        rcases List.mem_append.mp he with m | m
        · exact PcOk.tk (F1'.pc e m) tk
        · exact (hp e m).tk tk
      · refine k f H4 (((s.trans s1).trans s2).trans s4) F4 c4 (fun t => ?_) nz4
        rw [cf4 t, csP_app, F1.cs t, F2.cs t, csP_scale hs]
end
end K47
end
section
set_option Elab.async false
set_option maxRecDepth 100000
set_option maxHeartbeats 4000000
set_option autoImplicit false
/-! things, linear. -/
namespace K47
open PySem L2 PySem.Spec PyProof.Rows
/-- an expression that makes nested data -/
def Mkd (te : TE) (k : NK) : Prop := ∀ (σ : L2.St) (H : Hp) (Q : VK), (∀ v H', Same H H' → KD H' k v → Q v H') → te σ H Q
def MkA (ta : TA) (ks : List NK) : Prop := ∀ (σ : L2.St) (H : Hp) (Q : List V → Hp → Prop), (∀ vs H', Same H H' → KDs H' ks vs → Q vs H') → ta σ H Q
theorem mk_int (i : Int) : Mkd (tC (.int i)) (.num i) := fun _ H _ q => q _ H (Same.refl H) (.int i)
theorem mk_str (x : Str) : Mkd (tC (.str x)) (.text x) := fun _ H _ q => q _ H (Same.refl H) (.text x)
theorem mka_nil : MkA tNil [] := fun _ H _ q => q _ H (Same.refl H) .nil
theorem mka_cons {te : TE} {ta : TA} {k : NK} {ks : List NK} (h : Mkd te k) (r : MkA ta ks) : MkA (tCons te ta) (k :: ks) := fun σ H Q q => h σ H _ fun v H1 s1 kd => r σ H1 _ fun vs H2 s2 kds => q _ H2 (s1.trans s2) (.cons (kd.stay (Tst.of s2) _ _) kds)
theorem mk_tup {ta : TA} {ks : List NK} (h : MkA ta ks) (hl : ks.length ≤ 100) : Mkd (tTup ta) (.tup ks) := fun σ H Q q => h σ H _ fun vs H1 s1 kds => ⟨by rw [kds.len]; exact Nat.le_trans hl (by decide), fun p hp => q _ _ (s1.trans (same_upd hp)) (.tup (.inl upd_same) (KDs.stay (Tst.of (same_upd hp)) _ _ kds))⟩
def kN (i : Int) : NK := .tup [.text "n", .num i]
def kR (i : Int) : NK := .tup [.text "r", .num i]
def kF0 (i : Int) : NK := .tup [.num i, .tup []]
def kF1 (i : Int) (k : NK) : NK := .tup [.num i, .tup [.tup [k, .num 1]]]
def U7 : List NK := [kN 0, kN 1, kN 7, .tup [.text "len", kR 0], .tup [.text "at", kR 0, kF0 1], .tup [.text "div", kF1 0 (kN 0), .num 3], .tup [.text "at", .tup [.text "put", kR 1, kF0 0, kF0 2], kF1 0 (kN 1)]]
def N12 : List NK := (List.range 12).map fun i => kN (i : Nat)
def uniB (W : List NK) : Bool := W.all fun a => decide (a.depth ≤ 6) && (match a with | .tup (.text _ :: _) => true | _ => false) && a.data.showable && !a.data.hasDict && decide (a.data.shown.length ≤ 1000) && tOk a && W.all fun b => cmpOk a b && (!decide (a.data.shown = b.data.shown) || NestedKey.beq a b)
theorem uni_of {W : List NK} (h : uniB W = true) (hl : W.length ≤ 12) : Uni W := by
  unfold uniB at h
  rw [List.all_eq_true] at h
  have h' : ∀ a ∈ W, (a.depth ≤ 6 ∧ (match a with | .tup (.text _ :: _) => true | _ => false) = true ∧ a.data.showable = true ∧ a.data.hasDict = false ∧ a.data.shown.length ≤ 1000 ∧ tOk a = true) ∧ ∀ b ∈ W, cmpOk a b = true ∧ (a.data.shown = b.data.shown → a = b) := fun a ha => by
    have z := h a ha
    simp only [Bool.and_eq_true, decide_eq_true_eq, Bool.not_eq_true', List.all_eq_true] at z
    obtain ⟨⟨⟨⟨⟨⟨z1, z2⟩, z3⟩, z4⟩, z5⟩, z7⟩, z6⟩ := z
    refine ⟨⟨z1, z2, z3, z4, z5, z7⟩, fun b hb => ⟨(z6 b hb).1, fun e => ?_⟩⟩
    rcases Bool.or_eq_true_iff.mp (z6 b hb).2 with y | y
    · rw [decide_eq_true e] at y; cases y
    · exact NestedKey.eq_of_beq _ _ y
  have hd : ∀ a ∈ W, ∃ x r, a = .tup (.text x :: r) := fun a ha => by
    have := (h' a ha).1.2.1
    split at this
    · exact ⟨_, _, rfl⟩
    · cases this
  refine ⟨⟨fun k hk => Nat.le_trans (h' k hk).1.1 (by omega), fun a ha b hb => ((h' a ha).2 b hb).1, .inl hd⟩, fun k hk => (h' k hk).1.1, fun k hk => ?_, fun a ha b hb => ((h' a ha).2 b hb).2, hl, fun k hk => (h' k hk).1.2.2.2.2.2⟩
  obtain ⟨x, r, e⟩ := hd k hk
  obtain ⟨_, _, z3, z4, z5, _⟩ := (h' k hk).1
  exact ⟨⟨_, e⟩, z3, z4, z5⟩
theorem uni7 : Uni U7 := uni_of (by decide +kernel) (by decide)
theorem uni12 : Uni N12 := uni_of (by decide +kernel) (by decide)
end K47
end
section
set_option Elab.async false
set_option maxRecDepth 100000
set_option maxHeartbeats 4000000
set_option autoImplicit false
/-! things, linear: the walks. -/
namespace K47
open PySem L2 PySem.Spec PyProof.Rows
theorem kds_refs {H : Hp} : ∀ {ks : List NK} {vs : List V}, (∀ k ∈ ks, ∃ l, k = .tup l) → KDs H ks vs → ∃ as : List Addr, vs = as.map V.ref ∧ as.length = ks.length ∧ ∀ i, i < ks.length → KD H (ks.getD i .none) (.ref (as.getD i 0))
  | [], _, _, h => ⟨[], by rw [h.nil_inv]; rfl, rfl, fun i hi => absurd hi (Nat.not_lt_zero _)⟩
  | k :: ks, _, ht, h => by
    obtain ⟨x, r, rfl, h1, h2⟩ := h.cons_inv
    obtain ⟨l, e⟩ := ht k List.mem_cons_self
    subst e
    obtain ⟨a, _, rfl, _⟩ := (id h1).tup_inv
    obtain ⟨as, rfl, e2, e3⟩ := kds_refs (fun k hk => ht k (List.mem_cons_of_mem _ hk)) h2
    refine ⟨a :: as, rfl, by rw [List.length_cons, List.length_cons, e2], fun i hi => ?_⟩
    cases i with
    | zero => exact h1
    | succ i => exact e3 i (Nat.lt_of_succ_lt_succ hi)
theorem kds_snoc {H : Hp} {k : NK} {v : V} (hk : KD H k v) : ∀ {ks : List NK} {vs : List V}, KDs H ks vs → KDs H (ks ++ [k]) (vs ++ [v])
  | [], _, h => by rw [h.nil_inv]; exact .cons hk .nil
  | k0 :: ks, _, h => by obtain ⟨x, r, rfl, h1, h2⟩ := h.cons_inv; exact .cons h1 (kds_snoc hk h2)
/-- things on the heap -/
def ThOk (H : Hp) (W : List NK) (ths : List (Addr × NK)) : Prop := (∀ t ∈ ths, KD H t.2 (.ref t.1) ∧ t.2 ∈ W) ∧ (ths.map (·.2)).Nodup
theorem ThOk.tk {H H' : Hp} {W : List NK} {ths : List (Addr × NK)} (h : ThOk H W ths) (t : Tk H H') : ThOk H' W ths := ⟨fun x hx => ⟨(h.1 x hx).1.stay t.tst _ _, (h.1 x hx).2⟩, h.2⟩
def spThings : Sp := fun vs H Q _ => ∃ (q : Addr) (n : Nat), vs = [.ref q] ∧ FdAt H q n ∧ n ≤ 999000 ∧
  ∀ l ths H', Fz q H H' → FdAt H' q (n + 2) → H l = none → H' l = some (.lst (ths.map fun t => V.ref t.1)) → 1 ≤ ths.length → ths.length ≤ 5 → ThOk H' U7 ths → Q (.ref l) H'
theorem scThings : FnScope ["_law_feed_here", "_law_every", "_law_first", "_law_k"] ["_law_feed_here"] (defScope sThings) := ⟨rfl, rfl, rfl, by decide +kernel, rfl, by decide +kernel, by decide +kernel⟩
theorem u7_tup : ∀ k ∈ U7, ∃ l, k = .tup l := fun k hk => let ⟨a, _⟩ := uni7.sh k hk; a
theorem u7_nd : U7.Nodup := by decide +kernel
section
variable {P : Program} {w : World} {K : PySem.W.Frag} {mg : Str → Option Value} {base : Heap} {C : Addr}
theorem cal_things (D : Df K mg "_law_things" sThings ["_law_feed_here"]) (cN : Cal P w K mg base "_law_next" 1 ["_law_feed_here", "_law_many"] spNext) (Y : Txt K mg C) : Cal P w K mg base "_law_things" 2 ["_law_feed_here"] spThings := by
  obtain ⟨fN, fdN, GN, mN, kN', bN⟩ := cN
  refine D.cal scThings (fun vs H Q E h => ?_) (fun _ _ cdv A outer s H vs Q E hr h => ?_)
  · obtain ⟨_, _, rfl, _⟩ := h
    rfl
  · obtain ⟨q, n, rfl, hfd, hn, k⟩ := h
    have nd := scThings.nd
    refine ⟨_, pss_cons (ps_set (i := 1) nd rfl (Or.inr rfl) (pe_lst (pa_cons ((pe_tup (pa_cons pe_str (pa_cons pe_int pa_nil)))) (pa_cons ((pe_tup (pa_cons pe_str (pa_cons pe_int pa_nil)))) (pa_cons ((pe_tup (pa_cons pe_str (pa_cons pe_int pa_nil)))) (pa_cons ((pe_tup (pa_cons pe_str (pa_cons ((pe_tup (pa_cons pe_str (pa_cons pe_int pa_nil)))) pa_nil)))) (pa_cons ((pe_tup (pa_cons pe_str (pa_cons ((pe_tup (pa_cons pe_str (pa_cons pe_int pa_nil)))) (pa_cons ((pe_tup (pa_cons pe_int (pa_cons (pe_tup pa_nil) pa_nil)))) pa_nil))))) pa_nil)))))))
      (pss_cons (ps_expr (pe_bm PySem.F.plainAttrs_list PySem.F.slot_list_append PySem.F.type_list_append mt_append (pv 1) (pa_cons ((pe_tup (pa_cons pe_str (pa_cons ((pe_tup (pa_cons pe_int (pa_cons ((pe_tup (pa_cons ((pe_tup (pa_cons ((pe_tup (pa_cons pe_str (pa_cons pe_int pa_nil)))) (pa_cons pe_int pa_nil)))) pa_nil))) pa_nil)))) (pa_cons pe_int pa_nil))))) pa_nil)))
      (pss_cons (ps_expr (pe_bm PySem.F.plainAttrs_list PySem.F.slot_list_append PySem.F.type_list_append mt_append (pv 1) (pa_cons ((pe_tup (pa_cons pe_str (pa_cons ((pe_tup (pa_cons pe_str (pa_cons ((pe_tup (pa_cons pe_str (pa_cons pe_int pa_nil)))) (pa_cons ((pe_tup (pa_cons pe_int (pa_cons (pe_tup pa_nil) pa_nil)))) (pa_cons ((pe_tup (pa_cons pe_int (pa_cons (pe_tup pa_nil) pa_nil)))) pa_nil)))))) (pa_cons ((pe_tup (pa_cons pe_int (pa_cons ((pe_tup (pa_cons ((pe_tup (pa_cons ((pe_tup (pa_cons pe_str (pa_cons pe_int pa_nil)))) (pa_cons pe_int pa_nil)))) pa_nil))) pa_nil)))) pa_nil))))) pa_nil)))
      (pss_cons (ps_set (i := 2) nd rfl (Or.inr rfl) (pe_call GN hr (by rfl) mN kN' bN .nil pass0 (pa_cons (pv 0) (pa_cons pe_int pa_nil))))
      (pss_one (ps_ret (pe_lc (own := [("_law_k", 3)]) (g := gName 3) (tt := tYes) (te := tOp (rIxL K) (tVar 1) (iMod (tOp (rI0 fun i j => V.int (i + j)) (tVar 2) (tVar 3)) (tC (.int 7)))) rfl nd (pi_range1 rfl Y.range (pa_cons (pe_op op_add pe_int (pe_call GN hr (by rfl) mN kN' bN .nil pass0 (pa_cons (pv 0) (pa_cons pe_int pa_nil)))) pa_nil))
        (blkOk_by (N := ["_law_feed_here", "_law_every", "_law_first", "_law_k"]) (sc := defScope sThings) (by decide +kernel)) (fun _ _ _ _ _ => pg_name (i := 3) nd rfl (Or.inl rfl)) (fun _ _ _ _ _ => pts_nil) (fun _ _ _ _ _ => pe_ix ix_list (pv 1) (pe_op op_mod (pe_op op_add (pv 2) (pv 3)) pe_int) (fun _ _ => rfl)))))))), ?_⟩
    refine q_setE ?_
    refine (mka_cons ((mk_tup (mka_cons (mk_str _) (mka_cons (mk_int _) mka_nil)) (by decide))) (mka_cons ((mk_tup (mka_cons (mk_str _) (mka_cons (mk_int _) mka_nil)) (by decide))) (mka_cons ((mk_tup (mka_cons (mk_str _) (mka_cons (mk_int _) mka_nil)) (by decide))) (mka_cons ((mk_tup (mka_cons (mk_str _) (mka_cons ((mk_tup (mka_cons (mk_str _) (mka_cons (mk_int _) mka_nil)) (by decide))) mka_nil)) (by decide))) (mka_cons ((mk_tup (mka_cons (mk_str _) (mka_cons ((mk_tup (mka_cons (mk_str _) (mka_cons (mk_int _) mka_nil)) (by decide))) (mka_cons ((mk_tup (mka_cons (mk_int _) (mka_cons (mk_tup mka_nil (by decide)) mka_nil)) (by decide))) mka_nil))) (by decide))) mka_nil))))) _ _ _ fun vs H1 s1 kds => ⟨by rw [kds.len]; show 5 ≤ sizeLine; decide, fun l hl => ?_⟩
    have hl2 : (upd H1 l (.lst vs)) l = some (.lst vs) := upd_same
    have s2 : Same H (upd H1 l (.lst vs)) := s1.trans (same_upd hl)
    have kds2 := KDs.stay (Tst.of (same_upd (o := .lst vs) hl)) _ _ kds
    have hlH : H l = none := s1.free hl
    generalize upd H1 l (.lst vs) = H2 at hl2 s2 kds2 ⊢
    have hvl := kds2.len
    have hvl5 : vs.length = 5 := hvl
    refine ⟨_, rfl, .inl ⟨rfl, _, SqL.of hl2⟩, ((mk_tup (mka_cons (mk_str _) (mka_cons ((mk_tup (mka_cons (mk_int _) (mka_cons ((mk_tup (mka_cons ((mk_tup (mka_cons ((mk_tup (mka_cons (mk_str _) (mka_cons (mk_int _) mka_nil)) (by decide))) (mka_cons (mk_int _) mka_nil)) (by decide))) mka_nil) (by decide))) mka_nil)) (by decide))) (mka_cons (mk_int _) mka_nil))) (by decide))) _ _ _ fun v6 H3 s3 kd6 => ⟨l, vs, v6, rfl, rfl, s3 _ _ hl2, by rw [hvl5]; exact small100 (by omega), ?_⟩⟩
    have hl4 : (upd H3 l (.lst (vs ++ [v6]))) l = some (.lst (vs ++ [v6])) := upd_same
    have s4 : Same H (upd H3 l (.lst (vs ++ [v6]))) := fun c o h => by rw [upd_ne (ne_of_none h hlH)]; exact s3 _ _ (s2 c o h)
    have kds4 := KDs.stay (Tk.upd (u := .lst (vs ++ [v6])) (s3 _ _ hl2) trivial).tst _ _ (kds_snoc kd6 (KDs.stay (Tst.of s3) _ _ kds2))
    generalize upd H3 l (.lst (vs ++ [v6])) = H4 at hl4 s4 kds4 ⊢
    refine ⟨_, rfl, .inl ⟨rfl, _, SqL.of hl4⟩, ((mk_tup (mka_cons (mk_str _) (mka_cons ((mk_tup (mka_cons (mk_str _) (mka_cons ((mk_tup (mka_cons (mk_str _) (mka_cons (mk_int _) mka_nil)) (by decide))) (mka_cons ((mk_tup (mka_cons (mk_int _) (mka_cons (mk_tup mka_nil (by decide)) mka_nil)) (by decide))) (mka_cons ((mk_tup (mka_cons (mk_int _) (mka_cons (mk_tup mka_nil (by decide)) mka_nil)) (by decide))) mka_nil)))) (by decide))) (mka_cons ((mk_tup (mka_cons (mk_int _) (mka_cons ((mk_tup (mka_cons ((mk_tup (mka_cons ((mk_tup (mka_cons (mk_str _) (mka_cons (mk_int _) mka_nil)) (by decide))) (mka_cons (mk_int _) mka_nil)) (by decide))) mka_nil) (by decide))) mka_nil)) (by decide))) mka_nil))) (by decide))) _ _ _ fun v7 H5 s5 kd7 => ⟨l, vs ++ [v6], v7, rfl, rfl, s5 _ _ hl4, by rw [List.length_append, hvl5]; exact small100 (by show 6 ≤ 1000; decide), ?_⟩⟩
    have hl6 : (upd H5 l (.lst (vs ++ [v6] ++ [v7]))) l = some (.lst (vs ++ [v6] ++ [v7])) := upd_same
    have s6 : Same H (upd H5 l (.lst (vs ++ [v6] ++ [v7]))) := fun c o h => by rw [upd_ne (ne_of_none h hlH)]; exact s5 _ _ (s4 c o h)
    have kds6 : KDs (upd H5 l (.lst (vs ++ [v6] ++ [v7]))) U7 (vs ++ [v6] ++ [v7]) := KDs.stay (Tk.upd (u := .lst (vs ++ [v6] ++ [v7])) (s5 _ _ hl4) trivial).tst _ _ (kds_snoc kd7 (KDs.stay (Tst.of s5) _ _ kds4))
    generalize upd H5 l (.lst (vs ++ [v6] ++ [v7])) = H6 at hl6 s6 kds6 ⊢
    obtain ⟨as, hvs, hal, hkd⟩ := kds_refs u7_tup kds6
    rw [hvs] at hl6
    have hql : q ≠ l := fun z => by
      obtain ⟨xs, e, _⟩ := hfd
      rw [z, hlH] at e; cases e
    obtain ⟨xs, hq, hx⟩ := hfd
    have hq6 := s6 _ _ hq
    dsimp only
    refine q_setE ?_
    refine ⟨_, rfl, q, 7, xs, n, rfl, by decide, by decide, hq6, hx, by omega, fun r ys h0 h7 hy => ?_⟩
    have hl7 : (upd H6 q (.lst ys)) l = some (.lst (as.map V.ref)) := by rw [upd_ne (Ne.symm hql)]; exact hl6
    have hq7 : (upd H6 q (.lst ys)) q = some (.lst ys) := upd_same
    have z7 : Fz q H6 (upd H6 q (.lst ys)) := Fz.upd
    generalize upd H6 q (.lst ys) = H7 at hl7 hq7 z7 ⊢
    refine ⟨_, rfl, q, 5, ys, n + 1, rfl, by decide, by decide, hq7, hy, by omega, fun m zs m0 m5 hz => ?_⟩
    have hl8 : (upd H7 q (.lst zs)) l = some (.lst (as.map V.ref)) := by rw [upd_ne (Ne.symm hql)]; exact hl7
    have hq8 : (upd H7 q (.lst zs)) q = some (.lst zs) := upd_same
    have z8 : Fz q H6 (upd H7 q (.lst zs)) := z7.trans Fz.upd
    have tk8 : Tk H6 (upd H7 q (.lst zs)) := Tk.but hq6 trivial z8
    generalize upd H7 q (.lst zs) = H8 at hl8 hq8 z8 tk8 ⊢
    refine ⟨1, m, rfl, rfl, (1 + m : Int), rfl, by omega, by omega, fun D1 nD1 => ?_⟩
    have al7 : as.length = 7 := hal
    have hix : ∀ i : Nat, ((r.toNat + i) % 7 : Nat) < 7 := fun i => Nat.mod_lt _ (by omega)
    refine lc_range0 (n := (1 + m).toNat) (fun i H' => H' = upd H8 D1 (.lst ((List.range i).map fun k => V.ref (as.getD ((r.toNat + k) % 7) 0)))) rfl ?_ ?_
    · rintro i H' hi rfl
      refine ⟨rfl, ?_⟩
      refine ⟨_, rfl, _, rfl, _, rfl, _, _, rfl, rfl, r + (i : Int), 7, rfl, rfl, (show (0 : Int) < 7 by decide), l, _, (r + (i : Int)) % 7, .ref (as.getD ((r.toNat + i) % 7) 0), rfl, rfl, SqL.of (by rw [upd_ne (ne_of_none hl8 nD1)]; exact hl8), at_of (j := (r.toNat + i) % 7) (by omega) ?_, _, upd_same, ?_, ?_⟩
      · rw [List.getElem?_map, List.getD_eq_getElem?_getD, List.getElem?_eq_getElem (by rw [al7]; exact hix i)]; rfl
      · rw [List.length_map, List.length_range]; exact small100 (by omega)
      · rw [upd_upd, List.range_succ, List.map_append]; rfl
    · rintro H' rfl
      have tk9 : Tk H8 (upd H8 D1 (.lst ((List.range (1 + m).toNat).map fun k => V.ref (as.getD ((r.toNat + k) % 7) 0)))) := Tk.new nD1
      have qD : q ≠ D1 := fun z => by rw [z, nD1] at hq8; cases hq8
      have D1H : H D1 = none := by
        cases e : H D1 with
        | none => rfl
        | some o =>
          have := z8 _ _ (s6 _ _ e) (Ne.symm qD)
          rw [nD1] at this; cases this
      refine k D1 ((List.range (1 + m).toNat).map fun k => (as.getD ((r.toNat + k) % 7) 0, U7.getD ((r.toNat + k) % 7) .none)) _ (fun c o h hc => ?_) ⟨zs, by rw [upd_ne qD]; exact hq8, hz⟩ D1H (by rw [upd_same, List.map_map]; rfl) (by rw [List.length_map, List.length_range]; omega) (by rw [List.length_map, List.length_range]; omega) ⟨fun t ht => ?_, ?_⟩
      · rw [upd_ne (ne_of_none h D1H)]; exact z8 _ _ (s6 _ _ h) hc
      · obtain ⟨j, hj, rfl⟩ := List.mem_map.mp ht
        refine ⟨((hkd _ (hix j)).stay tk8.tst _ _).stay tk9.tst _ _, ?_⟩
        show U7.getD _ .none ∈ U7
        rw [List.getD_eq_getElem?_getD, List.getElem?_eq_getElem (hix j)]
        exact List.getElem_mem (hix j)
      · rw [List.map_map, List.nodup_iff_pairwise_ne, List.pairwise_map]
        refine (List.nodup_range (n := (1 + m).toNat)).imp_of_mem fun {a b} ha hb hne z => hne ?_
        have ha' := List.mem_range.mp ha
        have hb' := List.mem_range.mp hb
        have z' : U7.getD ((r.toNat + a) % 7) .none = U7.getD ((r.toNat + b) % 7) .none := z
        rw [List.getD_eq_getElem?_getD, List.getElem?_eq_getElem (hix a), List.getD_eq_getElem?_getD, List.getElem?_eq_getElem (hix b)] at z'
        have := (List.getElem_inj u7_nd).mp z'
        omega
end
end K47
end
section
set_option Elab.async false
set_option maxRecDepth 100000
set_option maxHeartbeats 4000000
set_option autoImplicit false
/-! linear. -/
namespace K47
open PySem L2 PySem.Spec PyProof.Rows
def SmF (M : Int) (f : Fm) : Prop := (-M ≤ f.c ∧ f.c ≤ M) ∧ ∀ t, -M ≤ f.cf t ∧ f.cf t ≤ M
def spLinear : Sp := fun vs H Q _ => ∃ (q tl : Addr) (most : Int) (n : Nat) (ths : List (Addr × NK)) (W : List NK), vs = [.ref q, .ref tl, .int most] ∧ FdAt H q n ∧ n ≤ 900000 ∧ H tl = some (.lst (ths.map fun t => V.ref t.1)) ∧ q ≠ tl ∧ ThOk H W ths ∧ Uni W ∧ ths.length ≤ 5 ∧ 0 ≤ most ∧ most ≤ 1000000 ∧
  ∀ f H', Fz q H H' → FdAt H' q (n + 20) → FmOk H' W f → Nz f → SmF most f → (∀ t, f.cf t ≠ 0 → t ∈ ths.map (·.2)) → Q (.ref f.a) H'
theorem scLinear : FnScope ["_law_feed_here", "_law_things_here", "_law_most", "_law_pairs", "_law_thing_here"] ["_law_feed_here", "_law_things_here", "_law_most"] (defScope sLinear) := ⟨rfl, rfl, rfl, by decide +kernel, rfl, by decide +kernel, by decide +kernel⟩
section
variable {P : Program} {w : World} {K : PySem.W.Frag} {mg : Str → Option Value} {base : Heap} {C : Addr}
theorem cal_linear (D : Df K mg "_law_linear" sLinear ["_law_feed_here", "_law_things_here", "_law_most"]) (cN : Cal P w K mg base "_law_next" 1 ["_law_feed_here", "_law_many"] spNext) (cM : CalG P w K mg base "_law_made" 1 ["_law_number", "_law_pairs"] spMade) :
    CalG P w K mg base "_law_linear" 2 ["_law_feed_here", "_law_things_here", "_law_most"] spLinear := by
  obtain ⟨fN, fdN, GN, mN, kpN, bN⟩ := cN
  obtain ⟨fM, fdM, GM, mM, kM, bM⟩ := cM
  refine D.calG scLinear (fun vs H Q E h => ?_) (fun _ _ cdv A outer s H vs Q E gd hr h => ?_)
  · obtain ⟨_, _, _, _, _, _, rfl, _⟩ := h
    rfl
  · obtain ⟨q, tl, most, n, ths, W, rfl, hfd, hn, htl, hqt, hth, U, h5, hm0, hm1, k⟩ := h
    have nd := scLinear.nd
    refine ⟨_, pss_cons (ps_set (i := 3) nd rfl (Or.inl rfl) (pe_lst pa_nil))
      (pss_cons (ps_for PassesOwn.never rfl (pi_list (pv 1)) (pg_name (i := 4) nd rfl (Or.inl rfl))
        (pss_one (ps_if (pt_cmpR op_gt1 (pe_call GN hr (by rfl) mN kpN bN .nil pass0 (pa_cons (pv 0) (pa_cons pe_int pa_nil))) pe_int (nomark _))
          (pss_one (ps_expr (pe_bm PySem.F.plainAttrs_list PySem.F.slot_list_append PySem.F.type_list_append mt_append (pv 3) (pa_cons ((pe_tup (pa_cons (pv 4) (pa_cons (pe_op op_sub (pe_call GN hr (by rfl) mN kpN bN .nil pass0 (pa_cons (pv 0) (pa_cons (pe_op op_add (pe_op op_mul pe_int (pv 2)) pe_int) pa_nil))) (pv 2)) pa_nil)))) pa_nil)))) pss_nil)))
      (pss_one (ps_ret (pe_callG GM gd hr (by rfl) mM kM bM (pa_cons (pe_op op_sub (pe_call GN hr (by rfl) mN kpN bN .nil pass0 (pa_cons (pv 0) (pa_cons (pe_op op_add (pe_op op_mul pe_int (pv 2)) pe_int) pa_nil))) (pv 2)) (pa_cons (pv 3) pa_nil)))))), ?_⟩
    have hc2 : CMul 2 most := .inl ⟨by decide, by decide⟩
    obtain ⟨xs0, hq0, hx0⟩ := hfd
    refine q_setE ?_
    refine ⟨Nat.zero_le _, fun pl hpl => ?_⟩
    have hqp : q ≠ pl := ne_of_none hq0 hpl
    have htp : tl ≠ pl := ne_of_none htl hpl
    have s1 := same_upd (o := .lst []) hpl
    have hl1 : (upd H pl (.lst [])) pl = some (.lst []) := upd_same
    generalize upd H pl (.lst []) = H1 at s1 hl1 ⊢
    refine q_seq ⟨_, rfl, tl, rfl, ⟨_, SqL.of (s1 _ _ htl)⟩, for_list (K := K) (a := tl) (xs := ths.map fun t => V.ref t.1)
      (fun i σ H' => ∃ prs v4 xs, σ = [some (.ref q), some (.ref tl), some (.int most), some (.ref pl), v4] ∧ H' q = some (.lst xs) ∧ FdS xs (n + 2 * i) ∧ Fz q H H' ∧ H' pl = some (.lst (prs.map fun e : Pc => V.ref e.pa)) ∧ (∀ e ∈ prs, PcOk H' W e) ∧ (prs.map (·.k)).Nodup ∧ (∀ e ∈ prs, e.k ∈ (ths.take i).map (·.2) ∧ -most ≤ e.m ∧ e.m ≤ most) ∧ prs.length ≤ i)
      ⟨[], none, xs0, rfl, s1 _ _ hq0, hx0, Fz.of s1, hl1, fun e he => (nomatch he), List.nodup_nil, fun e he => (nomatch he), Nat.le_refl _⟩ (fun i σ H' _ ⟨_, _, _, _, _, _, z, _⟩ => SqL.of (z _ _ htl (Ne.symm hqt))) ?_ ?_⟩
    · rintro i x σ H' hi ⟨prs, v4, xs, rfl, hq, hx, z, hl, hp, hnd, hin, hpl'⟩
      rw [List.getElem?_map] at hi
      cases et : ths[i]? with
      | none => rw [et] at hi; cases hi
      | some t =>
        rw [et] at hi
        cases hi
        have hil : i < ths.length := (List.getElem?_eq_some_iff.mp et).1
        have tk0 : Tk H H' := z.tk ⟨xs0, hq0, hx0⟩
        have kt := ((hth.tk tk0).1 t (List.mem_of_getElem? et))
        have hsub : ∀ e ∈ prs, e.k ∈ (ths.take (i + 1)).map (·.2) ∧ -most ≤ e.m ∧ e.m ≤ most := fun e he => ⟨by
          rw [take_succ_get et, List.map_append]
          exact List.mem_append_left _ (hin e he).1, (hin e he).2⟩
        refine ⟨_, rfl, q, 3, xs, _, rfl, by decide, by decide, hq, hx, by omega, fun r ys r0 r3 hy => ⟨r, 0, rfl, rfl, _, rfl, ?_⟩⟩
        have hq1 : (upd H' q (.lst ys)) q = some (.lst ys) := upd_same
        have z1 : Fz q H' (upd H' q (.lst ys)) := Fz.upd
        have hl1 : (upd H' q (.lst ys)) pl = some (.lst (prs.map fun e : Pc => V.ref e.pa)) := by rw [upd_ne (Ne.symm hqp)]; exact hl
        have tk1 : Tk H' (upd H' q (.lst ys)) := Tk.upd hq trivial
        generalize upd H' q (.lst ys) = H2 at hq1 z1 hl1 tk1 ⊢
        by_cases hr0 : 0 < r
        · rw [decide_eq_true hr0]
          refine iteT ?_
          refine ⟨_, rfl, .inl ⟨rfl, _, SqL.of hl1⟩, _, rfl, _, rfl, _, rfl, 2, most, rfl, rfl, hc2, _, 1, rfl, rfl, q, 2 * most + 1, ys, _, rfl, by omega, by omega, hq1, hy, by omega, fun m zs m0 mm hz => ?_⟩
          have hq2 : (upd H2 q (.lst zs)) q = some (.lst zs) := upd_same
          have z2 : Fz q H2 (upd H2 q (.lst zs)) := Fz.upd
          have hl2 : (upd H2 q (.lst zs)) pl = some (.lst (prs.map fun e : Pc => V.ref e.pa)) := by rw [upd_ne (Ne.symm hqp)]; exact hl1
          have tk2 : Tk H2 (upd H2 q (.lst zs)) := Tk.upd hq1 trivial
          generalize upd H2 q (.lst zs) = H3 at hq2 z2 hl2 tk2 ⊢
          refine ⟨_, rfl, m, most, rfl, rfl, by show 2 ≤ sizeLine; decide, fun a ha => ?_⟩
          have s3 := same_upd (o := .tup [.ref t.1, .int (m - most)]) ha
          refine ⟨pl, _, .ref a, rfl, rfl, s3 _ _ hl2, by rw [List.length_map]; exact small100 (by omega), ?_⟩
          have tk3 : Tk (upd H3 a (.tup [.ref t.1, .int (m - most)])) (upd (upd H3 a (.tup [.ref t.1, .int (m - most)])) pl (.lst ((prs.map fun e : Pc => V.ref e.pa) ++ [.ref a]))) := Tk.upd (s3 _ _ hl2) trivial
          have tkall := tk1.trans (tk2.trans ((Tk.of s3).trans tk3))
          refine ⟨prs ++ [⟨a, t.1, t.2, m - most⟩], _, zs, rfl, by rw [upd_ne hqp]; exact s3 _ _ hq2, hz.mono (by omega), fun c o h hc => ?_, by rw [upd_same, List.map_append]; rfl, fun e he => ?_, ?_, fun e he => ?_, by rw [List.length_append]; exact Nat.succ_le_succ hpl'⟩
          · rw [upd_ne (ne_of_none h hpl)]
            exact s3 _ _ (z2 _ _ (z1 _ _ (z _ _ h hc) hc) hc)
          · rcases List.mem_append.mp he with h | h
            · exact (hp e h).tk tkall
            · rw [List.mem_singleton] at h
              subst h
              exact ⟨tk3.rd (.inl upd_same), kt.1.stay tkall.tst _ _, kt.2⟩
          · rw [List.map_append, List.nodup_append]
            refine ⟨hnd, by simp, fun x hx y hy2 e => ?_⟩
            simp at hy2
            obtain ⟨e', he', rfl⟩ := List.mem_map.mp hx
            have h1 := (hin e' he').1
            rw [e, hy2] at h1
            obtain ⟨t', ht', et'⟩ := List.mem_map.mp h1
            have hnd2 := hth.2
            rw [List.nodup_iff_pairwise_ne, List.pairwise_map, List.pairwise_iff_getElem] at hnd2
            obtain ⟨j, hj, ej⟩ := List.getElem_of_mem ht'
            rw [List.length_take] at hj
            rw [List.getElem_take] at ej
            have hti : ths[i] = t := by rw [List.getElem?_eq_getElem hil] at et; exact Option.some.inj et
            exact hnd2 j i (by omega) hil (by omega) (by rw [ej, hti]; exact et')
          · rcases List.mem_append.mp he with h | h
            · exact hsub e h
            · rw [List.mem_singleton] at h
              subst h
              refine ⟨?_, by show -most ≤ m - most; omega, by show m - most ≤ most; omega⟩
              rw [take_succ_get et, List.map_append]
              exact List.mem_append_right _ (by simp)
        · rw [decide_eq_false hr0]
          refine iteF ⟨prs, _, ys, rfl, hq1, hy.mono (by omega), z.trans z1, hl1, fun e he => (hp e he).tk tk1, hnd, hsub, by omega⟩
    · rintro σ H' ⟨prs, v4, xs, rfl, hq, hx, z, hl, hp, hnd, hin, hpl'⟩
      rw [List.length_map] at hx hpl' hin
      refine ⟨_, rfl, _, rfl, 2, most, rfl, rfl, hc2, _, 1, rfl, rfl, q, 2 * most + 1, xs, _, rfl, by omega, by omega, hq, hx, by omega, fun m zs m0 mm hz => ?_⟩
      have hq2 : (upd H' q (.lst zs)) q = some (.lst zs) := upd_same
      have z2 : Fz q H' (upd H' q (.lst zs)) := Fz.upd
      have hl2 : (upd H' q (.lst zs)) pl = some (.lst (prs.map fun e : Pc => V.ref e.pa)) := by rw [upd_ne (Ne.symm hqp)]; exact hl
      have tk2 : Tk H' (upd H' q (.lst zs)) := Tk.upd hq trivial
      generalize upd H' q (.lst zs) = H3 at hq2 z2 hl2 tk2 ⊢
      refine ⟨_, rfl, m, most, rfl, rfl, _, rfl, m - most, pl, prs, W, rfl, hl2, fun e he => (hp e he).tk tk2, U, fun f H4 s4 F4 c4 cf4 nz4 => ?_⟩
      have hcf : ∀ t, f.cf t = cfP prs t := fun t => by rw [cf4 t, cfP_cs t prs hnd]
      refine k f H4 ((z.trans z2).trans (Fz.of s4)) ⟨zs, s4 _ _ hq2, hz.mono (by omega)⟩ F4 nz4 ⟨by rw [c4]; exact ⟨by omega, by omega⟩, fun t => ?_⟩ fun t ht => ?_
      · rw [hcf]
        unfold cfP
        cases ef : prs.find? fun e => decide (e.k = t) with
        | none => exact ⟨by show -most ≤ 0; omega, hm0⟩
        | some e => exact (hin e (List.mem_of_find?_eq_some ef)).2
      · rw [hcf] at ht
        unfold cfP at ht
        cases ef : prs.find? fun e => decide (e.k = t) with
        | none => rw [ef] at ht; exact absurd rfl ht
        | some e =>
          have h1 := (hin e (List.mem_of_find?_eq_some ef)).1
          have h2 : e.k = t := by have := List.find?_some ef; simpa using this
          rw [← h2]
          obtain ⟨t', ht', e'⟩ := List.mem_map.mp h1
          exact List.mem_map.mpr ⟨t', List.mem_of_mem_take ht', e'⟩
end
end K47
end
section
set_option Elab.async false
set_option maxRecDepth 100000
set_option maxHeartbeats 4000000
set_option autoImplicit false
/-! sum_right. -/
namespace K47
open PySem L2 PySem.Spec PyProof.Rows
theorem big_sm {M : Nat} {f : Fm} (h : Big M f) (hM : M < 2 ^ 64) : Sm64 f.c ∧ ∀ e ∈ f.es, Sm64 e.m := by
  have g : ∀ x : Int, x.natAbs ≤ M → Sm64 x := fun x hx => ⟨by omega, by omega⟩
  exact ⟨g _ h.1, fun e he => g _ (h.2 e he)⟩
theorem sumL_snoc (ps : List (Nat × Int)) (q : Nat × Int) (f : Nat → Int) : sumL (ps ++ [q]) f = sumL ps f + q.2 * f q.1 := by
  unfold sumL
  rw [List.map_append, List.sum_append]
  show _ + (q.2 * f q.1 + 0) = _
  omega
theorem nz_nil {H : Hp} {W : List NK} {f : Fm} (nz : Nz f) (h : ∀ t, f.cf t = 0) : f.es = [] := by
  cases e : f.es with
  | nil => rfl
  | cons a r =>
    have h1 := h a.k
    unfold Fm.cf cfP at h1
    rw [e, List.find?_cons_of_pos (by simp)] at h1
    exact absurd h1 (nz a (by rw [e]; exact List.mem_cons_self))
def spRight (K : PySem.W.Frag) : Sp := fun vs H Q _ => ∃ (q : Addr) (v : V) (fcs : List Fc) (qs : List (Nat × Int)) (W : List NK), vs = [.ref q, v] ∧ H q = some (.lst (fcs.map fun x => .ref x.a)) ∧ (∀ x ∈ fcs, FcOk H W x) ∧ Uni W ∧ fcs.length ≤ 60 ∧ (∀ x ∈ fcs, ∀ f, x.f = some f → Big (10 ^ 11) f) ∧
  SumAt H v qs ∧ RightS fcs qs ∧ ∀ H', Same H H' → Q (.bl true) H'
theorem scRight : FnScope ["_law_facts", "_law_step", "_law_total", "_law_last", "_law_pair", "_law_one_here", "_law_number", "_law_many"] ["_law_facts", "_law_step"] (defScope sRight) := ⟨rfl, rfl, rfl, by decide +kernel, rfl, by decide +kernel, by decide +kernel⟩
section
variable {H : Hp} {K : PySem.W.Frag} {σ : L2.St} {ta tb : TE} {t u : TT}
theorem tyx_rd {a : Addr} {xs : List V} (h : Rd H a (.tup xs)) : TyX K H (.ref a) (.type "tuple") := by
  rcases h with h | ⟨o, h⟩
  · exact .base (.tup h)
  · exact .fTuple h
theorem kTT : PySem.W.kitOne K (.type "tuple") (.type "tuple") = some true := kit_ty (by decide +kernel)
theorem kII : PySem.W.kitOne K (.type "int") (.type "int") = some true := kit_ty (by decide +kernel)
theorem kIB : PySem.W.kitOne K (.type "int") (.type "bool") = some false := kit_ty (by decide +kernel)
theorem ans_isT {v : V} {a : Addr} {xs : List V} (hv : Val ta σ H (.ref a)) (h : Rd H a (.tup xs)) : Ans (tNot (tB (tCB (rIsi K) (tCons ta (tCons (tC (.ty "tuple")) tNil))))) σ H false := by
  intro Q q
  exact hv _ ⟨_, _, _, _, true, rfl, .ty _, tyx_rd h, kTT, _, rfl, q⟩
theorem val_len {a : Addr} {xs : List V} (hv : Val ta σ H (.ref a)) (h : SqL K H a xs ∨ SqT K H a xs) : Val (tCB (fun xs H Q => ∃ p ys, xs = [V.ref p] ∧ (SqL K H p ys ∨ SqT K H p ys) ∧ Q (.int ys.length) H) (tCons ta tNil)) σ H (.int (xs.length : Nat)) := fun _ q => hv _ ⟨a, xs, rfl, h, q⟩
end
section
variable {P : Program} {w : World} {K : PySem.W.Frag} {mg : Str → Option Value} {base : Heap} {C : Addr}
theorem cal_right (D : Df K mg "_law_sum_right" sRight ["_law_facts", "_law_step"]) (cS : CalG P w K mg base "_law_sum" 2 ["_law_one_here", "_law_other", "_law_many"] spSum) (Y : Txt K mg C) : CalG P w K mg base "_law_sum_right" 3 ["_law_facts", "_law_step"] (spRight K) := by
  obtain ⟨fS, fdS, GS, mSu, kpS, bS⟩ := cS
  refine D.calG scRight (fun vs H Q E h => ?_) (fun _ _ cdv A outer s H vs Q E gd hr h => ?_)
  · obtain ⟨_, _, _, _, _, rfl, _⟩ := h
    rfl
  · obtain ⟨q, v, fcs, qs, W, rfl, hq, hfc, U, h60, hbig, ⟨a, tp, prs, rfl, ha, htp, rfl, hprs⟩, R, k⟩ := h
    have nd := scRight.nd
    have hu := hr.units
    refine ⟨_, pss_cons (ps_if (PW.pt (pw_or (pt_not (pt_val (pe_callB call_isi (by rfl) Y.isinstance (by decide +kernel) (pa_cons (pv 1) (pa_cons (pe_bltn (by rfl) Y.tuple (by decide +kernel) (v := .ty "tuple") rfl) pa_nil)))))
        (pw_or (pt_cmpR op_ne (pe_callB call_len_seq (by rfl) Y.len PySem.boot_len (pa_cons (pv 1) pa_nil)) pe_int (nomark _)) (pw_or (pt_cmpR op_ne (pe_ix ix_tup (pv 1) pe_int (fun _ _ => rfl)) pe_str (nomark _))
        (pw_or1 (pt_not (pt_val (pe_callB call_isi (by rfl) Y.isinstance (by decide +kernel) (pa_cons (pe_ix ix_tup (pv 1) pe_int (fun _ _ => rfl)) (pa_cons (pe_bltn (by rfl) Y.tuple (by decide +kernel) (v := .ty "tuple") rfl) pa_nil)))))))))) (pss_one (ps_ret pe_bl)) pss_nil)
      (pss_cons (ps_set (i := 2) nd rfl (Or.inl rfl) (pe_tup (pa_cons pe_int (pa_cons (pe_tupF pa_nil) pa_nil))))
      (pss_cons (ps_set (i := 3) nd rfl (Or.inl rfl) (pe_un un_neg pe_int))
      (pss_cons (ps_for PassesOwn.never rfl (pi_tup (pe_ix ix_tup (pv 1) pe_int (fun _ _ => rfl))) (pg_name (i := 4) nd rfl (Or.inl rfl))
        (pss_cons (ps_if (PW.pt (pw_or (pt_not (pt_val (pe_callB call_isi (by rfl) Y.isinstance (by decide +kernel) (pa_cons (pv 4) (pa_cons (pe_bltn (by rfl) Y.tuple (by decide +kernel) (v := .ty "tuple") rfl) pa_nil)))))
          (pw_or1 (pt_cmpR op_ne (pe_callB call_len_seq (by rfl) Y.len PySem.boot_len (pa_cons (pv 4) pa_nil)) pe_int (nomark _))))) (pss_one (ps_ret pe_bl)) pss_nil)
        (pss_cons (ps_for PassesOwn.never rfl (pi_tup (pv 4)) (pg_name (i := 5) nd rfl (Or.inl rfl))
          (pss_one (ps_if (PW.pt (pw_or (pt_not (pt_val (pe_callB call_isi (by rfl) Y.isinstance (by decide +kernel) (pa_cons (pv 5) (pa_cons (pe_bltn (by rfl) Y.int (by decide +kernel) (v := .ty "int") rfl) pa_nil)))))
            (pw_or1 (pt_val (pe_callB call_isi (by rfl) Y.isinstance (by decide +kernel) (pa_cons (pv 5) (pa_cons (pe_bltn (by rfl) Y.bool (by decide +kernel) (v := .ty "bool") rfl) pa_nil))))))) (pss_one (ps_ret pe_bl)) pss_nil)))
        (pss_cons (ps_asg (pv 4) (pg_tup rfl (pgs_cons (pg_name (i := 6) nd rfl (Or.inl rfl)) (pgs_cons (pg_name (i := 7) nd rfl (Or.inl rfl)) pgs_nil))))
        (pss_cons (ps_if (PW.pt (pw_or (pt_cmpR op_le (pv 6) (pv 3) (nomark _)) (pw_or (pt_cmpR op_ge (pv 6) (pe_callB call_len_seq (by rfl) Y.len PySem.boot_len (pa_cons (pv 0) pa_nil)) (nomark _)) (pw_or (pt_cmpR op_lt (pv 7) pe_int (nomark _))
          (pw_or1 (pt_cmpR op_ne (pe_ix ix_tup (pe_ix ix_list (pv 0) (pv 6) (fun _ _ => rfl)) pe_int (fun _ _ => rfl)) pe_str (nomark _))))))) (pss_one (ps_ret pe_bl)) pss_nil)
        (pss_cons (ps_set (i := 2) nd rfl (Or.inl rfl) (pe_callG GS gd hr (by rfl) mSu kpS bS (pa_cons (pv 2) (pa_cons (pe_ix ix_tup (pe_ix ix_list (pv 0) (pv 6) (fun _ _ => rfl)) pe_int (fun _ _ => rfl)) (pa_cons (pv 7) pa_nil)))))
        (pss_one (ps_set (i := 3) nd rfl (Or.inl rfl) (pv 6)))))))))
      (pss_one (ps_ret (pe_and (pe_cmpR (op_eqD hu) (pe_ix ix_tup (pv 2) pe_int (fun _ _ => rfl)) (pe_tup pa_nil) (nomark _)) (pe_one (pe_cmpR op_lt (pe_ix ix_tup (pv 2) pe_int (fun _ _ => rfl)) pe_int (nomark _))))))))), ?_⟩
    have hvs := val_ixT (K := K) (σ := [some (.ref q), some (.ref a), none, none, none, none, none, none]) (ta := tVar 1) (tb := tC (.int 1)) (v := .ref tp) (z := 1) vn val_c ha rfl
    refine q_if (ans_or (ans_isT (v := .ref a) vn ha) (ans_or (ans_ne (x := .int 2) (val_len vn (.inr (.inl ha))) val_c rfl rfl) (ans_or (ans_ne (x := .str "sum") (val_ixT vn val_c ha rfl) val_c rfl rfl) (ans_isT (v := .ref tp) hvs htp)))) (iteF (n_next ?_))
    dsimp only
    refine q_setE ?_
    refine ⟨Nat.zero_le _, fun pp op hpp hop => ⟨by show 2 ≤ sizeLine; decide, fun z hz => ?_⟩⟩
    have hpz : pp ≠ z := fun e => by rw [← e, upd_same] at hz; cases hz
    have s2 : Same H (upd (upd H pp (.frz op (.tup []))) z (.tup [.int 0, .ref pp])) := (same_upd hpp).trans (same_upd hz)
    have F0 : FmOk (upd (upd H pp (.frz op (.tup []))) z (.tup [.int 0, .ref pp])) W ⟨z, pp, 0, []⟩ := ⟨.inl upd_same, ⟨op, by rw [upd_ne hpz, upd_same]; rfl, hop⟩, fun e he => (nomatch he), List.nodup_nil⟩
    generalize upd (upd H pp (.frz op (.tup []))) z (.tup [.int 0, .ref pp]) = H2 at s2 F0 ⊢
    refine q_set (val_un val_c) ?_
    have hvs2 : ∀ {σ : L2.St} {H' : Hp}, σ[1]? = some (some (.ref a)) → Same H H' → Val (tOp (rIxT K) (tVar 1) (tC (.int 1))) σ H' (.ref tp) := fun h1 s => val_ixT (val_v h1) val_c ((Tk.of s).rd ha) rfl
    refine q_seq ((hvs2 rfl s2) _ ⟨tp, rfl, ⟨_, .inl ((Tk.of s2).rd htp)⟩, for_tup (K := K) (a := tp) (xs := prs.map fun p => V.ref p.1)
      (fun i σ H' => ∃ (tot : Fm) (l : Int) (v4 v5 v6 v7 : Option V), σ = [some (.ref q), some (.ref a), some (.ref tot.a), some (.int l), v4, v5, v6, v7] ∧ Same H H' ∧ FmOk H' W tot ∧ Nz tot ∧ tot.c = sumL ((prs.map (·.2)).take i) (cA fcs) ∧ (∀ t, tot.cf t = sumL ((prs.map (·.2)).take i) (cfA fcs t)) ∧ ∀ p ∈ prs.drop i, l < (p.2.1 : Int))
      ⟨⟨z, pp, 0, []⟩, -1, none, none, none, none, rfl, s2, F0, fun e he => (nomatch he), rfl, fun t => rfl, fun p _ => by omega⟩ (fun i σ H' _ ⟨_, _, _, _, _, _, _, s, _⟩ => .inl ((Tk.of s).rd htp)) ?_ ?_⟩)
    · rintro i x σ H' hi ⟨tot, l, v4, v5, v6, v7, rfl, sH, Ft, nz, hc, hcf, hl⟩
      rw [List.getElem?_map] at hi
      cases ep : prs[i]? with
      | none => rw [ep] at hi; cases hi
      | some p =>
        rw [ep] at hi
        cases hi
        have hm := List.mem_of_getElem? ep
        have hp' := (Tk.of sH).rd (hprs p hm)
        obtain ⟨o1, o2, o3⟩ := R.ok p.2 (List.mem_map.mpr ⟨p, hm, rfl⟩)
        have hil : i < prs.length := (List.getElem?_eq_some_iff.mp ep).1
        obtain ⟨f, ef⟩ := Option.isSome_iff_exists.mp o1
        obtain ⟨y, ey, eyf⟩ : ∃ y, fcs[p.2.1]? = some y ∧ y.f = some f := by
          unfold fcF at ef
          cases e2 : fcs[p.2.1]? with
          | none => rw [e2] at ef; cases ef
          | some y => rw [e2] at ef; exact ⟨y, rfl, ef⟩
        have hyl : p.2.1 < fcs.length := (List.getElem?_eq_some_iff.mp ey).1
        have hym := List.mem_of_getElem? ey
        have yo := ((hfc y hym).tk (Tk.of sH)).least eyf
        have hqH := sH _ _ hq
        have hlp : l < (p.2.1 : Int) := hl p (by rw [List.drop_eq_getElem_cons hil]; rw [List.getElem?_eq_getElem hil] at ep; cases ep; exact List.mem_cons_self)
        show gName 4 (.ref p.1) _ H' _
        refine q_if (ans_or (ans_isT (v := .ref p.1) vn hp') (ans_ne (x := .int 2) (val_len vn (.inr (.inl hp'))) val_c rfl rfl)) (iteF (n_next ?_))
        dsimp only
        refine q_seq ⟨_, rfl, p.1, rfl, ⟨_, .inl hp'⟩, for_tup (K := K) (a := p.1) (xs := [.int (p.2.1 : Nat), .int p.2.2]) (fun j σ' H'' => H' = H'' ∧ ∃ v5, σ' = [some (.ref q), some (.ref a), some (.ref tot.a), some (.int l), some (.ref p.1), v5, v6, v7]) ⟨rfl, v5, rfl⟩ (fun j σ' H'' _ ⟨e, _⟩ => by rw [← e]; exact .inl hp') ?_ ?_⟩
        · rintro j x σ' H'' hj ⟨rfl, v5', rfl⟩
          obtain ⟨y2, rfl⟩ : ∃ y2 : Int, x = .int y2 := by
            match j, hj with
            | 0, h => exact ⟨_, (Option.some.inj h).symm⟩
            | 1, h => exact ⟨_, (Option.some.inj h).symm⟩
          refine s_if (ans_or (b := false) (fun Q q => ⟨_, rfl, _, _, _, _, true, rfl, .ty _, .base (.int y2), kII, _, rfl, q⟩) (fun Q q => ⟨_, rfl, _, _, _, _, false, rfl, .ty _, .base (.int y2), kIB, _, rfl, q⟩)) (iteF ⟨rfl, _, rfl⟩)
        · rintro σ' H'' ⟨rfl, v5', rfl⟩
          dsimp only
          refine q_asgE ((vn (v := .ref p.1)) _ ⟨p.1, _, rfl, .inl hp', rfl, _, _, rfl, _, _, rfl, rfl, ?_⟩)
          have hix : ∀ {σ : L2.St}, σ[0]? = some (some (.ref q)) → σ[6]? = some (some (.int (p.2.1 : Nat))) → Val (tOp (rIxL K) (tVar 0) (tVar 6)) σ H' (.ref y.a) := fun h0 h6 => val_ixS (val_v h0) (val_v h6) (SqL.of hqH) (at_of rfl (by rw [List.getElem?_map, ey]; rfl))
          refine q_if (ans_or (ans_cmp (b := false) vn vn fun Q q => ⟨(p.2.1 : Int), l, rfl, rfl, by show Q (.bl (decide _)) _; rw [decide_eq_false (by omega)]; exact q⟩)
            (ans_or (ans_cmp (b := false) vn (val_len (xs := fcs.map fun x => .ref x.a) vn (.inl (SqL.of hqH))) fun Q q => ⟨(p.2.1 : Int), _, rfl, rfl, by show Q (.bl (decide _)) _; rw [decide_eq_false (by rw [List.length_map]; omega)]; exact q⟩)
            (ans_or (ans_cmp (b := false) vn val_c fun Q q => ⟨p.2.2, 1, rfl, rfl, by show Q (.bl (decide _)) _; rw [decide_eq_false (by omega)]; exact q⟩)
            (ans_ne (x := .str "least") (val_ixT (hix rfl rfl) val_c yo.1 rfl) val_c rfl rfl)))) (iteF (n_next ?_))
          dsimp only
          refine q_setE ⟨_, rfl, (val_ixT (z := 1) (v := .ref f.a) (hix rfl rfl) val_c yo.1 rfl) _ ⟨_, rfl, tot, f, p.2.2, W, rfl, Ft, yo.2, U, .inr (big_sm (hbig y hym f eyf) (by decide)), fun f' H4 s4 F4 c4 cf4 nz4 => ?_⟩⟩
          have htake : (prs.map (·.2)).take (i + 1) = (prs.map (·.2)).take i ++ [p.2] := take_succ_get (by rw [List.getElem?_map, ep]; rfl)
          refine s_set vn ⟨f', _, _, _, _, _, rfl, sH.trans s4, F4, nz4, ?_, fun t => ?_, fun p' hp2 => ?_⟩
          · rw [c4, htake, sumL_snoc, hc]
            unfold cA
            rw [ef]; rfl
          · rw [cf4, htake, sumL_snoc, hcf]
            unfold cfA
            rw [ef]; rfl
          · have hup := R.up
            rw [List.map_map, List.pairwise_map, List.pairwise_iff_getElem] at hup
            obtain ⟨j, hj, ej⟩ := List.getElem_of_mem hp2
            rw [List.length_drop] at hj
            rw [List.getElem_drop] at ej
            have h3 := hup i (i + 1 + j) hil (by omega) (by omega)
            rw [List.getElem?_eq_getElem hil] at ep
            have e3 : prs[i] = p := Option.some.inj ep
            rw [e3, ej] at h3
            have h4 : p.2.1 < p'.2.1 := h3
            omega
    · rintro σ H' ⟨tot, l, v4, v5, v6, v7, rfl, sH, Ft, nz, hc, hcf, hl⟩
      rw [List.length_map, List.take_of_length_le (by rw [List.length_map]; exact Nat.le_refl _)] at hc hcf
      have hes : tot.es = [] := nz_nil (H := H') (W := W) nz fun t => by rw [hcf t]; exact R.th t
      have hneg : tot.c < 0 := by rw [hc]; exact R.cs
      have hps := Ft.ps.rd
      rw [hes] at hps
      refine ⟨_, rfl, tot.a, _, 1, .ref tot.p, rfl, rfl, .inl Ft.at_, rfl, Nat.zero_le _, fun y hy => ?_⟩
      have sy := same_upd (o := .tup []) hy
      refine ⟨.tuple [], .tuple [], .tup (.inl ((Tk.of sy).rd hps)) .nil, .tup (SqT.of upd_same) .nil, rfl, rfl, true, rfl, iteT ?_⟩
      refine ⟨_, rfl, tot.a, _, 0, .int tot.c, rfl, rfl, .inl ((Tk.of sy).rd Ft.at_), rfl, _, _, rfl, rfl, ?_⟩
      show Q (.bl (decide (tot.c < 0))) _
      rw [decide_eq_true hneg]
      exact k _ (sH.trans sy)
end
end K47
end
section
set_option Elab.async false
set_option maxRecDepth 100000
set_option maxHeartbeats 4000000
set_option autoImplicit false
/-! Facts that some sum bears: what the makers promise; borne. -/
namespace K47
open PySem L2 PySem.Spec PyProof.Rows
/-- a right sum stands -/
def HasRight (fcs : List Fc) : Prop := ∃ lam : Nat → Int, (∀ k, 0 ≤ lam k) ∧ (∀ t, si fcs.length (fun k => lam k * cfA fcs t k) = 0) ∧ si fcs.length (fun k => lam k * cA fcs k) < 0
theorem HasRight.no {fcs : List Fc} (h : HasRight fcs) (n : NoRight fcs) : False := let ⟨lam, a, b, c⟩ := h; n lam (fun k _ => a k) b c
/-- least facts, the j-th with the form fs j -/
structure Lst (H : Hp) (W : List NK) (l : Addr) (fcs : List Fc) : Prop where
  at_ : H l = some (.lst (fcs.map fun x => .ref x.a))
  ok : ∀ x ∈ fcs, FcOk H W x
theorem Lst.tk {H H' : Hp} {W : List NK} {l : Addr} {fcs : List Fc} (h : Lst H W l fcs) (t : Tk H H') (e : H' l = H l) : Lst H' W l fcs := ⟨by rw [e]; exact h.at_, fun x hx => (h.ok x hx).tk t⟩
def LinF (most : Int) (ths : List (Addr × NK)) (x : Fc) : Prop := ∃ f, x.f = some f ∧ SmF most f ∧ Nz f ∧ ∀ t, f.cf t ≠ 0 → t ∈ ths.map (·.2)
theorem big_of {H : Hp} {W : List NK} {f : Fm} {M : Nat} (F : FmOk H W f) (h : SmF (M : Int) f) : Big M f := by
  refine ⟨by have := h.1; omega, fun e he => ?_⟩
  have h2 := h.2 e.k
  have h3 : f.cf e.k = e.m := by
    unfold Fm.cf cfP
    cases ef : f.es.find? fun a => decide (a.k = e.k) with
    | none => exact absurd (List.find?_eq_none.mp ef e he) (by simp)
    | some a =>
      have hk : a.k = e.k := by have := List.find?_some ef; simpa using this
      have hma := List.mem_of_find?_eq_some ef
      have hnd := F.nd
      rw [List.nodup_iff_pairwise_ne, List.pairwise_map, List.pairwise_iff_getElem] at hnd
      obtain ⟨i, hi, ei⟩ := List.getElem_of_mem hma
      obtain ⟨j, hj, ej⟩ := List.getElem_of_mem he
      show a.m = e.m
      rcases Nat.lt_trichotomy i j with z | z | z
      · exact absurd (by rw [ei, ej]; exact hk) (hnd i j hi hj z)
      · subst z; rw [← ei, ← ej]
      · exact absurd (by rw [ei, ej]; exact hk.symm) (hnd j i hj hi z)
  rw [h3] at h2
  omega
theorem SmF.mono {M N : Int} {f : Fm} (h : SmF M f) (hN : M ≤ N) : SmF N f := ⟨by have := h.1; omega, fun t => by have := h.2 t; omega⟩
theorem cA_app1 {fcs : List Fc} {x : Fc} {k : Nat} (hk : k < fcs.length) : cA (fcs ++ [x]) k = cA fcs k := by unfold cA fcF; rw [List.getElem?_append_left hk]
theorem cfA_app1 {fcs : List Fc} {x : Fc} {t : NK} {k : Nat} (hk : k < fcs.length) : cfA (fcs ++ [x]) t k = cfA fcs t k := by unfold cfA fcF; rw [List.getElem?_append_left hk]
theorem cA_last {fcs : List Fc} {x : Fc} {f : Fm} (h : x.f = some f) : cA (fcs ++ [x]) fcs.length = f.c := by
  unfold cA fcF
  rw [List.getElem?_append_right (Nat.le_refl _), Nat.sub_self]
  show ((x.f).map _).getD 0 = _
  rw [h]; rfl
theorem cfA_last {fcs : List Fc} {x : Fc} {f : Fm} {t : NK} (h : x.f = some f) : cfA (fcs ++ [x]) t fcs.length = f.cf t := by
  unfold cfA fcF
  rw [List.getElem?_append_right (Nat.le_refl _), Nat.sub_self]
  show ((x.f).map _).getD 0 = _
  rw [h]; rfl
abbrev tLinC (j : Nat) (N : Int) : TE := tLc (iRng1 (tCons (tOp (rI0 fun i j => V.int (i + j)) (tC (.int 1)) (tCall spNext [] E0 (tCons (tVar 0) (tCons (tC (.int N)) tNil)))) tNil)) (gName j) tYes
  (tTup (tCons (tC (.str "least")) (tCons (tCall spLinear [] E0 (tCons (tVar 0) (tCons (tVar 1) (tCons (tVar 2) tNil)))) tNil))) [j]
theorem lc_lin {σ : L2.St} {j : Nat} {H : Hp} {q tl : Addr} {most N : Int} {n : Nat} {ths : List (Addr × NK)} {W : List NK} {Q : VK} (h0 : σ[0]? = some (some (.ref q))) (w0 : ∀ x, ((wipe σ [j]).set j (some x))[0]? = some (some (.ref q))) (w1 : ∀ x, ((wipe σ [j]).set j (some x))[1]? = some (some (.ref tl))) (w2 : ∀ x, ((wipe σ [j]).set j (some x))[2]? = some (some (.int most)))
    (hw : ∀ x, wipe ((wipe σ [j]).set j (some x)) [j] = wipe σ [j]) (hfd : FdAt H q n) (hn : n ≤ 800000) (htl : H tl = some (.lst (ths.map fun t => V.ref t.1))) (hqt : q ≠ tl) (hth : ThOk H W ths) (U : Uni W) (h5 : ths.length ≤ 5) (hm0 : 0 ≤ most) (hm1 : most ≤ 1000000) (N0 : 0 < N) (N1 : N ≤ 10)
    (k : ∀ D fcs H', Fz q H H' → FdAt H' q (n + 201) → H D = none → Lst H' W D fcs → (fcs.length : Int) ≤ N → (∀ x ∈ fcs, LinF most ths x) → Q (.ref D) H') : tLinC j N σ H Q := by
  obtain ⟨xs, hq, hx⟩ := hfd
  refine ⟨_, h0, q, N, xs, n, rfl, N0, by omega, hq, hx, by omega, fun m ys m0 mN hy => ?_⟩
  have hq1 : (upd H q (.lst ys)) q = some (.lst ys) := upd_same
  have z1 : Fz q H (upd H q (.lst ys)) := Fz.upd
  have tk1 : Tk H (upd H q (.lst ys)) := Tk.upd hq trivial
  have nn1 : ∀ D, (upd H q (.lst ys)) D = none → H D = none := fun D h => by
    cases e : H D with
    | none => rfl
    | some o =>
      by_cases hD : D = q
      · subst hD; rw [hq1] at h; cases h
      · have := z1 _ _ e hD; rw [h] at this; cases this
  generalize upd H q (.lst ys) = H1 at hq1 z1 tk1 nn1 ⊢
  refine ⟨1, m, rfl, rfl, (1 + m : Int), rfl, by omega, by omega, fun D nD => ?_⟩
  have hDH := nn1 D nD
  have qD : q ≠ D := ne_of_none hq1 nD
  have tD : tl ≠ D := fun e => by rw [e, hDH] at htl; cases htl
  refine lc_range0 (n := (1 + m).toNat) (fun i H' => ∃ fcs, Fz q H H' ∧ FdAt H' q (n + 1 + 20 * i) ∧ Lst H' W D fcs ∧ fcs.length = i ∧ ∀ x ∈ fcs, LinF most ths x)
    ⟨[], z1.trans (Fz.of (same_upd nD)), ⟨ys, by rw [upd_ne qD]; exact hq1, hy⟩, ⟨upd_same, fun x hx => (nomatch hx)⟩, rfl, fun x hx => (nomatch hx)⟩ ?_ ?_
  · rintro i H' hi ⟨fcs, z, hf, L, hlen, hlin⟩
    have tk0 : Tk H H' := z.tk ⟨xs, hq, hx⟩
    refine ⟨hw _, ?_⟩
    refine ⟨_, w0 _, _, w1 _, _, w2 _, q, tl, most, n + 1 + 20 * i, ths, W, rfl, hf, by omega, z _ _ htl (Ne.symm hqt), hqt, hth.tk tk0, U, h5, hm0, hm1, fun f H2 z2 f2 F2 nz2 sm2 su2 => ?_⟩
    have tk2 : Tk H' H2 := z2.tk hf
    refine ⟨by show 2 ≤ sizeLine; decide, fun a ha => ?_⟩
    have s3 := same_upd (o := .tup [.str "least", .ref f.a]) ha
    have hD2 := s3 _ _ (z2 _ _ L.at_ (Ne.symm qD))
    obtain ⟨zs, hqz, hfz⟩ := f2
    refine ⟨_, hD2, by rw [List.length_map, hlen]; exact small100 (by omega), ?_⟩
    have tk4 : Tk (upd H2 a (.tup [.str "least", .ref f.a])) (upd (upd H2 a (.tup [.str "least", .ref f.a])) D (.lst ((fcs.map fun x => V.ref x.a) ++ [.ref a]))) := Tk.upd hD2 trivial
    refine ⟨fcs ++ [⟨a, some f⟩], fun c o h hc => ?_, ⟨zs, by rw [upd_ne qD]; exact s3 _ _ hqz, hfz.mono (by omega)⟩, ⟨by rw [upd_same, List.map_append]; rfl, fun x hx => ?_⟩, by rw [List.length_append, hlen]; rfl, fun x hx => ?_⟩
    · have hcD : c ≠ D := fun e => by rw [e, hDH] at h; cases h
      rw [upd_ne hcD]; exact s3 _ _ (z2 _ _ (z _ _ h hc) hc)
    · refine FcOk.tk ?_ tk4
      rcases List.mem_append.mp hx with h | h
      · exact (L.ok x h).tk (tk2.trans (Tk.of s3))
      · rw [List.mem_singleton] at h
        subst h
        exact ⟨.inl upd_same, F2.tk (Tk.of s3)⟩
    · rcases List.mem_append.mp hx with h | h
      · exact hlin x h
      · rw [List.mem_singleton] at h
        subst h
        exact ⟨f, rfl, sm2, nz2, su2⟩
  · rintro H' ⟨fcs, z, hf, L, hlen, hlin⟩
    exact k D fcs H' z (hf.mono (by omega)) hDH L (by omega) hlin
end K47
end
section
set_option Elab.async false
set_option maxRecDepth 100000
set_option maxHeartbeats 4000000
set_option autoImplicit false
/-! The sum of drawn times; borne. -/
namespace K47
open PySem L2 PySem.Spec PyProof.Rows
theorem mulb {d x D M : Int} (h0 : 0 ≤ d) (h1 : d ≤ D) (hx : -M ≤ x ∧ x ≤ M) : -(D * M) ≤ d * x ∧ d * x ≤ D * M := by
  have hM : 0 ≤ M := by omega
  have a1 : d * x ≤ d * M := Int.mul_le_mul_of_nonneg_left hx.2 h0
  have a2 : d * M ≤ D * M := Int.mul_le_mul_of_nonneg_right h1 hM
  have a3 : d * (-M) ≤ d * x := Int.mul_le_mul_of_nonneg_left hx.1 h0
  rw [Int.mul_neg] at a3
  omega
theorem si_set {f g : Nat → Int} {n : Nat} (h : ∀ j, j < n → f j = g j) : si n f = si n g := si_congr h
theorem for_sum {K : PySem.W.Frag} {it ih ifc : Nat} {mk : V → Option V → L2.St} {q l : Addr} {D : Ends} {H : Hp} {n : Nat} {W : List NK} {fcs : List Fc} {most N : Int} {ths : List (Addr × NK)} {z0 : Fm} {v0 : Option V} {tn : TE} (hN : ∀ σ H, Val tn σ H (.int N))
    (m0 : ∀ t v, (mk t v)[0]? = some (some (.ref q))) (mt : ∀ t v, (mk t v)[it]? = some (some t)) (mf : ∀ t v, (mk t v)[ifc]? = some (some (.ref l))) (mh : ∀ t v x, (mk t v).set ih (some x) = mk t (some x)) (mh2 : ∀ t x, (mk t (some x))[ih]? = some (some x)) (ms : ∀ t v t', (mk t v).set it (some t') = mk t' v)
    (hfd : FdAt H q n) (hn : n ≤ 900000) (L : Lst H W l fcs) (hql : q ≠ l) (hlin : ∀ x ∈ fcs, LinF most ths x) (hlen : fcs.length ≤ 10) (U : Uni W) (N0 : 0 < N) (N1 : N ≤ 10000) (hm : 0 ≤ most) (hm1 : most ≤ 1000000) (F0 : FmOk H W z0) (c0 : z0.c = 0) (cf0 : ∀ t, z0.cf t = 0)
    (k : ∀ (tot : Fm) (vh : Option V) (H' : Hp) (ds : Nat → Int), Fz q H H' → FdAt H' q (n + 10) → FmOk H' W tot → (∀ j, 0 ≤ ds j) → tot.c = si fcs.length (fun j => ds j * cA fcs j) → (∀ t, tot.cf t = si fcs.length (fun j => ds j * cfA fcs t j)) → SmF ((N - 1) * most * fcs.length) tot → D.nx (mk (.ref tot.a) vh) H') :
    tFor (iList K (tVar ifc)) (gName ih) (tAsg (tCall spSum [] E0 (tCons (tVar it) (tCons (tOp (rIxT K) (tVar ih) (tC (.int 1))) (tCons (tCall spNext [] E0 (tCons (tVar 0) (tCons tn tNil))) tNil)))) (gName it)) D (mk (.ref z0.a) v0) H := by
  refine ⟨_, mf _ _, l, rfl, ⟨_, SqL.of L.at_⟩, for_list (K := K) (a := l) (xs := fcs.map fun x => .ref x.a)
    (fun i σ H' => ∃ tot vh, ∃ ds : Nat → Int, σ = mk (.ref tot.a) vh ∧ Fz q H H' ∧ FdAt H' q (n + i) ∧ FmOk H' W tot ∧ (∀ j, 0 ≤ ds j) ∧ tot.c = si i (fun j => ds j * cA fcs j) ∧ (∀ t, tot.cf t = si i (fun j => ds j * cfA fcs t j)) ∧ SmF ((N - 1) * most * (i : Nat)) tot)
    ⟨z0, v0, fun _ => 0, rfl, Fz.refl, hfd, F0, fun _ => Int.le_refl _, c0, cf0, ⟨by rw [c0]; simp, fun t => by rw [cf0 t]; simp⟩⟩ (fun i σ H' _ ⟨_, _, _, _, z, _⟩ => SqL.of (z _ _ L.at_ (Ne.symm hql))) ?_ ?_⟩
  · rintro i x σ H' hi ⟨tot, vh, ds, rfl, z, hf, Ft, hds, hc, hcf, hsm⟩
    rw [List.getElem?_map] at hi
    cases ex : fcs[i]? with
    | none => rw [ex] at hi; cases hi
    | some x =>
      rw [ex] at hi
      cases hi
      have hil : i < fcs.length := (List.getElem?_eq_some_iff.mp ex).1
      have hxm := List.mem_of_getElem? ex
      obtain ⟨f, ef, sf, nf, _⟩ := hlin x hxm
      have tk0 : Tk H H' := z.tk hfd
      have xo := ((L.ok x hxm).tk tk0).least ef
      obtain ⟨xs, hq, hx⟩ := hf
      show tAsg _ _ _ ((mk (.ref tot.a) vh).set ih (some (.ref x.a))) H'
      rw [mh]
      refine ⟨_, mt _ _, _, mh2 _ _, x.a, _, 1, .ref f.a, rfl, rfl, .inl xo.1, rfl, _, m0 _ _, hN _ _ _ ⟨q, N, xs, n + i, rfl, N0, by omega, hq, hx, by omega, fun r ys r0 rN hy => ?_⟩⟩
      have hq1 : (L2.upd H' q (.lst ys)) q = some (.lst ys) := upd_same
      have z1 : Fz q H' (L2.upd H' q (.lst ys)) := Fz.upd
      have tk1 : Tk H' (L2.upd H' q (.lst ys)) := Tk.upd hq trivial
      generalize L2.upd H' q (.lst ys) = H2 at hq1 z1 tk1 ⊢
      refine ⟨tot, f, r, W, rfl, Ft.tk tk1, xo.2.tk tk1, U, .inl ⟨by omega, by omega⟩, fun f' H4 s4 F4 c4 cf4 nz4 => ?_⟩
      show ∃ _, _
      rw [ms]
      have hA : cA fcs i = f.c := by unfold cA fcF; rw [ex]; show ((x.f).map _).getD 0 = _; rw [ef]; rfl
      have hB : ∀ t, cfA fcs t i = f.cf t := fun t => by unfold cfA fcF; rw [ex]; show ((x.f).map _).getD 0 = _; rw [ef]; rfl
      have hprod : (N - 1) * most * ((i + 1 : Nat) : Int) = (N - 1) * most * (i : Nat) + (N - 1) * most := by push_cast; grind
      have hsum : ∀ g : Nat → Int, si i (fun j => (if j = i then r else ds j) * g j) = si i fun j => ds j * g j := fun g => si_congr fun j hj => by rw [if_neg (by omega)]
      refine ⟨f', some (.ref x.a), fun j => if j = i then r else ds j, rfl, (z.trans z1).trans (Fz.of s4), ⟨ys, s4 _ _ hq1, hy⟩, F4, fun j => by show 0 ≤ (if j = i then r else ds j); split <;> first | exact r0 | exact hds j, ?_, fun t => ?_, ?_⟩
      · rw [c4, hc]
        show _ = si i _ + (if i = i then r else ds i) * cA fcs i
        rw [hsum, if_pos rfl, hA]
      · rw [cf4, hcf]
        show _ = si i _ + (if i = i then r else ds i) * cfA fcs t i
        rw [hsum, if_pos rfl, hB]
      · rw [hprod]
        refine ⟨?_, fun t => ?_⟩
        · have b := mulb r0 (show r ≤ N - 1 by omega) sf.1
          have c := hsm.1
          rw [c4]
          generalize (N - 1) * most * (i : Nat) = X at c ⊢
          generalize (N - 1) * most = Y at b ⊢
          generalize r * f.c = Z at b ⊢
          omega
        · have b := mulb r0 (show r ≤ N - 1 by omega) (sf.2 t)
          have c := hsm.2 t
          rw [cf4]
          generalize (N - 1) * most * (i : Nat) = X at c ⊢
          generalize (N - 1) * most = Y at b ⊢
          generalize r * f.cf t = Z at b ⊢
          omega
  · rintro σ H' ⟨tot, vh, ds, rfl, z, hf, Ft, hds, hc, hcf, hsm⟩
    rw [List.length_map] at hf hc hcf hsm
    exact k tot vh H' ds z (hf.mono (by omega)) Ft hds hc hcf hsm
end K47
end
section
set_option Elab.async false
set_option maxRecDepth 100000
set_option maxHeartbeats 4000000
set_option autoImplicit false
/-! borne: the walk. -/
namespace K47
open PySem L2 PySem.Spec PyProof.Rows
def AllBig (fcs : List Fc) : Prop := ∀ x ∈ fcs, ∃ f, x.f = some f ∧ Big (10 ^ 11) f
def spBear : Sp := fun vs H Q _ => ∃ (q tl : Addr) (most : Int) (n : Nat) (ths : List (Addr × NK)) (W : List NK), vs = [.ref q, .ref tl, .int most] ∧ FdAt H q n ∧ n ≤ 700000 ∧ H tl = some (.lst (ths.map fun t => V.ref t.1)) ∧ q ≠ tl ∧ ThOk H W ths ∧ Uni W ∧ ths.length ≤ 5 ∧ 0 ≤ most ∧ most ≤ 1000000 ∧
  ∀ (l : Addr) (fcs : List Fc) (H' : Hp), Fz q H H' → FdAt H' q (n + 300) → H l = none → Lst H' W l fcs → fcs.length ≤ 20 → AllBig fcs → HasRight fcs → Q (.ref l) H'
theorem e11 : ((10 ^ 11 : Nat) : Int) = 100000000000 := by decide
theorem big11 {H : Hp} {W : List NK} {f : Fm} (F : FmOk H W f) (h : SmF 100000000000 f) : Big (10 ^ 11) f := big_of F (by rw [e11]; exact h)
theorem si_succ (f : Nat → Int) (n : Nat) : si (n + 1) f = si n f + f n := rfl
theorem right_snoc {fcs : List Fc} {x : Fc} {f : Fm} (e : x.f = some f) (ds : Nat → Int) (h0 : ∀ j, 0 ≤ ds j) (m : Int) (hm : 0 ≤ m) (ht : ∀ t, si fcs.length (fun j => ds j * cfA fcs t j) + m * f.cf t = 0) (hc : si fcs.length (fun j => ds j * cA fcs j) + m * f.c < 0) : HasRight (fcs ++ [x]) := by
  have hlen : (fcs ++ [x]).length = fcs.length + 1 := by rw [List.length_append]; rfl
  refine ⟨fun j => if j < fcs.length then ds j else m, fun j => ?_, fun t => ?_, ?_⟩
  · dsimp only
    split
    · exact h0 j
    · exact hm
  · have e1 : si fcs.length (fun j => (if j < fcs.length then ds j else m) * cfA (fcs ++ [x]) t j) = si fcs.length fun j => ds j * cfA fcs t j := si_congr fun j hj => by rw [if_pos hj, cfA_app1 hj]
    rw [hlen, si_succ, cfA_last e]
    dsimp only
    rw [e1, if_neg (Nat.lt_irrefl _)]
    exact ht t
  · have e1 : si fcs.length (fun j => (if j < fcs.length then ds j else m) * cA (fcs ++ [x]) j) = si fcs.length fun j => ds j * cA fcs j := si_congr fun j hj => by rw [if_pos hj, cA_app1 hj]
    rw [hlen, si_succ, cA_last e]
    dsimp only
    rw [e1, if_neg (Nat.lt_irrefl _)]
    exact hc
theorem zero_form {H : Hp} {W : List NK} {pp z : Addr} {op : Obj} {c : Int} (hpp : H pp = none) (hop : op.dict = none) (hz : (upd H pp (.frz op (.tup []))) z = none) : Same H (upd (upd H pp (.frz op (.tup []))) z (.tup [.int c, .ref pp])) ∧ FmOk (upd (upd H pp (.frz op (.tup []))) z (.tup [.int c, .ref pp])) W ⟨z, pp, c, []⟩ := by
  have hpz : pp ≠ z := fun e => by rw [← e, upd_same] at hz; cases hz
  exact ⟨(same_upd hpp).trans (same_upd hz), .inl upd_same, ⟨op, by rw [upd_ne hpz, upd_same]; rfl, hop⟩, fun e he => (nomatch he), List.nodup_nil⟩
theorem scBorne : FnScope ["_law_feed_here", "_law_things_here", "_law_most", "_law_facts", "_law_total", "_law_fact_here", "_law_last", "_law_k"] ["_law_feed_here", "_law_things_here", "_law_most"] (defScope sBorne) := ⟨rfl, rfl, rfl, by decide +kernel, rfl, by decide +kernel, by decide +kernel⟩
section
variable {P : Program} {w : World} {K : PySem.W.Frag} {mg : Str → Option Value} {base : Heap} {C : Addr}
theorem cal_borne (D : Df K mg "_law_borne" sBorne ["_law_feed_here", "_law_things_here", "_law_most"]) (cN : Cal P w K mg base "_law_next" 1 ["_law_feed_here", "_law_many"] spNext) (cL : CalG P w K mg base "_law_linear" 2 ["_law_feed_here", "_law_things_here", "_law_most"] spLinear)
    (cS : CalG P w K mg base "_law_sum" 2 ["_law_one_here", "_law_other", "_law_many"] spSum) (Y : Txt K mg C) : CalG P w K mg base "_law_borne" 3 ["_law_feed_here", "_law_things_here", "_law_most"] spBear := by
  obtain ⟨fN, fdN, GN, mN, kpN, bN⟩ := cN
  obtain ⟨fS, fdS, GS, mSu, kpS, bS⟩ := cS
  obtain ⟨fL, fdL, GL, mL, kpL, bL⟩ := cL
  refine D.calG scBorne (fun vs H Q E h => ?_) (fun _ _ cdv A outer s H vs Q E gd hr h => ?_)
  · obtain ⟨_, _, _, _, _, _, rfl, _⟩ := h
    rfl
  · obtain ⟨q, tl, most, n, ths, W, rfl, hfd, hn, htl, hqt, hth, U, h5, hm0, hm1, k⟩ := h
    have nd := scBorne.nd
    have hr1 : Room 1 _ := hr.mono (by decide)
    refine ⟨_, pss_cons (ps_setLc (i := 3) (own := [("_law_k", 7)]) (g := gName 7) (tt := tYes) (te := tTup (tCons (tC (.str "least")) (tCons (tCall spLinear [] E0 (tCons (tVar 0) (tCons (tVar 1) (tCons (tVar 2) tNil)))) tNil))) rfl nd rfl rfl (sw_true rfl rfl rfl (by decide +kernel)) (pi_range1 rfl Y.range (pa_cons (pe_op op_add pe_int (pe_call GN hr1 (by rfl) mN kpN bN .nil pass0 (pa_cons (pv 0) (pa_cons pe_int pa_nil)))) pa_nil))
        (blkOk_by (N := ["_law_feed_here", "_law_things_here", "_law_most", "_law_facts", "_law_total", "_law_fact_here", "_law_last", "_law_k"]) (sc := defScope sBorne) (by decide +kernel)) (fun _ _ _ _ _ => pg_name (i := 7) nd rfl (Or.inl rfl)) (fun _ _ _ _ _ => pts_nil)
        (fun _ _ _ _ _ => pe_tup (pa_cons pe_str (pa_cons (pe_callG GL gd hr (by rfl) mL kpL bL (pa_cons (pv 0) (pa_cons (pv 1) (pa_cons (pv 2) pa_nil)))) pa_nil))))
      (pss_cons (ps_set (i := 4) nd rfl (Or.inl rfl) (pe_tup (pa_cons pe_int (pa_cons (pe_tupF pa_nil) pa_nil))))
      (pss_cons (ps_for PassesOwn.never rfl (pi_list (pv 3)) (pg_name (i := 5) nd rfl (Or.inl rfl))
        (pss_one (ps_set (i := 4) nd rfl (Or.inl rfl) (pe_callG GS gd hr (by rfl) mSu kpS bS (pa_cons (pv 4) (pa_cons (pe_ix ix_tup (pv 5) pe_int (fun _ _ => rfl)) (pa_cons (pe_call GN hr1 (by rfl) mN kpN bN .nil pass0 (pa_cons (pv 0) (pa_cons pe_int pa_nil))) pa_nil)))))))
      (pss_cons (ps_set (i := 6) nd rfl (Or.inl rfl) (pe_callG GS gd hr (by rfl) mSu kpS bS (pa_cons (pe_tup (pa_cons (pe_op op_sub (pe_un un_neg pe_int) (pe_call GN hr1 (by rfl) mN kpN bN .nil pass0 (pa_cons (pv 0) (pa_cons pe_int pa_nil)))) (pa_cons (pe_tupF pa_nil) pa_nil))) (pa_cons (pv 4) (pa_cons (pe_un un_neg pe_int) pa_nil)))))
      (pss_cons (ps_expr (pe_bm PySem.F.plainAttrs_list PySem.F.slot_list_append PySem.F.type_list_append mt_append (pv 3) (pa_cons (pe_tup (pa_cons pe_str (pa_cons (pv 6) pa_nil))) pa_nil)))
      (pss_one (ps_ret (pv 3))))))), ?_⟩
    refine q_setE ?_
    refine lc_lin (σ := [some (.ref q), some (.ref tl), some (.int most), none, none, none, none, none]) rfl (fun _ => rfl) (fun _ => rfl) (fun _ => rfl) (fun _ => rfl) hfd (by omega) htl hqt hth U h5 hm0 hm1 (by decide) (by decide) fun l fcs H1 z1 f1 hl L1 len1 lin1 => ?_
    have hql : q ≠ l := fun e => by
      obtain ⟨xs, hq, _⟩ := hfd
      rw [e, hl] at hq; cases hq
    refine q_setE ?_
    refine ⟨Nat.zero_le _, fun pp op hpp hop => ⟨by show 2 ≤ sizeLine; decide, fun z hz => ?_⟩⟩
    obtain ⟨s2, F0⟩ := zero_form (W := W) (c := 0) hpp hop hz
    generalize upd (upd H1 pp (.frz op (.tup []))) z (.tup [.int 0, .ref pp]) = H2 at s2 F0 ⊢
    obtain ⟨xs1, hq1, hx1⟩ := f1
    have L2' : Lst H2 W l fcs := ⟨s2 _ _ L1.at_, fun x hx => (L1.ok x hx).tk (Tk.of s2)⟩
    refine q_seq (for_sum (N := 4) (tn := tC (.int 4)) (fun _ _ => val_c) (it := 4) (ih := 5) (ifc := 3) (mk := fun t v => [some (.ref q), some (.ref tl), some (.int most), some (.ref l), some t, v, none, none]) (fun _ _ => rfl) (fun _ _ => rfl) (fun _ _ => rfl) (fun _ _ _ => rfl) (fun _ _ => rfl) (fun _ _ _ => rfl)
      ⟨xs1, s2 _ _ hq1, hx1⟩ (by omega) L2' hql lin1 (by omega) U (by decide) (by decide) hm0 hm1 F0 rfl (fun t => rfl) fun tot vh H3 ds z3 f3 Ft hds hc hcf hsm => ?_)
    dsimp only
    obtain ⟨xs3, hq3, hx3⟩ := f3
    refine q_setE ?_
    refine ⟨1, rfl, _, rfl, q, 3, xs3, _, rfl, by decide, by decide, hq3, hx3, by omega, fun e ys e0 e3 hy => ⟨-1, e, rfl, rfl, ?_⟩⟩
    have hq4 : (upd H3 q (.lst ys)) q = some (.lst ys) := upd_same
    have z4 : Fz q H3 (upd H3 q (.lst ys)) := Fz.upd
    have tk4 : Tk H3 (upd H3 q (.lst ys)) := Tk.upd hq3 trivial
    generalize upd H3 q (.lst ys) = H4 at hq4 z4 tk4 ⊢
    refine ⟨Nat.zero_le _, fun pp2 op2 hpp2 hop2 => ⟨by show 2 ≤ sizeLine; decide, fun y hyy => ?_⟩⟩
    obtain ⟨s5, F5⟩ := zero_form (W := W) (c := -1 - e) hpp2 hop2 hyy
    generalize upd (upd H4 pp2 (.frz op2 (.tup []))) y (.tup [.int (-1 - e), .ref pp2]) = H5 at s5 F5 ⊢
    refine ⟨_, rfl, 1, rfl, ⟨y, pp2, -1 - e, []⟩, tot, -1, W, rfl, F5, Ft.tk (tk4.trans (Tk.of s5)), U, .inl ⟨by decide, by decide⟩, fun f H6 s6 F6 c6 cf6 nz6 => ?_⟩
    dsimp only
    show tSeq (tDrop _) _ _ _ _
    have tkA : Tk H1 H6 := (Tk.of s2).trans (((z3.tk ⟨xs1, s2 _ _ hq1, hx1⟩).trans tk4).trans ((Tk.of s5).trans (Tk.of s6)))
    have hl6 : H6 l = some (.lst (fcs.map fun x => .ref x.a)) := s6 _ _ (s5 _ _ (z4 _ _ (z3 _ _ L2'.at_ (Ne.symm hql)) (Ne.symm hql)))
    have hq6 := s6 _ _ (s5 _ _ hq4)
    refine ⟨_, rfl, .inl ⟨rfl, _, SqL.of hl6⟩, _, rfl, by show 2 ≤ sizeLine; decide, fun a ha => ?_⟩
    have s7 := same_upd (o := .tup [.str "least", .ref f.a]) ha
    refine ⟨l, _, .ref a, rfl, rfl, s7 _ _ hl6, by rw [List.length_map]; exact small100 (by omega), ?_⟩
    have hl7 := s7 _ _ hl6
    have tk8 : Tk (upd H6 a (.tup [.str "least", .ref f.a])) (upd (upd H6 a (.tup [.str "least", .ref f.a])) l (.lst ((fcs.map fun x => V.ref x.a) ++ [.ref a]))) := Tk.upd hl7 trivial
    refine ⟨_, rfl, k l (fcs ++ [⟨a, some f⟩]) _ (fun c o h hc => ?_) ⟨ys, by rw [upd_ne hql]; exact s7 _ _ hq6, hy.mono (by omega)⟩ hl ⟨by rw [upd_same, List.map_append]; rfl, fun x hx => FcOk.tk ?_ tk8⟩ (by rw [List.length_append]; show fcs.length + 1 ≤ 20; omega) (fun x hx => ?_) ?_⟩
    · have hcl : c ≠ l := fun e => by rw [e, hl] at h; cases h
      rw [upd_ne hcl]
      exact s7 _ _ (s6 _ _ (s5 _ _ (z4 _ _ (z3 _ _ (s2 _ _ (z1 _ _ h hc)) hc) hc)))
    · rcases List.mem_append.mp hx with h | h
      · exact (L1.ok x h).tk (tkA.trans (Tk.of s7))
      · rw [List.mem_singleton] at h
        subst h
        exact ⟨.inl upd_same, F6.tk (Tk.of s7)⟩
    · rcases List.mem_append.mp hx with h | h
      · obtain ⟨f', e1, e2, _⟩ := lin1 x h
        exact ⟨f', e1, big11 ((L1.ok x h).least e1).2 (e2.mono (by omega))⟩
      · rw [List.mem_singleton] at h
        subst h
        refine ⟨f, rfl, big11 F6 ?_⟩
        have hb : (4 - 1) * most * (fcs.length : Int) ≤ 21000000 := by
          have h0 : (4 - 1) * most = 3 * most := by omega
          have h1 : (3 * most) * (fcs.length : Int) ≤ 3000000 * 7 := Int.mul_le_mul (by omega) len1 (by omega) (by omega)
          rw [h0]
          generalize 3 * most * (fcs.length : Int) = X at h1 ⊢
          omega
        have hs := hsm.mono hb
        refine ⟨?_, fun t => ?_⟩
        · have := hs.1
          rw [c6]
          show -100000000000 ≤ -1 - e + -1 * tot.c ∧ -1 - e + -1 * tot.c ≤ 100000000000
          omega
        · have := hs.2 t
          rw [cf6]
          show -100000000000 ≤ 0 + -1 * tot.cf t ∧ 0 + -1 * tot.cf t ≤ 100000000000
          omega
    · refine right_snoc (f := f) rfl ds hds 1 (Int.le_of_lt Int.one_pos) (fun t => ?_) ?_
      · have e3 : f.cf t = 0 + -1 * tot.cf t := cf6 t
        rw [e3, hcf]
        generalize si fcs.length (fun j => ds j * cfA fcs t j) = X
        omega
      · have e3 : f.c = -1 - e + -1 * tot.c := c6
        rw [e3, hc]
        generalize si fcs.length (fun j => ds j * cA fcs j) = X
        omega
end
end K47
end
section
set_option Elab.async false
set_option maxRecDepth 100000
set_option maxHeartbeats 4000000
set_option autoImplicit false
/-! borne_often. -/
namespace K47
open PySem L2 PySem.Spec PyProof.Rows
/-- pairs of a form's things, the numbers mapped -/
def mapP (g : Int → Int) (prs es : List Pc) : Prop := prs.map (fun e => (e.k, e.m)) = es.map fun e => (e.k, g e.m)
theorem csP_map {g : Int → Int} (g0 : g 0 = 0) {prs es : List Pc} (h : mapP g prs es) (nd : (es.map (·.k)).Nodup) (t : NK) : csP prs t = g (cfP es t) := by
  rw [csP_pairs, h, List.map_map, cfP_cs t es nd]
  clear h
  induction es with
  | nil => exact g0.symm
  | cons e es ih =>
    rw [List.map_cons, List.nodup_cons] at nd
    rw [List.map_cons, List.sum_cons, ih nd.2, csP_cons]
    show (if e.k = t then g e.m else 0) + _ = _
    by_cases c : e.k = t
    · rw [if_pos c, if_pos c, csP_none (by rw [← c]; exact nd.1), g0, Int.add_zero, Int.add_zero]
    · rw [if_neg c, if_neg c, Int.zero_add, Int.zero_add]
theorem lc_pieces {K : PySem.W.Frag} {σ : L2.St} {H : Hp} {W : List NK} {i j : Nat} {tp tm : TE} {g : Int → Int} {f : Fm} {Q : VK} (hp : Val tp σ H (.ref f.p)) (F : FmOk H W f) (U : Uni W) (hw : ∀ x y, wipe (((wipe σ [i, j]).set i (some x)).set j (some y)) [i, j] = wipe σ [i, j])
    (hi : ∀ x y, (((wipe σ [i, j]).set i (some x)).set j (some y))[i]? = some (some x)) (htm : ∀ x m H', Val tm (((wipe σ [i, j]).set i (some x)).set j (some (.int m))) H' (.int (g m)))
    (k : ∀ D prs H', Same H H' → H D = none → H' D = some (.lst (prs.map fun e : Pc => V.ref e.pa)) → (∀ e ∈ prs, PcOk H' W e) → mapP g prs f.es → Q (.ref D) H') :
    tLc (iTup K tp) (gTup K 2 (gCons (gName i) (gCons (gName j) gNil))) tYes (tTup (tCons (tVar i) (tCons tm tNil))) [i, j] σ H Q := by
  have hl2 := F.len U
  refine hp _ ⟨f.p, rfl, ⟨_, .inl F.ps.rd⟩, fun D1 nD1 => lc_tup (K := K) (a := f.p) (xs := f.es.map fun e => .ref e.pa)
      (fun i H' => Same H H' ∧ ∃ prs : List Pc, H' D1 = some (.lst (prs.map fun e => V.ref e.pa)) ∧ (∀ e ∈ prs, PcOk H' W e) ∧ mapP g prs (f.es.take i)) ⟨same_upd nD1, [], upd_same, fun e he => (nomatch he), rfl⟩
      (fun i H' _ ⟨s, _⟩ => .inl ((F.tk (Tk.of s)).ps.rd)) ?_ ?_⟩
  · rintro n x H' hn ⟨s, prs, hD, hp, hs⟩
    rw [List.getElem?_map] at hn
    cases ee : f.es[n]? with
    | none => rw [ee] at hn; cases hn
    | some e =>
      rw [ee] at hn
      cases hn
      have hm := List.mem_of_getElem? ee
      have ok : PcOk H' W e := PcOk.tk (F.pc e hm) (Tk.of s)
      refine ⟨e.pa, _, rfl, .inl ok.1, rfl, _, _, rfl, _, _, rfl, rfl, hw _ _, ?_⟩
      refine ⟨_, hi _ _, htm _ _ _ _ ⟨by show 2 ≤ sizeLine; decide, fun a ha => ?_⟩⟩
      have s1 : Same H' (upd H' a (.tup [.ref e.ta, .int (g e.m)])) := same_upd ha
      have hlen := congrArg List.length hs
      rw [List.length_map, List.length_map, List.length_take] at hlen
      refine ⟨_, s1 _ _ hD, by rw [List.length_map]; exact small100 (by omega), fun c o h => ?_, prs ++ [⟨a, e.ta, e.k, g e.m⟩], ?_, fun e' he' => ?_, ?_⟩
      · have h1 := s1 _ _ (s c o h)
        rw [upd_ne (ne_of_none h nD1)]; exact h1
      · rw [upd_same, List.map_append]; rfl
      · have tk1 : Tk (upd H' a (.tup [.ref e.ta, .int (g e.m)])) (upd (upd H' a (.tup [.ref e.ta, .int (g e.m)])) D1 (.lst (prs.map (fun e => V.ref e.pa) ++ [.ref a]))) := Tk.upd (s1 _ _ hD) trivial
        refine PcOk.tk ?_ tk1
        rcases List.mem_append.mp he' with m | m
        · exact (hp e' m).tk (Tk.of s1)
        · rw [List.mem_singleton] at m
          subst m
          exact ⟨.inl upd_same, (ok.tk (Tk.of s1)).2⟩
      · unfold mapP at hs ⊢
        rw [List.map_append, hs, take_succ_get ee, List.map_append]; rfl
  · rintro H' ⟨s, prs, hD, hp, hs⟩
    rw [List.length_map, List.take_of_length_le (Nat.le_refl _)] at hs
    exact k D1 prs H' s nD1 hD hp hs
/-- the numbers of a last fact -/
theorem often_cf {x y by_ : Int} (hb : 0 < by_) (hy : y = (-x) % by_) : x + 1 * y + by_ * -((x + 1 * y) / by_) = 0 := by
  have h1 : by_ ∣ x + y := by
    subst hy
    refine Int.dvd_of_emod_eq_zero ?_
    rw [Int.add_emod, Int.emod_emod_of_dvd _ (Int.dvd_refl _), ← Int.add_emod]
    have : x + -x = 0 := by omega
    rw [this]; rfl
  rw [Int.one_mul]
  have h2 := Int.mul_ediv_cancel' h1
  rw [Int.mul_neg, h2]; omega
theorem often_c {z by_ e : Int} (hb : 0 < by_) (he : 0 ≤ e) : z + by_ * (-(z / by_) - 1 - e) < 0 := by
  have h1 := Int.emod_add_mul_ediv z by_
  have h2 := Int.emod_lt_of_pos z hb
  have h3 : 0 ≤ by_ * e := Int.mul_nonneg (by omega) he
  have h4 : by_ * (-(z / by_) - 1 - e) = -(by_ * (z / by_)) - by_ - by_ * e := by grind
  rw [h4]
  omega
theorem right_snoc2 {fcs : List Fc} {x y : Fc} {f g : Fm} (e : x.f = some f) (e' : y.f = some g) (ds : Nat → Int) (h0 : ∀ j, 0 ≤ ds j) (m k : Int) (hm : 0 ≤ m) (hk : 0 ≤ k) (ht : ∀ t, si fcs.length (fun j => ds j * cfA fcs t j) + m * f.cf t + k * g.cf t = 0) (hc : si fcs.length (fun j => ds j * cA fcs j) + m * f.c + k * g.c < 0) : HasRight (fcs ++ [x, y]) := by
  have hlen : (fcs ++ [x]).length = fcs.length + 1 := by rw [List.length_append]; rfl
  have e0 : fcs ++ [x, y] = (fcs ++ [x]) ++ [y] := by simp
  have key : ∀ (A B : Nat → Int) (z : Int), (∀ j, j < fcs.length → A j = B j) → A fcs.length = z → si (fcs.length + 1) (fun j => (if j < fcs.length then ds j else m) * A j) = si fcs.length (fun j => ds j * B j) + m * z := fun A B z h1 h2 => by
    rw [si_succ, if_neg (Nat.lt_irrefl _), h2]
    congr 1
    exact si_congr fun j hj => by rw [if_pos hj, h1 j hj]
  rw [e0]
  refine right_snoc (f := g) e' (fun j => if j < fcs.length then ds j else m) (fun j => ?_) k hk (fun t => ?_) ?_
  · split
    · exact h0 j
    · exact hm
  · rw [hlen, key _ (cfA fcs t) (f.cf t) (fun j hj => cfA_app1 hj) (cfA_last e)]; exact ht t
  · rw [hlen, key _ (cA fcs) f.c (fun j hj => cA_app1 hj) (cA_last e)]; exact hc
theorem often_big {most : Int} {len : Nat} (h0 : 0 ≤ most) (h1 : most ≤ 1000000) (hl : (len : Int) ≤ 6) : (10000 - 1) * most * len ≤ 59994000000 := by
  have e : (10000 - 1) * most = 9999 * most := by omega
  have h2 : (9999 * most) * (len : Int) ≤ 9999000000 * 6 := Int.mul_le_mul (by omega) hl (by omega) (by omega)
  rw [e]
  generalize 9999 * most * (len : Int) = X at h2 ⊢
  omega
theorem ediv_bd {x b M : Int} (h : -M ≤ x ∧ x ≤ M) : -M ≤ -(x / b) ∧ -(x / b) ≤ M := by
  have := Int.natAbs_ediv_le_natAbs x b
  generalize x / b = y at this ⊢
  omega
theorem last_bd {x b e : Int} (h : -60000000000 ≤ x ∧ x ≤ 60000000000) (he : 0 ≤ e) (he3 : e < 3) : -100000000000 ≤ -(x / b) - 1 - e ∧ -(x / b) - 1 - e ≤ 100000000000 := by
  have := ediv_bd (b := b) h
  generalize -(x / b) = y at this ⊢
  omega
theorem neg_mod0 {b : Int} (_hb : 0 < b) : (-(0 : Int)) % b = 0 := by rw [Int.neg_zero, Int.zero_emod]
theorem neg_div0 {b : Int} : -((0 : Int) / b) = 0 := by rw [Int.zero_ediv]; rfl
theorem by_at {r : Int} (h0 : 0 ≤ r) (h4 : r < 4) : ∃ b : Int, atI [V.int 2, .int 3, .int 97, .int ((10 : Int) ^ (4 : Int).toNat + 7)] r = some (.int b) ∧ 2 ≤ b ∧ b ≤ 10007 := by
  have : r = 0 ∨ r = 1 ∨ r = 2 ∨ r = 3 := by omega
  rcases this with rfl | rfl | rfl | rfl
  · exact ⟨2, rfl, by decide, by decide⟩
  · exact ⟨3, rfl, by decide, by decide⟩
  · exact ⟨97, rfl, by decide, by decide⟩
  · exact ⟨(10 : Int) ^ (4 : Int).toNat + 7, rfl, by decide, by decide⟩
theorem rest_bd {r9 b : Int} {x : Int} (hb : 2 ≤ b) (hb2 : b ≤ 10007) : 0 ≤ (-x) % b ∧ (-x) % b < 10007 := ⟨Int.emod_nonneg _ (by omega), Int.lt_of_lt_of_le (Int.emod_lt_of_pos _ (by omega)) hb2⟩
theorem scOften : FnScope ["_law_feed_here", "_law_things_here", "_law_most", "_law_facts", "_law_by", "_law_total", "_law_fact_here", "_law_rest", "_law_pairs", "_law_last", "_law_k", "_law_thing_here", "_law_many"] ["_law_feed_here", "_law_things_here", "_law_most"] (defScope sOften) := ⟨rfl, rfl, rfl, by decide +kernel, rfl, by decide +kernel, by decide +kernel⟩
section
variable {P : Program} {w : World} {K : PySem.W.Frag} {mg : Str → Option Value} {base : Heap} {C : Addr}
abbrev NOf : List Str := ["_law_feed_here", "_law_things_here", "_law_most", "_law_facts", "_law_by", "_law_total", "_law_fact_here", "_law_rest", "_law_pairs", "_law_last", "_law_k", "_law_thing_here", "_law_many"]
theorem cal_often (D : Df K mg "_law_borne_often" sOften ["_law_feed_here", "_law_things_here", "_law_most"]) (cN : Cal P w K mg base "_law_next" 1 ["_law_feed_here", "_law_many"] spNext) (cL : CalG P w K mg base "_law_linear" 2 ["_law_feed_here", "_law_things_here", "_law_most"] spLinear)
    (cS : CalG P w K mg base "_law_sum" 2 ["_law_one_here", "_law_other", "_law_many"] spSum) (cM : CalG P w K mg base "_law_made" 1 ["_law_number", "_law_pairs"] spMade) (Y : Txt K mg C) : CalG P w K mg base "_law_borne_often" 3 ["_law_feed_here", "_law_things_here", "_law_most"] spBear := by
  obtain ⟨fN, fdN, GN, mN, kpN, bN⟩ := cN
  obtain ⟨fS, fdS, GS, mSu, kpS, bS⟩ := cS
  obtain ⟨fL, fdL, GL, mL, kpL, bL⟩ := cL
  obtain ⟨fM, fdM, GM, mM, kpM, bM⟩ := cM
  refine D.calG scOften (fun vs H Q E h => ?_) (fun _ _ cdv A outer s H vs Q E gd hr h => ?_)
  · obtain ⟨_, _, _, _, _, _, rfl, _⟩ := h
    rfl
  · obtain ⟨q, tl, most, n, ths, W, rfl, hfd, hn, htl, hqt, hth, U, h5, hm0, hm1, k⟩ := h
    have nd := scOften.nd
    have hr1 : Room 1 _ := hr.mono (by decide)
    refine ⟨_, pss_cons (ps_setLc (i := 3) (own := [("_law_k", 10)]) (g := gName 10) (tt := tYes) (te := tTup (tCons (tC (.str "least")) (tCons (tCall spLinear [] E0 (tCons (tVar 0) (tCons (tVar 1) (tCons (tVar 2) tNil)))) tNil))) rfl nd rfl rfl (sw_true rfl rfl rfl (by decide +kernel)) (pi_range1 rfl Y.range (pa_cons (pe_op op_add pe_int (pe_call GN hr1 (by rfl) mN kpN bN .nil pass0 (pa_cons (pv 0) (pa_cons pe_int pa_nil)))) pa_nil))
        (blkOk_by (N := NOf) (sc := defScope sOften) (by decide +kernel)) (fun _ _ _ _ _ => pg_name (i := 10) nd rfl (Or.inl rfl)) (fun _ _ _ _ _ => pts_nil)
        (fun _ _ _ _ _ => pe_tup (pa_cons pe_str (pa_cons (pe_callG GL gd hr (by rfl) mL kpL bL (pa_cons (pv 0) (pa_cons (pv 1) (pa_cons (pv 2) pa_nil)))) pa_nil))))
      (pss_cons (ps_set (i := 4) nd rfl (Or.inr rfl) (pe_ix ix_list (pe_lst (pa_cons pe_int (pa_cons pe_int (pa_cons pe_int (pa_cons (pe_op op_add (pe_op op_pow pe_int pe_int) pe_int) pa_nil))))) (pe_call GN hr1 (by rfl) mN kpN bN .nil pass0 (pa_cons (pv 0) (pa_cons pe_int pa_nil))) (fun _ _ => rfl)))
      (pss_cons (ps_set (i := 5) nd rfl (Or.inl rfl) (pe_tup (pa_cons pe_int (pa_cons (pe_tupF pa_nil) pa_nil))))
      (pss_cons (ps_for PassesOwn.never rfl (pi_list (pv 3)) (pg_name (i := 6) nd rfl (Or.inl rfl))
        (pss_one (ps_set (i := 5) nd rfl (Or.inl rfl) (pe_callG GS gd hr (by rfl) mSu kpS bS (pa_cons (pv 5) (pa_cons (pe_ix ix_tup (pv 6) pe_int (fun _ _ => rfl)) (pa_cons (pe_call GN hr1 (by rfl) mN kpN bN .nil pass0 (pa_cons (pv 0) (pa_cons (pe_op op_pow pe_int pe_int) pa_nil))) pa_nil)))))))
      (pss_cons (ps_set (i := 7) nd rfl (Or.inl rfl) (pe_callG GM gd hr1 (by rfl) mM kpM bM (pa_cons (pe_op op_sub (pe_call GN hr1 (by rfl) mN kpN bN .nil pass0 (pa_cons (pv 0) (pa_cons pe_int pa_nil))) pe_int)
        (pa_cons (pe_lc (own := [("_law_thing_here", 11), ("_law_many", 12)]) (g := gTup K 2 (gCons (gName 11) (gCons (gName 12) gNil))) (tt := tYes) (te := tTup (tCons (tVar 11) (tCons (iMod (tUn (rU fun i => V.int (-i)) (tVar 12)) (tVar 4)) tNil))) rfl nd (pi_tup (pe_ix ix_tup (pv 5) pe_int (fun _ _ => rfl)))
          (blkOk_by (N := NOf) (sc := defScope sOften) (by decide +kernel)) (fun _ _ _ _ _ => pg_tup rfl (pgs_cons (pg_name (i := 11) nd rfl (Or.inl rfl)) (pgs_cons (pg_name (i := 12) nd rfl (Or.inl rfl)) pgs_nil))) (fun _ _ _ _ _ => pts_nil)
          (fun _ _ _ _ _ => pe_tup (pa_cons (pv 11) (pa_cons (pe_op op_mod (pe_un un_neg (pv 12)) (pv 4)) pa_nil)))) pa_nil))))
      (pss_cons (ps_set (i := 5) nd rfl (Or.inl rfl) (pe_callG GS gd hr (by rfl) mSu kpS bS (pa_cons (pv 5) (pa_cons (pv 7) (pa_cons pe_int pa_nil)))))
      (pss_cons (ps_setLc (i := 8) (own := [("_law_thing_here", 11), ("_law_many", 12)]) (g := gTup K 2 (gCons (gName 11) (gCons (gName 12) gNil))) (tt := tYes) (te := tTup (tCons (tVar 11) (tCons (tUn (rU fun i => V.int (-i)) (iFd (tVar 12) (tVar 4))) tNil))) rfl nd rfl rfl (sw_true rfl rfl rfl (by decide +kernel)) (pi_tup (pe_ix ix_tup (pv 5) pe_int (fun _ _ => rfl)))
          (blkOk_by (N := NOf) (sc := defScope sOften) (by decide +kernel)) (fun _ _ _ _ _ => pg_tup rfl (pgs_cons (pg_name (i := 11) nd rfl (Or.inl rfl)) (pgs_cons (pg_name (i := 12) nd rfl (Or.inl rfl)) pgs_nil))) (fun _ _ _ _ _ => pts_nil)
          (fun _ _ _ _ _ => pe_tup (pa_cons (pv 11) (pa_cons (pe_un un_neg (pe_op op_fdiv (pv 12) (pv 4))) pa_nil))))
      (pss_cons (ps_set (i := 9) nd rfl (Or.inl rfl) (pe_callG GM gd hr1 (by rfl) mM kpM bM (pa_cons (pe_op op_sub (pe_op op_sub (pe_un un_neg (pe_op op_fdiv (pe_ix ix_tup (pv 5) pe_int (fun _ _ => rfl)) (pv 4))) pe_int) (pe_call GN hr1 (by rfl) mN kpN bN .nil pass0 (pa_cons (pv 0) (pa_cons pe_int pa_nil)))) (pa_cons (pv 8) pa_nil))))
      (pss_one (ps_ret (pe_op op_cat (pv 3) (pe_lst (pa_cons (pe_tup (pa_cons pe_str (pa_cons (pv 7) pa_nil))) (pa_cons (pe_tup (pa_cons pe_str (pa_cons (pv 9) pa_nil))) pa_nil))))))))))))), ?_⟩
    refine q_setE ?_
    refine lc_lin (N := 6) (σ := [some (.ref q), some (.ref tl), some (.int most), none, none, none, none, none, none, none, none, none, none]) rfl (fun _ => rfl) (fun _ => rfl) (fun _ => rfl) (fun _ => rfl) hfd (Nat.le_trans hn (by decide)) htl hqt hth U h5 hm0 hm1 (by decide) (by decide) fun l fcs H1 z1 f1 hl L1 len1 lin1 => ?_
    have hql : q ≠ l := fun e => by
      obtain ⟨xs, hq, _⟩ := hfd
      rw [e, hl] at hq; cases hq
    obtain ⟨xs1, hq1, hx1⟩ := f1
    -- by
    refine q_setE ?_
    refine ⟨10, 4, rfl, rfl, ⟨by decide, by decide, by decide⟩, _, 7, rfl, rfl, by show 4 ≤ sizeLine; decide, fun bl hbl => ?_⟩
    have sB := same_upd (o := .lst [V.int 2, .int 3, .int 97, .int ((10 : Int) ^ (4 : Int).toNat + 7)]) hbl
    have hBl : (upd H1 bl (.lst [V.int 2, .int 3, .int 97, .int ((10 : Int) ^ (4 : Int).toNat + 7)])) bl = some (.lst [V.int 2, .int 3, .int 97, .int ((10 : Int) ^ (4 : Int).toNat + 7)]) := upd_same
    have hqbl : q ≠ bl := ne_of_none hq1 hbl
    refine ⟨_, rfl, q, 4, xs1, n + 201, rfl, by decide, by decide, sB _ _ hq1, hx1, Nat.le_trans (Nat.add_le_add_right hn 201) (by decide), fun r ys r0 r4 hy => ?_⟩
    obtain ⟨b, hb, hb2, hb7⟩ := by_at r0 r4
    have hb0 : 0 < b := Int.lt_of_lt_of_le (by decide) hb2
    refine ⟨bl, _, r, .int b, rfl, rfl, SqL.of (by rw [upd_ne (Ne.symm hqbl)]; exact hBl), hb, ?_⟩
    have zB : Fz q H1 (upd (upd H1 bl (.lst [V.int 2, .int 3, .int 97, .int ((10 : Int) ^ (4 : Int).toNat + 7)])) q (.lst ys)) := (Fz.of sB).trans Fz.upd
    have hqB : (upd (upd H1 bl (.lst [V.int 2, .int 3, .int 97, .int ((10 : Int) ^ (4 : Int).toNat + 7)])) q (.lst ys)) q = some (.lst ys) := upd_same
    change tSeq _ _ _ _ (upd (upd H1 bl (.lst [V.int 2, .int 3, .int 97, .int ((10 : Int) ^ (4 : Int).toNat + 7)])) q (.lst ys))
    generalize upd (upd H1 bl (.lst [V.int 2, .int 3, .int 97, .int ((10 : Int) ^ (4 : Int).toNat + 7)])) q (.lst ys) = HB at zB hqB ⊢
    have tkB : Tk H1 HB := zB.tk ⟨xs1, hq1, hx1⟩
    -- total
    refine q_setE ?_
    refine ⟨Nat.zero_le _, fun pp op hpp hop => ⟨by show 2 ≤ sizeLine; decide, fun z hz => ?_⟩⟩
    obtain ⟨s2, F0⟩ := zero_form (W := W) (c := 0) hpp hop hz
    generalize upd (upd HB pp (.frz op (.tup []))) z (.tup [.int 0, .ref pp]) = H2 at s2 F0 ⊢
    have L2' : Lst H2 W l fcs := ⟨s2 _ _ (zB _ _ L1.at_ (Ne.symm hql)), fun x hx => (L1.ok x hx).tk (tkB.trans (Tk.of s2))⟩
    have hq2 := s2 _ _ hqB
    have e4 : (10 : Int) ^ (4 : Int).toNat = 10000 := by decide
    have hlen10 : fcs.length ≤ 10 := by omega
    refine q_seq (for_sum (N := 10000) (tn := tOp (rI CPow fun i j => V.int (i ^ j.toNat)) (tC (.int 10)) (tC (.int 4))) (fun _ H Q q => ⟨10, 4, rfl, rfl, ⟨by decide, by decide, by decide⟩, by show Q (.int ((10 : Int) ^ (4 : Int).toNat)) H; rw [e4]; exact q⟩) (it := 5) (ih := 6) (ifc := 3)
      (mk := fun t v => [some (.ref q), some (.ref tl), some (.int most), some (.ref l), some (.int b), some t, v, none, none, none, none, none, none]) (fun _ _ => rfl) (fun _ _ => rfl) (fun _ _ => rfl) (fun _ _ _ => rfl) (fun _ _ => rfl) (fun _ _ _ => rfl)
      ⟨ys, hq2, hy⟩ (by omega) L2' hql lin1 hlen10 U (by decide) (by decide) hm0 hm1 F0 rfl (fun t => rfl) fun tot vh H3 ds z3 f3 Ft hds hc hcf hsm => ?_)
    dsimp only
    obtain ⟨xs3, hq3, hx3⟩ := f3
    have hsm6 := hsm.mono (often_big hm0 hm1 len1)
    have tk3 : Tk H2 H3 := z3.tk ⟨ys, hq2, hy⟩
    have hl3 := z3 _ _ L2'.at_ (Ne.symm hql)
    have tkA3 : Tk H1 H3 := tkB.trans ((Tk.of s2).trans tk3)
    have zA3 : Fz q H H3 := z1.trans (zB.trans ((Fz.of s2).trans z3))
    clear hsm
    -- rest
    refine q_setE ?_
    refine ⟨_, rfl, q, 9, xs3, n + 201 + 1 + 10, rfl, by decide, by decide, hq3, hx3, by omega, fun r9 y9 r90 r99 hy9 => ⟨r9, 4, rfl, rfl, ?_⟩⟩
    have hq4 : (upd H3 q (.lst y9)) q = some (.lst y9) := upd_same
    have z4 : Fz q H3 (upd H3 q (.lst y9)) := Fz.upd
    have tk4 : Tk H3 (upd H3 q (.lst y9)) := Tk.upd hq3 trivial
    generalize upd H3 q (.lst y9) = H4 at hq4 z4 tk4 ⊢
    refine lc_pieces (W := W) (f := tot) (g := fun m => (-m) % b) (val_ixT vn val_c (Ft.tk tk4).at_ rfl) (Ft.tk tk4) U (fun _ _ => rfl) (fun _ _ => rfl) (fun x m H' => val_I (val_un vn) vn hb0) fun D prs H5 s5 _ hD5 hp5 hmap => ?_
    refine ⟨r9 - 4, D, prs, W, rfl, hD5, hp5, U, fun rest H6 s6 F6 c6 cf6 nz6 => ?_⟩
    dsimp only
    have cfR : ∀ t, rest.cf t = (-(tot.cf t)) % b := fun t => by rw [cf6 t]; exact csP_map (g := fun m => (-m) % b) (neg_mod0 hb0) hmap Ft.nd t
    have s46 := s5.trans s6
    -- total
    refine q_setE ⟨_, rfl, _, rfl, tot, rest, 1, W, rfl, (Ft.tk tk4).tk (Tk.of s46), F6, U, .inl ⟨by decide, by decide⟩, fun tot1 H7 s7 F7 c7 cf7 nz7 => ?_⟩
    -- pairs
    refine q_setE ?_
    refine lc_pieces (W := W) (f := tot1) (g := fun m => -(m / b)) (val_ixT vn val_c F7.at_ rfl) F7 U (fun _ _ => rfl) (fun _ _ => rfl) (fun x m H' => val_un (val_I vn vn ⟨hb0, Int.lt_of_le_of_lt hb7 (by decide)⟩)) fun D2 prs2 H8 s8 _ hD8 hp8 hmap2 => ?_
    have s48 := s46.trans (s7.trans s8)
    have hq8 := s48 _ _ hq4
    -- last
    refine q_setE ?_
    refine ⟨_, rfl, tot1.a, _, 0, .int tot1.c, rfl, rfl, .inl (F7.tk (Tk.of s8)).at_, rfl, _, rfl, _, _, rfl, rfl, ⟨hb0, Int.lt_of_le_of_lt hb7 (by decide)⟩, _, rfl, _, 1, rfl, rfl, _, rfl, q, 3, y9, n + 201 + 1 + 10 + 1, rfl, by decide, by decide, hq8, hy9, by omega, fun e ye e0 e3 hye => ⟨_, e, rfl, rfl, _, rfl, ?_⟩⟩
    have hq9 : (upd H8 q (.lst ye)) q = some (.lst ye) := upd_same
    have z9 : Fz q H8 (upd H8 q (.lst ye)) := Fz.upd
    have tk9 : Tk H8 (upd H8 q (.lst ye)) := Tk.upd hq8 trivial
    have hD9 : (upd H8 q (.lst ye)) D2 = some (.lst (prs2.map fun e : Pc => V.ref e.pa)) := by
      have hqD : D2 ≠ q := fun z => by
        subst z
        rename_i hD2n
        have := (s46.trans s7) _ _ hq4
        rw [hD2n] at this; cases this
      rw [upd_ne hqD]; exact hD8
    generalize upd H8 q (.lst ye) = H9 at hq9 z9 tk9 hD9 ⊢
    refine ⟨-(tot1.c / b) - 1 - e, D2, prs2, W, rfl, hD9, fun e he => (hp8 e he).tk tk9, U, fun lst H10 s10 F10 c10 cf10 nz10 => ?_⟩
    dsimp only
    have cfL : ∀ t, lst.cf t = -(tot1.cf t / b) := fun t => by rw [cf10 t]; exact csP_map (g := fun m => -(m / b)) neg_div0 hmap2 F7.nd t
    have zA10 : Fz q H H10 := zA3.trans (z4.trans ((Fz.of s48).trans (z9.trans (Fz.of s10))))
    have hl10 : H10 l = some (.lst (fcs.map fun x => .ref x.a)) := s10 _ _ (z9 _ _ (s48 _ _ (z4 _ _ hl3 (Ne.symm hql))) (Ne.symm hql))
    have hq10 := s10 _ _ hq9
    have tkA10 : Tk H1 H10 := tkA3.trans (tk4.trans ((Tk.of s48).trans (tk9.trans (Tk.of s10))))
    have FR10 : FmOk H10 W rest := F6.tk ((Tk.of (s7.trans s8)).trans (tk9.trans (Tk.of s10)))
    refine ⟨_, rfl, _, rfl, by show 2 ≤ sizeLine; decide, fun a1 ha1 => ⟨_, rfl, by show 2 ≤ sizeLine; decide, fun a2 ha2 => ⟨by show 2 ≤ sizeLine; decide, fun l2 hl2 => ?_⟩⟩⟩
    have t1 := same_upd (o := .tup [.str "least", .ref rest.a]) ha1
    have t2 := same_upd (o := .tup [.str "least", .ref lst.a]) ha2
    have t3 := same_upd (o := .lst [.ref a1, .ref a2]) hl2
    have t13 := t1.trans (t2.trans t3)
    have ha1' : (upd (upd (upd H10 a1 (.tup [.str "least", .ref rest.a])) a2 (.tup [.str "least", .ref lst.a])) l2 (.lst [.ref a1, .ref a2])) a1 = some (.tup [.str "least", .ref rest.a]) := t3 _ _ (t2 _ _ upd_same)
    have ha2' : (upd (upd (upd H10 a1 (.tup [.str "least", .ref rest.a])) a2 (.tup [.str "least", .ref lst.a])) l2 (.lst [.ref a1, .ref a2])) a2 = some (.tup [.str "least", .ref lst.a]) := t3 _ _ upd_same
    have hl2' : (upd (upd (upd H10 a1 (.tup [.str "least", .ref rest.a])) a2 (.tup [.str "least", .ref lst.a])) l2 (.lst [.ref a1, .ref a2])) l2 = some (.lst [.ref a1, .ref a2]) := upd_same
    generalize upd (upd (upd H10 a1 (.tup [.str "least", .ref rest.a])) a2 (.tup [.str "least", .ref lst.a])) l2 (.lst [.ref a1, .ref a2]) = H11 at t13 ha1' ha2' hl2' ⊢
    refine ⟨l, l2, _, _, rfl, rfl, t13 _ _ hl10, hl2', ?_, fun l3 hl3' => ?_⟩
    · rw [List.length_map]
      have : 12 ≤ sizeLine := by decide
      show fcs.length + 2 ≤ sizeLine
      omega
    have t4 := same_upd (o := .lst ((fcs.map fun x => V.ref x.a) ++ [.ref a1, .ref a2])) hl3'
    have hq11 := t4 _ _ (t13 _ _ hq10)
    have tkF : Tk H10 (upd H11 l3 (.lst ((fcs.map fun x => V.ref x.a) ++ [.ref a1, .ref a2]))) := Tk.of (t13.trans t4)
    have hl3H : H l3 = none := by
      cases q0 : H l3 with
      | none => rfl
      | some o =>
        have hne : l3 ≠ q := fun z => by rw [z] at hl3'; rw [t13 _ _ hq10] at hl3'; cases hl3'
        have := t13 _ _ (zA10 _ _ q0 hne)
        rw [hl3'] at this; cases this
    refine k l3 (fcs ++ [⟨a1, some rest⟩, ⟨a2, some lst⟩]) _ (zA10.trans (Fz.of (t13.trans t4))) ⟨ye, hq11, hye.mono (by omega)⟩ hl3H ⟨by rw [upd_same, List.map_append]; rfl, fun x hx => ?_⟩ (by rw [List.length_append]; show fcs.length + 2 ≤ 20; omega) (fun x hx => ?_) ?_
    · rcases List.mem_append.mp hx with h | h
      · exact ((L1.ok x h).tk tkA10).tk tkF
      · rcases List.mem_cons.mp h with h | h
        · subst h; exact ⟨.inl (t4 _ _ ha1'), FR10.tk tkF⟩
        · rw [List.mem_singleton] at h
          subst h; exact ⟨.inl (t4 _ _ ha2'), F10.tk tkF⟩
    · have cR : -100000000000 ≤ rest.c ∧ rest.c ≤ 100000000000 := by
        rw [c6]; omega
      have bR : ∀ t, 0 ≤ rest.cf t ∧ rest.cf t < 10007 := fun t => by rw [cfR t]; exact rest_bd (r9 := 0) hb2 hb7
      rcases List.mem_append.mp hx with h | h
      · obtain ⟨f', e1, e2, _⟩ := lin1 x h
        exact ⟨f', e1, big11 ((L1.ok x h).least e1).2 (e2.mono (Int.le_trans hm1 (by decide)))⟩
      · rcases List.mem_cons.mp h with h | h
        · subst h
          exact ⟨rest, rfl, big11 FR10 ⟨cR, fun t => ⟨Int.le_trans (by decide) (bR t).1, Int.le_trans (Int.le_of_lt (bR t).2) (by decide)⟩⟩⟩
        · rw [List.mem_singleton] at h
          subst h
          refine ⟨lst, rfl, big11 F10 ⟨?_, fun t => ?_⟩⟩
          · rw [c10]
            refine last_bd ?_ e0 e3
            rw [c7, c6]
            have h1 := hsm6.1
            omega
          · rw [cfL t]
            have h2 : -60000000000 ≤ tot1.cf t ∧ tot1.cf t ≤ 60000000000 := by
              rw [cf7 t]
              have h1 := hsm6.2 t
              have h3 := bR t
              omega
            have h4 := ediv_bd (b := b) h2
            omega
    · refine right_snoc2 (f := rest) (g := lst) rfl rfl ds hds 1 b (by decide) (Int.le_of_lt hb0) (fun t => ?_) ?_
      · rw [← hcf t, cfL t, cf7 t]
        exact often_cf hb0 (cfR t)
      · rw [← hc, c10]
        have e1 : tot.c + 1 * rest.c = tot1.c := c7.symm
        rw [e1]
        exact often_c hb0 e0
end
end K47
end
section
set_option Elab.async false
set_option maxRecDepth 100000
set_option maxHeartbeats 4000000
set_option autoImplicit false
/-! borne_within. -/
namespace K47
open PySem L2 PySem.Spec PyProof.Rows
/-- multiples of the facts come to A and B -/
def Comb (fcs : List Fc) (A : Int) (B : NK → Int) : Prop := ∃ lam : Nat → Int, (∀ k, 0 ≤ lam k) ∧ (∀ t, si fcs.length (fun k => lam k * cfA fcs t k) = B t) ∧ si fcs.length (fun k => lam k * cA fcs k) = A
theorem Comb.nil : Comb [] 0 fun _ => 0 := ⟨fun _ => 0, fun _ => Int.le_refl _, fun _ => rfl, rfl⟩
theorem Comb.snoc {fcs : List Fc} {A : Int} {B : NK → Int} (h : Comb fcs A B) {x : Fc} {f : Fm} (e : x.f = some f) (m : Int) (hm : 0 ≤ m) : Comb (fcs ++ [x]) (A + m * f.c) fun t => B t + m * f.cf t := by
  obtain ⟨ds, h0, ht, hc⟩ := h
  have hlen : (fcs ++ [x]).length = fcs.length + 1 := by rw [List.length_append]; rfl
  refine ⟨fun j => if j < fcs.length then ds j else m, fun j => ?_, fun t => ?_, ?_⟩
  · dsimp only
    split
    · exact h0 j
    · exact hm
  · have e1 : si fcs.length (fun j => (if j < fcs.length then ds j else m) * cfA (fcs ++ [x]) t j) = si fcs.length fun j => ds j * cfA fcs t j := si_congr fun j hj => by rw [if_pos hj, cfA_app1 hj]
    rw [hlen, si_succ, cfA_last e]
    dsimp only
    rw [e1, if_neg (Nat.lt_irrefl _), ht]
  · have e1 : si fcs.length (fun j => (if j < fcs.length then ds j else m) * cA (fcs ++ [x]) j) = si fcs.length fun j => ds j * cA fcs j := si_congr fun j hj => by rw [if_pos hj, cA_app1 hj]
    rw [hlen, si_succ, cA_last e]
    dsimp only
    rw [e1, if_neg (Nat.lt_irrefl _), hc]
theorem Comb.to {fcs : List Fc} {A A' : Int} {B B' : NK → Int} (h : Comb fcs A B) (a : A = A') (b : ∀ t, B t = B' t) : Comb fcs A' B' := let ⟨l, x, y, z⟩ := h; ⟨l, x, fun t => by rw [y t, b t], by rw [z, a]⟩
theorem Comb.right {fcs : List Fc} {A : Int} {B : NK → Int} (h : Comb fcs A B) (a : A < 0) (b : ∀ t, B t = 0) : HasRight fcs := let ⟨l, x, y, z⟩ := h; ⟨l, x, fun t => by rw [y t, b t], by rw [z]; exact a⟩
def absS (prs : List Pc) : Int := (prs.map fun e => if e.m < 0 then -e.m else e.m).sum
theorem absS_snoc (prs : List Pc) (e : Pc) : absS (prs ++ [e]) = absS prs + (if e.m < 0 then -e.m else e.m) := by
  unfold absS
  rw [List.map_append, List.sum_append]
  show _ + ((if e.m < 0 then -e.m else e.m) + 0) = _
  omega
/-- the facts of the things' bounds serve any numbers -/
def Bnds (fcs : List Fc) (ks : List NK) : Prop := ∀ prs : List Pc, prs.map (·.k) = ks → Comb fcs (9 * absS prs) fun t => -csP prs t
theorem Bnds.nil : Bnds [] [] := fun prs h => by
  have : prs = [] := by cases prs with
    | nil => rfl
    | cons _ _ => cases h
  subst this
  exact Comb.nil
theorem cf_one {a p pa ta : Addr} {c m : Int} {k t : NK} : (⟨a, p, c, [⟨pa, ta, k, m⟩]⟩ : Fm).cf t = if k = t then m else 0 := by
  unfold Fm.cf cfP
  by_cases h : k = t
  · rw [List.find?_cons_of_pos (by simpa using h), if_pos h]; rfl
  · rw [List.find?_cons_of_neg (by simpa using h), if_neg h]; rfl
theorem Bnds.snoc {fcs : List Fc} {ks : List NK} (h : Bnds fcs ks) {k : NK} {x y : Fc} {f g : Fm} (e : x.f = some f) (e' : y.f = some g) (cf : f.c = 9) (cg : g.c = 9) (hf : ∀ t, f.cf t = if k = t then 1 else 0) (hg : ∀ t, g.cf t = if k = t then -1 else 0) : Bnds (fcs ++ [x, y]) (ks ++ [k]) := by
  intro prs hp
  have hne : prs ≠ [] := fun z => by rw [z] at hp; simp at hp
  have hsp := (List.dropLast_concat_getLast hne).symm
  generalize prs.dropLast = p0 at hsp
  generalize prs.getLast hne = e0 at hsp
  subst hsp
  rw [List.map_append] at hp
  have h2 := List.append_inj' hp rfl
  have hk : e0.k = k := by have := h2.2; simpa using this
  have c0 := h p0 h2.1
  have e0' : fcs ++ [x, y] = (fcs ++ [x]) ++ [y] := by simp
  rw [e0']
  have c1 := c0.snoc e (if e0.m < 0 then -e0.m else 0) (by split <;> omega)
  have c2 := c1.snoc e' (if e0.m < 0 then 0 else e0.m) (by split <;> omega)
  refine c2.to ?_ fun t => ?_
  · rw [absS_snoc, cf, cg]
    split <;> omega
  · rw [csP_app, csP_cons, hf t, hg t, hk]
    show _ = -(csP p0 t + ((if k = t then e0.m else 0) + 0))
    by_cases h : k = t
    · rw [if_pos h, if_pos h, if_pos h]
      split <;> omega
    · rw [if_neg h, if_neg h, if_neg h]
      omega
end K47
end
section
set_option Elab.async false
set_option maxRecDepth 100000
set_option maxHeartbeats 4000000
set_option autoImplicit false
/-! borne_within: the walk. -/
namespace K47
open PySem L2 PySem.Spec PyProof.Rows
theorem e_lst2 {σ : L2.St} {H : Hp} {te tf : TE} {Q : VK} (h : te σ H fun x H1 => tf σ H1 fun y H2 => 2 ≤ sizeLine ∧ ∀ p, H2 p = none → Q (.ref p) (upd H2 p (.lst [x, y]))) : tLst (tCons te (tCons tf tNil)) σ H Q := h
theorem mk_fact1 {σ : L2.St} {H : Hp} {W : List NK} {tt tm : TE} {k : NK} {ta : Addr} {m : Int} {Q : VK} (ht : ∀ H, Val tt σ H (.ref ta)) (hm : ∀ H, Val tm σ H (.int m)) (kd : KD H k (.ref ta)) (hk : k ∈ W)
    (q : ∀ a f H', Same H H' → FcOk H' W ⟨a, some f⟩ → f.c = 9 → (∀ t, f.cf t = if k = t then m else 0) → Q (.ref a) H') :
    tTup (tCons (tC (.str "least")) (tCons (tTup (tCons (tC (.int 9)) (tCons (tTupF (tCons (tTup (tCons tt (tCons tm tNil))) tNil)) tNil))) tNil)) σ H Q := by
  refine ht _ _ (hm _ _ ⟨by show 2 ≤ sizeLine; decide, fun pa hpa => ⟨by show 1 ≤ sizeLine; decide, fun p o hp ho => ⟨by show 2 ≤ sizeLine; decide, fun fa hfa => ⟨by show 2 ≤ sizeLine; decide, fun a ha => ?_⟩⟩⟩⟩)
  have s1 := same_upd (o := .tup [.ref ta, .int m]) hpa
  have h1 : (upd H pa (.tup [.ref ta, .int m])) pa = some (.tup [.ref ta, .int m]) := upd_same
  generalize upd H pa (.tup [.ref ta, .int m]) = H1 at s1 h1 hp hfa ha ⊢
  have s2 := same_upd (o := .frz o (.tup [.ref pa])) hp
  have h2 : (upd H1 p (.frz o (.tup [.ref pa]))) p = some (.frz o (.tup [.ref pa])) := upd_same
  generalize upd H1 p (.frz o (.tup [.ref pa])) = H2 at s2 h2 hfa ha ⊢
  have s3 := same_upd (o := .tup [.int 9, .ref p]) hfa
  have h3 : (upd H2 fa (.tup [.int 9, .ref p])) fa = some (.tup [.int 9, .ref p]) := upd_same
  generalize upd H2 fa (.tup [.int 9, .ref p]) = H3 at s3 h3 ha ⊢
  have s4 := same_upd (o := .tup [.str "least", .ref fa]) ha
  have sA := s1.trans (s2.trans (s3.trans s4))
  refine q a ⟨fa, p, 9, [⟨pa, ta, k, m⟩]⟩ _ sA ⟨.inl upd_same, .inl (s4 _ _ h3), ⟨o, s4 _ _ (s3 _ _ h2), ho⟩, fun e he => ?_, by simp⟩ rfl fun t => cf_one
  rw [List.mem_singleton] at he
  subst he
  exact ⟨.inl (s4 _ _ (s3 _ _ (s2 _ _ h1))), kd.stay (Tst.of sA) _ _, hk⟩
def Fz2 (q l : Addr) (H H' : Hp) : Prop := ∀ c o, H c = some o → c ≠ q → c ≠ l → H' c = some o
theorem Fz2.tk {q l : Addr} {H H' : Hp} {xs ys : List V} (z : Fz2 q l H H') (hq : H q = some (.lst xs)) (hl : H l = some (.lst ys)) : Tk H H' :=
  ⟨fun c us h => z c _ h (fun e => by rw [e, hq] at h; cases h) (fun e => by rw [e, hl] at h; cases h), fun c u us h => z c _ h (fun e => by rw [e, hq] at h; cases h) (fun e => by rw [e, hl] at h; cases h)⟩
theorem n12_mem {j : Nat} (h : j < 12) : kN (j : Nat) ∈ N12 := List.mem_map.mpr ⟨j, List.mem_range.mpr h, rfl⟩
theorem take_keys {α : Type} {ths : List α} {f : α → NK} {ks : List NK} (h : ths.map f = ks) {i : Nat} {t : α} (e : ths[i]? = some t) : ks.take (i + 1) = ks.take i ++ [f t] := take_succ_get (by rw [← h, List.getElem?_map, e]; rfl)
theorem absS_le : ∀ prs : List Pc, (∀ e ∈ prs, -3 ≤ e.m ∧ e.m ≤ 3) → 0 ≤ absS prs ∧ absS prs ≤ 3 * (prs.length : Int)
  | [], _ => by unfold absS; simp
  | e :: prs, h => by
    have h1 := absS_le prs fun x hx => h x (List.mem_cons_of_mem _ hx)
    have h2 := h e List.mem_cons_self
    unfold absS at h1 ⊢
    rw [List.map_cons, List.sum_cons, List.length_cons]
    split <;> push_cast <;> omega
theorem csP_le (t : NK) : ∀ prs : List Pc, (∀ e ∈ prs, -3 ≤ e.m ∧ e.m ≤ 3) → -(3 * (prs.length : Int)) ≤ csP prs t ∧ csP prs t ≤ 3 * (prs.length : Int)
  | [], _ => by simp [csP]
  | e :: prs, h => by
    have h1 := csP_le t prs fun x hx => h x (List.mem_cons_of_mem _ hx)
    have h2 := h e List.mem_cons_self
    rw [csP_cons, List.length_cons]
    split <;> push_cast <;> omega
def spWithin : Sp := fun vs H Q _ => ∃ (q : Addr) (n : Nat), vs = [.ref q] ∧ FdAt H q n ∧ n ≤ 700000 ∧ ∀ (l : Addr) (fcs : List Fc) (H' : Hp), Fz q H H' → FdAt H' q (n + 300) → H l = none → Lst H' N12 l fcs → fcs.length ≤ 40 → AllBig fcs → HasRight fcs → Q (.ref l) H'
abbrev NWi : List Str := ["_law_feed_here", "_law_facts", "_law_k", "_law_things_here", "_law_thing_here", "_law_pairs", "_law_far", "_law_many"]
theorem scWithin : FnScope NWi ["_law_feed_here"] (defScope sWithin) := ⟨rfl, rfl, rfl, by decide +kernel, rfl, by decide +kernel, by decide +kernel⟩
section
variable {P : Program} {w : World} {K : PySem.W.Frag} {mg : Str → Option Value} {base : Heap} {C : Addr}
theorem cal_within (D : Df K mg "_law_borne_within" sWithin ["_law_feed_here"]) (cN : Cal P w K mg base "_law_next" 1 ["_law_feed_here", "_law_many"] spNext) (cM : CalG P w K mg base "_law_made" 1 ["_law_number", "_law_pairs"] spMade) (Y : Txt K mg C) : CalG P w K mg base "_law_borne_within" 2 ["_law_feed_here"] spWithin := by
  obtain ⟨fN, fdN, GN, mN, kpN, bN⟩ := cN
  obtain ⟨fM, fdM, GM, mM, kpM, bM⟩ := cM
  refine D.calG scWithin (fun vs H Q E h => ?_) (fun _ _ cdv A outer s H vs Q E gd hr h => ?_)
  · obtain ⟨_, _, rfl, _⟩ := h
    rfl
  · obtain ⟨q, n, rfl, hfd, hn, k⟩ := h
    have nd := scWithin.nd
    refine ⟨_, pss_cons (ps_set (i := 1) nd rfl (Or.inl rfl) (pe_lst pa_nil))
      (pss_cons (ps_setLc (i := 3) (own := [("_law_k", 2)]) (g := gName 2) (tt := tYes) (te := tTup (tCons (tC (.str "n")) (tCons (tVar 2) tNil))) rfl nd rfl rfl (sw_true rfl rfl rfl (by decide +kernel)) (pi_range1 rfl Y.range (pa_cons pe_int pa_nil)) (blkOk_by (N := NWi) (sc := defScope sWithin) (by decide +kernel)) (fun _ _ _ _ _ => pg_name (i := 2) nd rfl (Or.inl rfl)) (fun _ _ _ _ _ => pts_nil)
        (fun _ _ _ _ _ => pe_tup (pa_cons pe_str (pa_cons (pv 2) pa_nil))))
      (pss_cons (ps_for PassesOwn.never rfl (pi_list (pv 3)) (pg_name (i := 4) nd rfl (Or.inl rfl))
        (pss_one (ps_set (i := 1) nd rfl (Or.inl rfl) (pe_op op_cat (pv 1) (pe_lst (pa_cons ((pe_tup (pa_cons pe_str (pa_cons ((pe_tup (pa_cons pe_int (pa_cons (pe_tupF (pa_cons ((pe_tup (pa_cons (pv 4) (pa_cons pe_int pa_nil)))) pa_nil)) pa_nil)))) pa_nil)))) (pa_cons ((pe_tup (pa_cons pe_str (pa_cons ((pe_tup (pa_cons pe_int (pa_cons (pe_tupF (pa_cons ((pe_tup (pa_cons (pv 4) (pa_cons (pe_un un_neg pe_int) pa_nil)))) pa_nil)) pa_nil)))) pa_nil)))) pa_nil)))))))
      (pss_cons (ps_for PassesOwn.never rfl (pi_range1 rfl Y.range (pa_cons pe_int pa_nil)) (pg_name (i := 2) nd rfl (Or.inl rfl))
        (pss_cons (ps_setLc (i := 5) (own := [("_law_thing_here", 4)]) (g := gName 4) (tt := tYes) (te := tTup (tCons (tVar 4) (tCons (tOp (rI0 fun i j => V.int (i - j)) (tCall spNext [] E0 (tCons (tVar 0) (tCons (tC (.int 7)) tNil))) (tC (.int 3))) tNil))) rfl nd rfl rfl (sw_true rfl rfl rfl (by decide +kernel)) (pi_list (pv 3))
            (blkOk_by (N := NWi) (sc := defScope sWithin) (by decide +kernel)) (fun _ _ _ _ _ => pg_name (i := 4) nd rfl (Or.inl rfl)) (fun _ _ _ _ _ => pts_nil) (fun _ _ _ _ _ => pe_tup (pa_cons (pv 4) (pa_cons (pe_op op_sub (pe_call GN hr (by rfl) mN kpN bN .nil pass0 (pa_cons (pv 0) (pa_cons pe_int pa_nil))) pe_int) pa_nil))))
        (pss_cons (ps_set (i := 6) nd rfl (Or.inl rfl) (pe_op op_mul pe_int (pe_callB (cr_sum rfl) (by rfl) Y.sum (by decide +kernel) (pa_cons (pe_lc (own := [("_law_thing_here", 4), ("_law_many", 7)]) (g := gTup K 2 (gCons (gName 4) (gCons (gName 7) gNil))) (tt := tYes) (te := tCB (fun xs H Q => ∃ i, xs = [V.int i] ∧ Q (.int (if i < 0 then -i else i)) H) (tCons (tVar 7) tNil)) rfl nd (pi_list (pv 5))
            (blkOk_by (N := NWi) (sc := defScope sWithin) (by decide +kernel)) (fun _ _ _ _ _ => pg_tup rfl (pgs_cons (pg_name (i := 4) nd rfl (Or.inl rfl)) (pgs_cons (pg_name (i := 7) nd rfl (Or.inl rfl)) pgs_nil))) (fun _ _ _ _ _ => pts_nil) (fun _ _ _ _ _ => pe_callB call_abs (by rfl) Y.abs (by decide +kernel) (pa_cons (pv 7) pa_nil))) pa_nil))))
        (pss_one (ps_expr (pe_bm PySem.F.plainAttrs_list PySem.F.slot_list_append PySem.F.type_list_append mt_append (pv 1) (pa_cons ((pe_tup (pa_cons pe_str (pa_cons (pe_callG GM gd hr (by rfl) mM kpM bM (pa_cons (pe_op op_sub (pe_op op_mul (pv 6) (pe_ix ix_list (pe_lst (pa_cons pe_int (pa_cons (pe_un un_neg pe_int) pa_nil))) (pe_callTy call_int1 (by rfl) Y.int (by decide +kernel) (pa_cons (pe_cmpR op_eq (pv 2) pe_int (nomark _)) pa_nil)) (fun _ _ => rfl)))
            (pe_callTy call_int1 (by rfl) Y.int (by decide +kernel) (pa_cons (pe_cmpR op_eq (pv 2) pe_int (nomark _)) pa_nil))) (pa_cons (pv 5) pa_nil))) pa_nil)))) pa_nil)))))))
      (pss_one (ps_ret (pv 1)))))), ?_⟩
    obtain ⟨xs, hq, hx⟩ := hfd
    refine q_setE ?_
    refine ⟨Nat.zero_le _, fun l0 hl0 => ?_⟩
    have s1 := same_upd (o := .lst []) hl0
    have hl1 : (upd H l0 (.lst [])) l0 = some (.lst []) := upd_same
    generalize upd H l0 (.lst []) = H1 at s1 hl1 ⊢
    refine q_setE ?_
    refine ⟨12, rfl, by decide, by decide, fun tl ntl => ?_⟩
    have e12 : (12 : Int).toNat = 12 := rfl
    rw [e12]
    refine lc_range0 (n := 12) (fun i H' => ∃ ths : List (Addr × NK), Same H1 H' ∧ H' tl = some (.lst (ths.map fun t => V.ref t.1)) ∧ ths.map (·.2) = (List.range i).map (fun j => kN (j : Nat)) ∧ ∀ t ∈ ths, KD H' t.2 (.ref t.1) ∧ t.2 ∈ N12)
      ⟨[], same_upd ntl, upd_same, rfl, fun t h => (nomatch h)⟩ ?_ ?_
    · rintro i H' hi ⟨ths, s, htl, hk, hth⟩
      refine ⟨rfl, _, rfl, by show 2 ≤ sizeLine; decide, fun a ha => ?_⟩
      have sa := same_upd (o := .tup [.str "n", .int (i : Int)]) ha
      have hlen := congrArg List.length hk
      rw [List.length_map, List.length_map, List.length_range] at hlen
      refine ⟨_, sa _ _ htl, by rw [List.length_map]; exact small100 (by omega), ths ++ [(a, kN (i : Nat))], fun c o h => ?_, by rw [upd_same, List.map_append]; rfl, by rw [List.map_append, hk, List.range_succ, List.map_append]; rfl, fun t ht => ?_⟩
      · rw [upd_ne (ne_of_none h ntl)]; exact sa _ _ (s _ _ h)
      · have tk : Tk (upd H' a (.tup [.str "n", .int (i : Int)])) (upd (upd H' a (.tup [.str "n", .int (i : Int)])) tl (.lst ((ths.map fun t => V.ref t.1) ++ [.ref a]))) := Tk.upd (sa _ _ htl) trivial
        rcases List.mem_append.mp ht with h | h
        · exact ⟨((hth t h).1.stay (Tst.of sa) _ _).stay tk.tst _ _, (hth t h).2⟩
        · rw [List.mem_singleton] at h
          subst h
          exact ⟨.tup (tk.rd (.inl upd_same)) (.cons (.text _) (.cons (.int _) .nil)), n12_mem hi⟩
    rintro H2 ⟨ths, s2, htl, hkeys, hth⟩
    have hkeys : ths.map (·.2) = N12 := hkeys
    have hlen12 : ths.length = 12 := by have := congrArg List.length hkeys; rw [List.length_map] at this; exact this
    have s02 := s1.trans s2
    have hq2 := s02 _ _ hq
    have hqt : q ≠ tl := ne_of_none (s1 _ _ hq) ntl
    have htlH : H tl = none := s1.free ntl
    -- the bounds
    refine q_seq ⟨_, rfl, tl, rfl, ⟨_, SqL.of htl⟩, for_list (K := K) (a := tl) (xs := ths.map fun t => V.ref t.1)
      (fun i σ H' => ∃ l fcs v2 v4, σ = [some (.ref q), some (.ref l), v2, some (.ref tl), v4, none, none, none] ∧ Same H2 H' ∧ H l = none ∧ l ≠ tl ∧ Lst H' N12 l fcs ∧ fcs.length = 2 * i ∧ Bnds fcs (N12.take i) ∧ AllBig fcs)
      ⟨l0, [], none, none, rfl, Same.refl _, hl0, (fun e => by rw [← e, hl1] at ntl; cases ntl), ⟨s2 _ _ hl1, fun x h => (nomatch h)⟩, rfl, Bnds.nil, fun x h => (nomatch h)⟩ (fun i σ H' _ ⟨_, _, _, _, _, s, _⟩ => SqL.of (s _ _ htl)) ?_ ?_⟩
    · rintro i x σ H' hi ⟨l, fcs, v2, v4, rfl, s, hlH, hltl, L, hlen, hB, hbig⟩
      rw [List.getElem?_map] at hi
      cases et : ths[i]? with
      | none => rw [et] at hi; cases hi
      | some t =>
        rw [et] at hi
        cases hi
        have hil : i < ths.length := (List.getElem?_eq_some_iff.mp et).1
        have kt := hth t (List.mem_of_getElem? et)
        refine s_asgE ?_
        refine ⟨_, rfl, ?_⟩
        dsimp only
        refine e_lst2 ?_
        refine mk_fact1 (W := N12) (k := t.2) (m := 1) (fun H => vn) (fun H => val_c) (kt.1.stay (Tst.of s) _ _) kt.2 fun a1 f1 H3 s3 F1 c1 cf1 => ?_
        refine mk_fact1 (W := N12) (k := t.2) (m := -1) (fun H => vn) (fun H => val_un val_c) ((kt.1.stay (Tst.of s) _ _).stay (Tst.of s3) _ _) kt.2 fun a2 f2 H4 s4 F2 c2 cf2 => ?_
        refine ⟨by show 2 ≤ sizeLine; decide, fun l2 hl2 => ?_⟩
        have s5 := same_upd (o := .lst [.ref a1, .ref a2]) hl2
        have h5 : (upd H4 l2 (.lst [.ref a1, .ref a2])) l2 = some (.lst [.ref a1, .ref a2]) := upd_same
        generalize upd H4 l2 (.lst [.ref a1, .ref a2]) = H5 at s5 h5 ⊢
        have s35 := s3.trans (s4.trans s5)
        refine ⟨l, l2, _, _, rfl, rfl, s35 _ _ L.at_, h5, ?_, fun l3 hl3 => ?_⟩
        · rw [List.length_map, hlen]
          have : 30 ≤ sizeLine := by decide
          show 2 * i + 2 ≤ sizeLine
          omega
        have s6 := same_upd (o := .lst ((fcs.map fun x => V.ref x.a) ++ [.ref a1, .ref a2])) hl3
        have sall := s.trans (s35.trans s6)
        have b1 : ∀ {f : Fm} {m : Int} {H : Hp}, FmOk H N12 f → f.c = 9 → (∀ t0, f.cf t0 = if t.2 = t0 then m else 0) → -1 ≤ m → m ≤ 1 → Big (10 ^ 11) f := fun F c cf h1 h2 => big11 F ⟨by rw [c]; decide, fun t0 => by rw [cf t0]; split <;> omega⟩
        have F1' := (FcOk.least F1 rfl).2
        have F2' := (FcOk.least F2 rfl).2
        refine ⟨l3, fcs ++ [⟨a1, some f1⟩, ⟨a2, some f2⟩], _, _, rfl, sall, (s02.trans (s.trans s35)).free hl3, fun e => ?_, ⟨by rw [upd_same, List.map_append]; rfl, fun x hx => ?_⟩, by rw [List.length_append, hlen]; show 2 * i + 2 = _; omega, ?_, fun x hx => ?_⟩
        · have := s35 _ _ (s _ _ htl)
          rw [← e, hl3] at this; cases this
        · rcases List.mem_append.mp hx with h | h
          · exact (L.ok x h).tk (Tk.of (s35.trans s6))
          · rcases List.mem_cons.mp h with h | h
            · subst h; exact F1.tk (Tk.of (s4.trans (s5.trans s6)))
            · rw [List.mem_singleton] at h; subst h; exact F2.tk (Tk.of (s5.trans s6))
        · rw [take_keys hkeys et]
          exact hB.snoc rfl rfl c1 c2 cf1 cf2
        · rcases List.mem_append.mp hx with h | h
          · exact hbig x h
          · rcases List.mem_cons.mp h with h | h
            · subst h; exact ⟨f1, rfl, b1 F1' c1 cf1 (by decide) (by decide)⟩
            · rw [List.mem_singleton] at h; subst h; exact ⟨f2, rfl, b1 F2' c2 cf2 (by decide) (by decide)⟩
    rintro σ H3 ⟨l, fcs0, v2, v4, rfl, s23, hlH, hltl, L0, hlen0, hB0, hbig0⟩
    rw [List.length_map, hlen12] at hlen0 hB0
    have hql : q ≠ l := fun e => by rw [e, hlH] at hq; cases hq
    have s03 := s02.trans s23
    refine q_seq ⟨4, rfl, by decide, by decide, ?_⟩
    have e4 : (4 : Int).toNat = 4 := rfl
    rw [e4]
    refine for_range0 (n := 4) (fun j σ H' => ∃ fcs v2 v4 v5 v6 ys, σ = [some (.ref q), some (.ref l), v2, some (.ref tl), v4, v5, v6, none] ∧ Fz2 q l H3 H' ∧ H' q = some (.lst ys) ∧ FdS ys (n + 12 * j) ∧ Lst H' N12 l fcs ∧ fcs.length = 24 + j ∧ AllBig fcs ∧ (j ≤ 2 → Bnds fcs N12) ∧ (3 ≤ j → HasRight fcs))
      ⟨fcs0, v2, v4, none, none, xs, rfl, fun c o h _ _ => h, s03 _ _ hq, hx, L0, hlen0, hbig0, fun _ => hB0, fun h => absurd h (by decide)⟩ ?_ ?_
    · rintro j σ H' hj ⟨fcs, v2, v4, v5, v6, ys, rfl, z, hqH, hys, L, hlen, hbig, hB, hR⟩
      have htl3 := s23 _ _ htl
      have htlq : tl ≠ q := Ne.symm hqt
      have tk3 : Tk H3 H' := z.tk (s03 _ _ hq) L0.at_
      show tSeq _ _ _ [some (.ref q), some (.ref l), some (.int (j : Int)), some (.ref tl), v4, v5, v6, none] H'
      refine q_setE ?_
      refine ⟨_, rfl, tl, rfl, ⟨_, SqL.of (z _ _ htl3 htlq (Ne.symm hltl))⟩, fun D1 nD1 => lc_list (K := K) (a := tl) (xs := ths.map fun t => V.ref t.1)
        (fun i H'' => ∃ prs ys', Fz q H' H'' ∧ H'' q = some (.lst ys') ∧ FdS ys' (n + 12 * j + i) ∧ H'' D1 = some (.lst (prs.map fun e : Pc => V.ref e.pa)) ∧ (∀ e ∈ prs, PcOk H'' N12 e) ∧ prs.map (·.k) = N12.take i ∧ ∀ e ∈ prs, -3 ≤ e.m ∧ e.m ≤ 3)
        ⟨[], ys, Fz.of (same_upd nD1), same_upd nD1 _ _ hqH, hys, upd_same, fun e h => (nomatch h), rfl, fun e h => (nomatch h)⟩ (fun i H'' _ ⟨_, _, z2, _⟩ => SqL.of (z2 _ _ (z _ _ htl3 htlq (Ne.symm hltl)) htlq)) ?_ ?_⟩
      · rintro i x H'' hi ⟨prs, ys', z2, hq'', hys', hD, hp, hk, hm⟩
        rw [List.getElem?_map] at hi
        cases et : ths[i]? with
        | none => rw [et] at hi; cases hi
        | some t =>
          rw [et] at hi
          cases hi
          have hil : i < ths.length := (List.getElem?_eq_some_iff.mp et).1
          have kt := hth t (List.mem_of_getElem? et)
          refine ⟨rfl, ?_⟩
          refine ⟨_, rfl, _, rfl, q, 7, ys', _, rfl, by decide, by decide, hq'', hys', by omega, fun r y2 r0 r7 hy2 => ⟨r, 3, rfl, rfl, by show 2 ≤ sizeLine; decide, fun a ha => ?_⟩⟩
          have hqD : q ≠ D1 := fun e => by rw [e, nD1] at hqH; cases hqH
          have tk1 : Tk H'' (upd H'' q (.lst y2)) := Tk.upd hq'' trivial
          have hD1 : (upd H'' q (.lst y2)) D1 = some (.lst (prs.map fun e : Pc => V.ref e.pa)) := by rw [upd_ne (Ne.symm hqD)]; exact hD
          have hq1 : (upd H'' q (.lst y2)) q = some (.lst y2) := upd_same
          have z3 : Fz q H'' (upd H'' q (.lst y2)) := Fz.upd
          generalize upd H'' q (.lst y2) = H5 at tk1 hD1 hq1 z3 ha ⊢
          have sa := same_upd (o := .tup [.ref t.1, .int (r - 3)]) ha
          have hlp := congrArg List.length hk
          rw [List.length_map, List.length_take] at hlp
          refine ⟨_, sa _ _ hD1, by rw [List.length_map]; exact small100 (by omega), prs ++ [⟨a, t.1, t.2, r - 3⟩], y2, fun c o h hc => ?_, by rw [upd_ne hqD]; exact sa _ _ hq1, hy2.mono (by omega), by rw [upd_same, List.map_append]; rfl, fun e he => ?_, ?_, fun e he => ?_⟩
          · rw [upd_ne (ne_of_none h nD1)]
            exact sa _ _ (z3 _ _ (z2 _ _ h hc) hc)
          · have tk : Tk (upd H5 a (.tup [.ref t.1, .int (r - 3)])) (upd (upd H5 a (.tup [.ref t.1, .int (r - 3)])) D1 (.lst ((prs.map fun e : Pc => V.ref e.pa) ++ [.ref a]))) := Tk.upd (sa _ _ hD1) trivial
            rcases List.mem_append.mp he with h | h
            · exact ((hp e h).tk (tk1.trans (Tk.of sa))).tk tk
            · rw [List.mem_singleton] at h
              subst h
              have tkz : Tk H' H'' := Tk.but hqH trivial z2
              refine PcOk.tk ⟨.inl upd_same, ?_, kt.2⟩ tk
              exact (kt.1.stay (Tst.of s23) _ _).stay (tk3.trans (tkz.trans (tk1.trans (Tk.of sa)))).tst _ _
          · rw [List.map_append, hk, take_keys hkeys et]; rfl
          · rcases List.mem_append.mp he with h | h
            · exact hm e h
            · rw [List.mem_singleton] at h
              subst h
              exact ⟨by show -3 ≤ r - 3; omega, by show r - 3 ≤ 3; omega⟩
      · rintro H4 ⟨prs, y4, z4, hq4, hy4, hD4, hp4, hk4, hm4⟩
        rw [List.length_map, hlen12] at hy4 hk4
        have hk4 : prs.map (·.k) = N12 := hk4
        have hlp : prs.length = 12 := by have := congrArg List.length hk4; rw [List.length_map] at this; exact this
        have habs := absS_le prs hm4
        rw [hlp] at habs
        have tk4 : Tk H' H4 := Tk.but hqH trivial z4
        have hql4 : H4 l = some (.lst (fcs.map fun x => .ref x.a)) := z4 _ _ L.at_ (Ne.symm hql)
        dsimp only
        refine q_setE ?_
        refine ⟨_, rfl, D1, rfl, ⟨_, SqL.of hD4⟩, fun D2 nD2 => lc_list (K := K) (a := D1) (xs := prs.map fun e => V.ref e.pa)
          (fun i H'' => H'' = upd H4 D2 (.lst (((prs.take i).map fun e => if e.m < 0 then -e.m else e.m).map V.int))) rfl (fun i H'' _ e => by rw [e]; exact SqL.of (same_upd nD2 _ _ hD4)) ?_ ?_⟩
        · rintro i x H'' hi rfl
          rw [List.getElem?_map] at hi
          cases ee : prs[i]? with
          | none => rw [ee] at hi; cases hi
          | some e =>
            rw [ee] at hi
            cases hi
            have hil : i < prs.length := (List.getElem?_eq_some_iff.mp ee).1
            have ok := (hp4 e (List.mem_of_getElem? ee)).tk (Tk.of (same_upd (o := .lst (((prs.take i).map fun e => if e.m < 0 then -e.m else e.m).map V.int)) nD2))
            refine ⟨e.pa, _, rfl, .inl ok.1, rfl, _, _, rfl, _, _, rfl, rfl, rfl, ?_⟩
            refine ⟨_, rfl, e.m, rfl, _, upd_same, ?_, ?_⟩
            · rw [List.length_map, List.length_map, List.length_take]; exact small100 (by omega)
            · rw [upd_upd, take_succ_get ee, List.map_append, List.map_append]; rfl
        · rintro H'' rfl
          rw [List.length_map, List.take_of_length_le (Nat.le_refl _)]
          have s5 := same_upd (o := .lst ((prs.map fun e => if e.m < 0 then -e.m else e.m).map V.int)) nD2
          have h5 : (upd H4 D2 (.lst ((prs.map fun e => if e.m < 0 then -e.m else e.m).map V.int))) D2 = some (.lst ((prs.map fun e => if e.m < 0 then -e.m else e.m).map V.int)) := upd_same
          generalize upd H4 D2 (.lst ((prs.map fun e => if e.m < 0 then -e.m else e.m).map V.int)) = H5 at s5 h5 ⊢
          refine ⟨D2, _, rfl, SqL.of h5, 9, absS prs, rfl, rfl, .inl ⟨by decide, by decide⟩, ?_⟩
          dsimp only
          -- append
          refine ⟨_, rfl, .inl ⟨rfl, _, SqL.of (s5 _ _ hql4)⟩, ?_⟩
          refine ⟨_, rfl, 1, rfl, by show 2 ≤ sizeLine; decide, fun sl hsl => ?_⟩
          have s6 := same_upd (o := .lst [.int 1, .int (-1)]) hsl
          have h6 : (upd H5 sl (.lst [.int 1, .int (-1)])) sl = some (.lst [.int 1, .int (-1)]) := upd_same
          have z6 : Fz q H' (upd H5 sl (.lst [.int 1, .int (-1)])) := (z4.trans (Fz.of s5)).trans (Fz.of s6)
          have s56 := s5.trans s6
          have hq6 := s56 _ _ hq4
          have hl6 := s56 _ _ hql4
          have hD6 := s56 _ _ hD4
          have tk6 : Tk H' (upd H5 sl (.lst [.int 1, .int (-1)])) := tk4.trans (Tk.of s56)
          refine ⟨_, rfl, rfl, .inr ⟨_, rfl, sl, [.int 1, .int (-1)], (if decide (V.int (j : Int) = V.int 2) = true then 1 else 0), .int (if decide (V.int (j : Int) = V.int 2) = true then -1 else 1), rfl, rfl, SqL.of h6, by cases decide (V.int (j : Int) = V.int 2) <;> rfl, 9 * absS prs, _, rfl, rfl,
            .inr (by cases decide (V.int (j : Int) = V.int 2) <;> exact ⟨by decide, by decide⟩), _, rfl, rfl, .inr ⟨_, rfl, _, _, rfl, rfl, _, rfl, ?_⟩⟩⟩
          refine ⟨_, D1, prs, N12, rfl, hD6, fun e he => (hp4 e he).tk (Tk.of s56), uni12, fun f H7 s7 F7 c7 cf7 nz7 => ⟨by show 2 ≤ sizeLine; decide, fun a ha => ?_⟩⟩
          have s8 := same_upd (o := .tup [.str "least", .ref f.a]) ha
          have hl8 := s8 _ _ (s7 _ _ hl6)
          have tk9 : Tk (upd H7 a (.tup [.str "least", .ref f.a])) (upd (upd H7 a (.tup [.str "least", .ref f.a])) l (.lst ((fcs.map fun x => V.ref x.a) ++ [.ref a]))) := Tk.upd hl8 trivial
          have bsm : SmF 100000000000 f := by
            refine ⟨?_, fun t => ?_⟩
            · rw [c7]
              cases decide (V.int (j : Int) = V.int 2)
              · show -100000000000 ≤ 9 * absS prs * 1 - 0 ∧ 9 * absS prs * 1 - 0 ≤ 100000000000
                omega
              · show -100000000000 ≤ 9 * absS prs * -1 - 1 ∧ 9 * absS prs * -1 - 1 ≤ 100000000000
                omega
            · rw [cf7 t]
              have := csP_le t prs hm4
              rw [hlp] at this
              omega
          refine ⟨l, _, .ref a, rfl, rfl, hl8, by rw [List.length_map, hlen]; exact small100 (by omega), fcs ++ [⟨a, some f⟩], _, _, _, _, y4, rfl, fun c o h hc hcl => ?_, by rw [upd_ne hql]; exact s8 _ _ (s7 _ _ hq6), hy4.mono (by omega), ⟨by rw [upd_same, List.map_append]; rfl, fun x hx => ?_⟩, by rw [List.length_append, hlen]; rfl, fun x hx => ?_, fun hj2 => ?_, fun hj3 => ?_⟩
          · rw [upd_ne hcl]
            exact s8 _ _ (s7 _ _ (z6 _ _ (z c o h hc hcl) hc))
          · refine FcOk.tk ?_ tk9
            rcases List.mem_append.mp hx with h | h
            · exact (L.ok x h).tk (tk6.trans (Tk.of (s7.trans s8)))
            · rw [List.mem_singleton] at h
              subst h
              exact ⟨.inl upd_same, F7.tk (Tk.of s8)⟩
          · rcases List.mem_append.mp hx with h | h
            · exact hbig x h
            · rw [List.mem_singleton] at h
              subst h
              exact ⟨f, rfl, big11 F7 bsm⟩
          · intro pp hpp
            refine ((hB (by omega) pp hpp).snoc (x := ⟨a, some f⟩) (f := f) rfl 0 (Int.le_refl _)).to (by rw [Int.zero_mul, Int.add_zero]) fun t => by rw [Int.zero_mul, Int.add_zero]
          · by_cases h2 : j = 2
            · subst h2
              refine ((hB (by omega) prs hk4).snoc (x := ⟨a, some f⟩) (f := f) rfl 1 (by decide)).right ?_ fun t => ?_
              · rw [c7]
                show 9 * absS prs + 1 * (9 * absS prs * -1 - 1) < 0
                omega
              · rw [cf7 t]
                omega
            · obtain ⟨lam, p0, p1, p2⟩ := hR (by omega)
              exact right_snoc (x := ⟨a, some f⟩) (f := f) rfl lam p0 0 (Int.le_refl _) (fun t => by rw [p1 t, Int.zero_mul]; rfl) (by rw [Int.zero_mul, Int.add_zero]; exact p2)
    · rintro σ H' ⟨fcs, v2, v4, v5, v6, ys, rfl, z, hqH, hys, L, hlen, hbig, hB, hR⟩
      exact ⟨_, rfl, k l fcs H' (fun c o h hc => z c o (s03 _ _ h) hc fun e => by rw [e, hlH] at h; cases h) ⟨ys, hqH, hys.mono (by omega)⟩ hlH L (by omega) hbig (hR (by decide))⟩
end
end K47
end
section
set_option Elab.async false
set_option maxRecDepth 100000
set_option maxHeartbeats 4000000
set_option autoImplicit false
/-! held: the mathematics. -/
namespace K47
open PySem L2 PySem.Spec PyProof.Rows
def val3 (T : List NK) (wt : NK → Int) (f : Fm) : Int := 3 * f.c + (T.map fun t => f.cf t * wt t).sum
theorem sum_pick {T : List NK} (hT : T.Nodup) (k : NK) (m : Int) (wt : NK → Int) : (T.map fun t => (if k = t then m else 0) * wt t).sum = if k ∈ T then m * wt k else 0 := by
  induction T with
  | nil => rfl
  | cons t T ih =>
    rw [List.nodup_cons] at hT
    rw [List.map_cons, List.sum_cons, ih hT.2]
    by_cases h : k = t
    · subst h
      rw [if_pos rfl, if_neg hT.1, if_pos List.mem_cons_self, Int.add_zero]
    · rw [if_neg h, Int.zero_mul, Int.zero_add]
      by_cases g : k ∈ T
      · rw [if_pos g, if_pos (List.mem_cons_of_mem _ g)]
      · rw [if_neg g, if_neg fun z => (List.mem_cons.mp z).elim h g]
theorem sum_add (T : List NK) (a b : NK → Int) : (T.map fun t => a t + b t).sum = (T.map a).sum + (T.map b).sum := by
  induction T with
  | nil => rfl
  | cons t T ih => rw [List.map_cons, List.map_cons, List.map_cons, List.sum_cons, List.sum_cons, List.sum_cons, ih]; omega
theorem sum_es {T : List NK} (hT : T.Nodup) (wt : NK → Int) : ∀ es : List Pc, (∀ e ∈ es, e.k ∈ T) → (es.map fun e => e.m * wt e.k).sum = (T.map fun t => csP es t * wt t).sum
  | [], _ => by
    have : (T.map fun t => csP [] t * wt t) = T.map fun t => (if NestedKey.none = t then 0 else 0) * wt t := List.map_congr_left fun t _ => by show 0 * _ = _; split <;> rfl
    rw [this, sum_pick hT .none 0 wt, Int.zero_mul]
    show (0 : Int) = _
    split <;> rfl
  | e :: es, h => by
    rw [List.map_cons, List.sum_cons, sum_es hT wt es fun x hx => h x (List.mem_cons_of_mem _ hx)]
    have : (T.map fun t => csP (e :: es) t * wt t) = T.map fun t => (if e.k = t then e.m else 0) * wt t + csP es t * wt t := List.map_congr_left fun t _ => by rw [csP_cons, Int.add_mul]
    rw [this, sum_add, sum_pick hT, if_pos (h e List.mem_cons_self)]
theorem val3_es {H : Hp} {W : List NK} {f : Fm} (F : FmOk H W f) {T : List NK} (hT : T.Nodup) (wt : NK → Int) (h : ∀ e ∈ f.es, e.k ∈ T) : val3 T wt f = 3 * f.c + (f.es.map fun e => e.m * wt e.k).sum := by
  unfold val3
  rw [sum_es hT wt f.es h]
  congr 2
  exact List.map_congr_left fun t _ => by rw [F.cs t]
/-- facts that hold at a place -/
def Holds (fcs : List Fc) : Prop := ∃ (T : List NK) (wt : NK → Int), ∀ x ∈ fcs, ∀ f, x.f = some f → 0 ≤ val3 T wt f
theorem sumL_add (ps : List (Nat × Int)) (f g : Nat → Int) : sumL ps (fun k => f k + g k) = sumL ps f + sumL ps g := by
  induction ps with
  | nil => rfl
  | cons q ps ih => rw [sumL_cons, sumL_cons, sumL_cons, ih]; grind
theorem sumL_smul (c : Int) (ps : List (Nat × Int)) (f : Nat → Int) : sumL ps (fun k => c * f k) = c * sumL ps f := by
  induction ps with
  | nil => show (0 : Int) = c * 0; omega
  | cons q ps ih => rw [sumL_cons, sumL_cons, ih]; grind
theorem sumL_T (T : List NK) (wt : NK → Int) (ps : List (Nat × Int)) (g : NK → Nat → Int) (h : ∀ t, sumL ps (g t) = 0) : sumL ps (fun k => (T.map fun t => g t k * wt t).sum) = 0 := by
  induction T with
  | nil => exact sumL_zero ps
  | cons t T ih =>
    have e : sumL ps (fun k => ((t :: T).map fun t => g t k * wt t).sum) = sumL ps (fun k => wt t * g t k + (T.map fun t => g t k * wt t).sum) := sumL_congr fun q _ => by rw [List.map_cons, List.sum_cons, Int.mul_comm]
    rw [e, sumL_add, sumL_smul, h t, ih]; omega
theorem sumL_nn {ps : List (Nat × Int)} {f : Nat → Int} (h : ∀ q ∈ ps, 0 < q.2 ∧ 0 ≤ f q.1) : 0 ≤ sumL ps f := by
  induction ps with
  | nil => exact Int.le_refl _
  | cons q ps ih =>
    rw [sumL_cons]
    have h1 := h q List.mem_cons_self
    have h2 := ih fun x hx => h x (List.mem_cons_of_mem _ hx)
    have h3 := Int.mul_nonneg (Int.le_of_lt h1.1) h1.2
    omega
theorem holds_no {fcs : List Fc} {qs : List (Nat × Int)} (h : Holds fcs) (R : RightS fcs qs) : False := by
  obtain ⟨T, wt, hh⟩ := h
  have h1 : 0 ≤ sumL qs (fun k => 3 * cA fcs k + (T.map fun t => cfA fcs t k * wt t).sum) := sumL_nn fun q hq => by
    obtain ⟨o1, o2, _⟩ := R.ok q hq
    obtain ⟨f, ef⟩ := Option.isSome_iff_exists.mp o1
    refine ⟨o2, ?_⟩
    have e1 : cA fcs q.1 = f.c := by unfold cA; rw [ef]; rfl
    have e2 : ∀ t, cfA fcs t q.1 = f.cf t := fun t => by unfold cfA; rw [ef]; rfl
    have hv : 0 ≤ val3 T wt f := by
      unfold fcF at ef
      cases ex : fcs[q.1]? with
      | none => rw [ex] at ef; cases ef
      | some x => rw [ex] at ef; exact hh x (List.mem_of_getElem? ex) f ef
    unfold val3 at hv
    rw [e1, List.map_congr_left (g := fun t => f.cf t * wt t) fun t _ => by rw [e2]]
    exact hv
  rw [sumL_add, sumL_smul, sumL_T T wt qs _ R.th] at h1
  have := R.cs
  omega
end K47
end
section
set_option Elab.async false
set_option maxRecDepth 100000
set_option maxHeartbeats 4000000
set_option autoImplicit false
/-! held: the walk. -/
namespace K47
open PySem L2 PySem.Spec PyProof.Rows
def wtOf (ths : List (Addr × NK)) (ws : List Int) (t : NK) : Int := (((ths.zip ws).find? fun p => decide (p.1.2 = t)).map (·.2)).getD 0
theorem wt_at : ∀ {ths : List (Addr × NK)} {ws : List Int} {j : Nat} {x : Addr × NK} {w : Int}, (ths.map (·.2)).Nodup → ths[j]? = some x → ws[j]? = some w → wtOf ths ws x.2 = w
  | [], _, _, _, _, _, h, _ => by simp at h
  | _ :: _, [], _, _, _, _, _, h => by simp at h
  | y :: ths, v :: ws, 0, x, w, _, h1, h2 => by
    cases h1; cases h2
    unfold wtOf
    rw [List.zip_cons_cons, List.find?_cons_of_pos (by simp)]; rfl
  | y :: ths, v :: ws, j + 1, x, w, hn, h1, h2 => by
    rw [List.map_cons, List.nodup_cons] at hn
    have h1' : ths[j]? = some x := by simpa using h1
    have h2' : ws[j]? = some w := by simpa using h2
    have ih := wt_at hn.2 h1' h2'
    have hne : ¬ y.2 = x.2 := fun z => hn.1 (by rw [z]; exact List.mem_map.mpr ⟨x, List.mem_of_getElem? h1', rfl⟩)
    rw [← ih]
    unfold wtOf
    rw [List.zip_cons_cons, List.find?_cons_of_neg (by simpa using hne)]
theorem wt_bd {ths : List (Addr × NK)} {ws : List Int} (h : ∀ w ∈ ws, -20 ≤ w ∧ w ≤ 20) (t : NK) : -20 ≤ wtOf ths ws t ∧ wtOf ths ws t ≤ 20 := by
  unfold wtOf
  cases e : (ths.zip ws).find? fun p => decide (p.1.2 = t) with
  | none => exact ⟨by decide, by decide⟩
  | some p =>
    have := List.mem_of_find?_eq_some e
    exact h _ (List.of_mem_zip this).2
theorem datas_map (ks : List NK) : NestedKey.datas ks = ks.map NestedKey.data := by
  induction ks with
  | nil => rfl
  | cons k ks ih => simp only [NestedKey.datas, List.map_cons, ih]
theorem dp_things {H : Hp} {K : PySem.W.Frag} : ∀ {ths : List (Addr × NK)}, (∀ t ∈ ths, KD H t.2 (.ref t.1)) → DpAll K H (ths.map fun t => V.ref t.1) (NestedKey.datas (ths.map (·.2)))
  | [], _ => .nil
  | t :: ths, h => .cons ((h t List.mem_cons_self).dp _ _) (dp_things fun x hx => h x (List.mem_cons_of_mem _ hx))
theorem sum_bd {g : NK → Int} {B : Int} (hg : ∀ t, -B ≤ g t ∧ g t ≤ B) : ∀ T : List NK, -(B * T.length) ≤ (T.map g).sum ∧ (T.map g).sum ≤ B * T.length
  | [] => by simp
  | t :: T => by
    have h1 := sum_bd hg T
    have h2 := hg t
    have e : B * ((t :: T).length : Int) = B * (T.length : Int) + B := by rw [List.length_cons]; push_cast; grind
    rw [List.map_cons, List.sum_cons, e]
    generalize B * (T.length : Int) = X at h1 ⊢
    omega
theorem mul_bd {x y M N : Int} (hx : -M ≤ x ∧ x ≤ M) (hy : -N ≤ y ∧ y ≤ N) : -(M * N) ≤ x * y ∧ x * y ≤ M * N := by
  have h1 : (x * y).natAbs ≤ M.natAbs * N.natAbs := by rw [Int.natAbs_mul]; exact Nat.mul_le_mul (by omega) (by omega)
  have h2 : (M * N).natAbs = M.natAbs * N.natAbs := Int.natAbs_mul ..
  have h3 : 0 ≤ M * N := Int.mul_nonneg (by omega) (by omega)
  generalize M * N = P at h2 h3 ⊢
  generalize x * y = Q at h1 ⊢
  omega
theorem val3_bd {T : List NK} {wt : NK → Int} {f : Fm} (hT : T.length ≤ 5) (hw : ∀ t, -20 ≤ wt t ∧ wt t ≤ 20) (hs : SmF 1000000 f) : -200000000 ≤ val3 T wt f ∧ val3 T wt f ≤ 200000000 := by
  have h1 := sum_bd (g := fun t => f.cf t * wt t) (B := 1000000 * 20) (fun t => mul_bd (hs.2 t) (hw t)) T
  have h2 := hs.1
  unfold val3
  generalize (T.map fun t => f.cf t * wt t).sum = X at h1 ⊢
  have h3 : (1000000 * 20 : Int) * (T.length : Int) ≤ 100000000 := by omega
  omega
theorem val3_fix {T : List NK} {wt : NK → Int} {f f' : Fm} (hc : f'.c = f.c - val3 T wt f / 3) (hcf : ∀ t, f'.cf t = f.cf t) : 0 ≤ val3 T wt f' := by
  have e : (T.map fun t => f'.cf t * wt t) = T.map fun t => f.cf t * wt t := List.map_congr_left fun t _ => by rw [hcf t]
  have h1 : val3 T wt f' = 3 * f'.c + (val3 T wt f - 3 * f.c) := by unfold val3; rw [e]; omega
  rw [h1, hc]
  generalize val3 T wt f = V
  omega
def spHeld : Sp := fun vs H Q _ => ∃ (q tl : Addr) (most : Int) (n : Nat) (ths : List (Addr × NK)) (W : List NK), vs = [.ref q, .ref tl, .int most] ∧ FdAt H q n ∧ n ≤ 700000 ∧ H tl = some (.lst (ths.map fun t => V.ref t.1)) ∧ q ≠ tl ∧ ThOk H W ths ∧ Uni W ∧ ths.length ≤ 5 ∧ 0 ≤ most ∧ most ≤ 1000000 ∧
  ∀ (l : Addr) (fcs : List Fc) (H' : Hp), Fz q H H' → FdAt H' q (n + 300) → H l = none → Lst H' W l fcs → fcs.length ≤ 20 → AllBig fcs → Holds fcs → Q (.ref l) H'
abbrev NHe : List Str := ["_law_feed_here", "_law_things_here", "_law_most", "_law_facts", "_law_worth", "_law_k", "_law_form_here", "_law_thirds", "_law_thing_here", "_law_many"]
theorem scHeld : FnScope NHe ["_law_feed_here", "_law_things_here", "_law_most"] (defScope sHeld) := ⟨rfl, rfl, rfl, by decide +kernel, rfl, by decide +kernel, by decide +kernel⟩
section
variable {P : Program} {w : World} {K : PySem.W.Frag} {mg : Str → Option Value} {base : Heap} {C : Addr}
theorem cal_held (D : Df K mg "_law_held" sHeld ["_law_feed_here", "_law_things_here", "_law_most"]) (cN : Cal P w K mg base "_law_next" 1 ["_law_feed_here", "_law_many"] spNext) (cL : CalG P w K mg base "_law_linear" 2 ["_law_feed_here", "_law_things_here", "_law_most"] spLinear) (Y : Txt K mg C) :
    CalG P w K mg base "_law_held" 3 ["_law_feed_here", "_law_things_here", "_law_most"] spHeld := by
  obtain ⟨fN, fdN, GN, mN, kpN, bN⟩ := cN
  obtain ⟨fL, fdL, GL, mL, kpL, bL⟩ := cL
  refine D.calG scHeld (fun vs H Q E h => ?_) (fun qual fa cdv A outer s H vs Q E gd hr h => ?_)
  · obtain ⟨_, _, _, _, _, _, rfl, _⟩ := h
    rfl
  · obtain ⟨q, tl, most, n, ths, W, rfl, hfd, hn, htl, hqt, hth, U, h5, hm0, hm1, k⟩ := h
    have nd := scHeld.nd
    have hr1 : Room 1 _ := hr.mono (by decide)
    have hu65 : (A.deeper (envOfC qual (defScope sHeld) s.heap.objs.size fa cdv)).units + 65 < cLine := by have := hr.un; omega
    refine ⟨_, pss_cons (ps_set (i := 3) nd rfl (Or.inl rfl) (pe_lst pa_nil))
      (pss_cons (ps_set (i := 4) nd rfl (Or.inr rfl) (pe_lc (own := [("_law_thing_here", 8)]) (g := gName 8) (tt := tYes) (te := tOp (rI0 fun i j => V.int (i - j)) (tCall spNext [] E0 (tCons (tVar 0) (tCons (tC (.int 41)) tNil))) (tC (.int 20))) rfl nd (pi_list (pv 1)) (blkOk_by (N := NHe) (sc := defScope sHeld) (by decide +kernel)) (fun _ _ _ _ _ => pg_name (i := 8) nd rfl (Or.inl rfl)) (fun _ _ _ _ _ => pts_nil)
        (fun _ _ _ _ _ => pe_op op_sub (pe_call GN hr1 (by rfl) mN kpN bN .nil pass0 (pa_cons (pv 0) (pa_cons pe_int pa_nil))) pe_int)))
      (pss_cons (ps_for PassesOwn.never rfl (pi_range1 rfl Y.range (pa_cons (pe_call GN hr1 (by rfl) mN kpN bN .nil pass0 (pa_cons (pv 0) (pa_cons pe_int pa_nil))) pa_nil)) (pg_name (i := 5) nd rfl (Or.inl rfl))
        (pss_cons (ps_set (i := 6) nd rfl (Or.inl rfl) (pe_callG GL gd hr (by rfl) mL kpL bL (pa_cons (pv 0) (pa_cons (pv 1) (pa_cons (pv 2) pa_nil)))))
        (pss_cons (ps_set (i := 7) nd rfl (Or.inl rfl) (pe_op op_add (pe_op op_mul pe_int (pe_ix ix_tup (pv 6) pe_int (fun _ _ => rfl))) (pe_callB (cr_sum rfl) (by rfl) Y.sum (by decide +kernel) (pa_cons (pe_lc (own := [("_law_thing_here", 8), ("_law_many", 9)]) (g := gTup K 2 (gCons (gName 8) (gCons (gName 9) gNil))) (tt := tYes)
            (te := iMulS (tVar 9) (tOp (rIxL K) (tVar 4) (tBM K "list" (rIndexD K) (tVar 1) (tCons (tVar 8) tNil)))) rfl nd (pi_tup (pe_ix ix_tup (pv 6) pe_int (fun _ _ => rfl))) (blkOk_by (N := NHe) (sc := defScope sHeld) (by decide +kernel)) (fun _ _ _ _ _ => pg_tup rfl (pgs_cons (pg_name (i := 8) nd rfl (Or.inl rfl)) (pgs_cons (pg_name (i := 9) nd rfl (Or.inl rfl)) pgs_nil))) (fun _ _ _ _ _ => pts_nil)
            (fun _ _ _ _ _ => pe_op op_mul (pv 9) (pe_ix ix_list (pv 4) (pe_bm PySem.F.plainAttrs_list PySem.F.slot_list_index PySem.F.type_list_index (mt_indexD hu65) (pv 1) (pa_cons (pv 8) pa_nil)) (fun _ _ => rfl)))) pa_nil))))
        (pss_cons (ps_if (PW.pt (pw_or (pt_cmpR op_lt (pv 7) pe_int (nomark _)) (pw_or1 (pt_cmpR op_eq (pe_call GN hr1 (by rfl) mN kpN bN .nil pass0 (pa_cons (pv 0) (pa_cons pe_int pa_nil))) pe_int (nomark _)))))
          (pss_one (ps_set (i := 6) nd rfl (Or.inl rfl) (pe_tup (pa_cons (pe_op op_sub (pe_ix ix_tup (pv 6) pe_int (fun _ _ => rfl)) (pe_op op_fdiv (pv 7) pe_int)) (pa_cons (pe_ix ix_tup (pv 6) pe_int (fun _ _ => rfl)) pa_nil))))) pss_nil)
        (pss_one (ps_expr (pe_bm PySem.F.plainAttrs_list PySem.F.slot_list_append PySem.F.type_list_append mt_append (pv 3) (pa_cons (pe_tup (pa_cons pe_str (pa_cons (pv 6) pa_nil))) pa_nil))))))))
      (pss_one (ps_ret (pv 3))))), ?_⟩
    obtain ⟨xs, hq, hx⟩ := hfd
    refine q_setE ?_
    refine ⟨Nat.zero_le _, fun l hl => ?_⟩
    have hql : q ≠ l := ne_of_none hq hl
    have htll : tl ≠ l := ne_of_none htl hl
    have s1 := same_upd (o := .lst []) hl
    have hl1 : (upd H l (.lst [])) l = some (.lst []) := upd_same
    generalize upd H l (.lst []) = H1 at s1 hl1 ⊢
    refine q_setE ?_
    refine ⟨_, rfl, tl, rfl, ⟨_, SqL.of (s1 _ _ htl)⟩, fun Dw nDw => lc_list (K := K) (a := tl) (xs := ths.map fun t => V.ref t.1)
      (fun i H' => ∃ ws ys, Fz q H1 H' ∧ H' q = some (.lst ys) ∧ FdS ys (n + i) ∧ H' Dw = some (.lst (ws.map V.int)) ∧ ws.length = i ∧ ∀ w ∈ ws, -20 ≤ w ∧ w ≤ 20)
      ⟨[], xs, Fz.of (same_upd nDw), same_upd nDw _ _ (s1 _ _ hq), hx, upd_same, rfl, fun w h => (nomatch h)⟩ (fun i H' _ ⟨_, _, z, _⟩ => SqL.of (z _ _ (s1 _ _ htl) (Ne.symm hqt))) ?_ ?_⟩
    · rintro i x H' hi ⟨ws, ys, z, hqH, hys, hD, hlen, hbd⟩
      rw [List.getElem?_map] at hi
      cases et : ths[i]? with
      | none => rw [et] at hi; cases hi
      | some t =>
        rw [et] at hi
        cases hi
        have hil : i < ths.length := (List.getElem?_eq_some_iff.mp et).1
        refine ⟨rfl, ?_⟩
        refine ⟨_, rfl, q, 41, ys, _, rfl, by decide, by decide, hqH, hys, by omega, fun r y2 r0 r41 hy2 => ⟨r, 20, rfl, rfl, ?_⟩⟩
        have hqD : q ≠ Dw := ne_of_none (s1 _ _ hq) nDw
        refine ⟨_, by rw [upd_ne (Ne.symm hqD)]; exact hD, by rw [List.length_map]; exact small100 (by omega), ws ++ [r - 20], y2, fun c o h hc => ?_, by rw [upd_ne hqD, upd_same], hy2.mono (by omega), by rw [upd_same, List.map_append]; rfl, by rw [List.length_append, hlen]; rfl, fun w hw => ?_⟩
        · rw [upd_ne (ne_of_none h nDw), upd_ne hc]; exact z _ _ h hc
        · rcases List.mem_append.mp hw with h | h
          · exact hbd w h
          · rw [List.mem_singleton] at h; subst h; exact ⟨by omega, by omega⟩
    rintro H2 ⟨ws, ys, z2, hq2, hy2, hDw, hwl, hwb⟩
    rw [List.length_map] at hy2 hwl
    have hl2 := z2 _ _ hl1 (Ne.symm hql)
    have htl2 := z2 _ _ (s1 _ _ htl) (Ne.symm hqt)
    have tk2 : Tk H H2 := (Tk.of s1).trans (z2.tk ⟨xs, s1 _ _ hq, hx⟩)
    have hDq : Dw ≠ q := fun e => by rw [e, s1 _ _ hq] at nDw; cases nDw
    have hDl : Dw ≠ l := fun e => by rw [e, hl1] at nDw; cases nDw
    have th2 := hth.tk tk2
    dsimp only
    refine q_seq ⟨_, rfl, q, 9, ys, _, rfl, by decide, by decide, hq2, hy2, by omega, fun r y3 r0 r9 hy3 => ?_⟩
    have hq3 : (upd H2 q (.lst y3)) q = some (.lst y3) := upd_same
    have hl3 : (upd H2 q (.lst y3)) l = some (.lst []) := by rw [upd_ne (Ne.symm hql)]; exact hl2
    have z3 : Fz q H2 (upd H2 q (.lst y3)) := Fz.upd
    have tk3 : Tk H2 (upd H2 q (.lst y3)) := Tk.upd hq2 trivial
    generalize upd H2 q (.lst y3) = H3 at hq3 hl3 z3 tk3 ⊢
    have htl3 := z3 _ _ htl2 (Ne.symm hqt)
    have hDw3 := z3 _ _ hDw hDq
    have th3 := th2.tk tk3
    refine ⟨r, rfl, by omega, by omega, ?_⟩
    refine for_range0 (n := r.toNat) (fun j σ H' => ∃ fcs v5 v6 v7 zs, σ = [some (.ref q), some (.ref tl), some (.int most), some (.ref l), some (.ref Dw), v5, v6, v7, none, none] ∧ Fz2 q l H3 H' ∧ H' q = some (.lst zs) ∧ FdS zs (n + 10 + 25 * j) ∧ Lst H' W l fcs ∧ fcs.length = j ∧ AllBig fcs ∧ ∀ x ∈ fcs, ∀ f, x.f = some f → 0 ≤ val3 (ths.map (·.2)) (wtOf ths ws) f)
      ⟨[], none, none, none, y3, rfl, fun c o h _ _ => h, hq3, hy3.mono (by omega), ⟨hl3, fun x h => (nomatch h)⟩, rfl, fun x h => (nomatch h), fun x h => (nomatch h)⟩ ?_ ?_
    · rintro j σ H' hj ⟨fcs, v5, v6, v7, zs, rfl, z, hqH, hzs, L, hlen, hbig, hv⟩
      have hj9 : j < 9 := by omega
      have h5' := h5
      have hDwH := z _ _ hDw3 hDq hDl
      have htlH := z _ _ htl3 (Ne.symm hqt) htll
      have tk0 : Tk H3 H' := z.tk hq3 hl3
      have thH := th3.tk tk0
      refine q_setE ⟨_, rfl, _, rfl, _, rfl, q, tl, most, n + 10 + 25 * j, ths, W, rfl, ⟨zs, hqH, hzs⟩, by omega, htlH, hqt, thH, U, h5, hm0, hm1, fun f H4 z4 f4 F4 nz4 sm4 su4 => ?_⟩
      have tk4 : Tk H' H4 := z4.tk ⟨zs, hqH, hzs⟩
      have hDw4 := z4 _ _ hDwH hDq
      have htl4 := z4 _ _ htlH (Ne.symm hqt)
      have th4 := thH.tk tk4
      have hl4 := z4 _ _ L.at_ (Ne.symm hql)
      obtain ⟨w4, hq4, hw4⟩ := f4
      have hkT : ∀ e ∈ f.es, e.k ∈ ths.map (·.2) := fun e he => by
        refine su4 _ ?_
        rw [F4.cs e.k, ← cfP_cs e.k _ F4.nd]
        have h3 : cfP f.es e.k = e.m := by
          have h2 := csP_map (g := id) rfl (prs := f.es) (es := f.es) rfl F4.nd e.k
          unfold cfP
          cases ef : f.es.find? fun a => decide (a.k = e.k) with
          | none => exact absurd (List.find?_eq_none.mp ef e he) (by simp)
          | some a =>
            have hk : a.k = e.k := by have := List.find?_some ef; simpa using this
            have hma := List.mem_of_find?_eq_some ef
            have hnd := F4.nd
            rw [List.nodup_iff_pairwise_ne, List.pairwise_map, List.pairwise_iff_getElem] at hnd
            obtain ⟨i, hi, ei⟩ := List.getElem_of_mem hma
            obtain ⟨i', hi', ei'⟩ := List.getElem_of_mem he
            show a.m = e.m
            rcases Nat.lt_trichotomy i i' with y | y | y
            · exact absurd (by rw [ei, ei']; exact hk) (hnd i i' hi hi' y)
            · subst y; rw [← ei, ← ei']
            · exact absurd (by rw [ei, ei']; exact hk.symm) (hnd i' i hi' hi y)
        rw [h3]
        exact nz4 e he
      have h3e := val3_es F4 th4.2 (wtOf ths ws) hkT
      have hfl := F4.len U
      refine q_setE ?_
      refine ⟨_, rfl, f.a, _, 0, .int f.c, rfl, rfl, .inl F4.at_, rfl, 3, f.c, rfl, rfl, .inl ⟨by decide, by decide⟩, ?_⟩
      refine ⟨_, rfl, f.a, _, 1, .ref f.p, rfl, rfl, .inl F4.at_, rfl, f.p, rfl, ⟨_, .inl F4.ps.rd⟩, fun D2 nD2 => lc_tup (K := K) (a := f.p) (xs := f.es.map fun e => .ref e.pa)
        (fun i H'' => H'' = upd H4 D2 (.lst (((f.es.take i).map fun e => e.m * wtOf ths ws e.k).map V.int))) rfl (fun i H'' _ e => by rw [e]; exact .inl (F4.tk (Tk.new nD2)).ps.rd) ?_ ?_⟩
      · rintro i x H'' hi rfl
        rw [List.getElem?_map] at hi
        cases ee : f.es[i]? with
        | none => rw [ee] at hi; cases hi
        | some e =>
          rw [ee] at hi
          cases hi
          have hil : i < f.es.length := (List.getElem?_eq_some_iff.mp ee).1
          have hem := List.mem_of_getElem? ee
          have sD := same_upd (o := .lst (((f.es.take i).map fun e => e.m * wtOf ths ws e.k).map V.int)) nD2
          have ok := PcOk.tk (F4.pc e hem) (Tk.of sD)
          obtain ⟨j0, hj0, ej0⟩ := List.getElem_of_mem (hkT e hem)
          have hj0' : j0 < ths.length := by rw [List.length_map] at hj0; exact hj0
          have et0 : ths[j0]? = some ths[j0] := List.getElem?_eq_getElem hj0'
          have ek0 : ths[j0].2 = e.k := by rw [← ej0, List.getElem_map]
          have hjw : j0 < ws.length := by rw [hwl]; exact hj0'
          have ew0 : ws[j0]? = some ws[j0] := List.getElem?_eq_getElem hjw
          have hwt : wtOf ths ws e.k = ws[j0] := by rw [← ek0]; exact wt_at th4.2 et0 ew0
          have hwb0 := hwb ws[j0] (List.getElem_mem hjw)
          have hdep : ∀ t ∈ ths.map (·.2), t.depth ≤ 6 := fun t ht => by
            obtain ⟨y, hy, rfl⟩ := List.mem_map.mp ht
            exact U.dep _ (th4.1 y hy).2
          have htl5 := sD _ _ htl4
          have hDw5 := sD _ _ hDw4
          have th5 := th4.tk (Tk.of sD)
          have hlen5 : ((f.es.take i).map fun e => e.m * wtOf ths ws e.k).length ≤ 1000 := by rw [List.length_map, List.length_take]; omega
          refine ⟨e.pa, _, rfl, .inl ok.1, rfl, _, _, rfl, _, _, rfl, rfl, rfl, ?_⟩
          refine ⟨_, rfl, _, rfl, _, rfl, .inl ⟨rfl, _, SqL.of htl5⟩, _, rfl, tl, .ref e.ta, e.k.data, NestedKey.datas (ths.map (·.2)), j0, e.k.data, rfl, rfl, .lst (SqL.of htl5) (dp_things fun t ht => (th5.1 t ht).1), ok.2.1.dp _ _,
            shaped_datas (depthAll_le _ fun a ha => Nat.le_trans (hdep a ha) (by decide)) (tOks_of _ fun a ha => ?tok), shaped_data (Nat.le_trans (U.dep _ ok.2.2) (by decide)) (U.tok _ ok.2.2), ?ds, by rw [eqv_data, NestedKey.beq_self], fun m z' hm hz => ?no, ?go⟩
          case tok =>
            obtain ⟨y, hy, rfl⟩ := List.mem_map.mp ha
            exact U.tok _ (th4.1 y hy).2
          case ds => rw [datas_map, List.getElem?_map, List.getElem?_map, et0]; show some (ths[j0].2).data = _; rw [ek0]
          case no =>
            rw [datas_map, List.getElem?_map, List.getElem?_map, List.getElem?_eq_getElem (show m < ths.length by omega)] at hz
            have hz' : (ths[m].2).data = z' := Option.some.inj hz
            rw [← hz', eqv_data]
            cases hb : NestedKey.beq ths[m].2 e.k with
            | false => rfl
            | true =>
              have e1 := NestedKey.eq_of_beq _ _ hb
              have hnd := th4.2
              rw [List.nodup_iff_pairwise_ne, List.pairwise_map, List.pairwise_iff_getElem] at hnd
              exact absurd (by rw [e1, ek0]) (hnd m j0 (by omega) hj0' hm)
          case go =>
            refine ⟨Dw, _, (j0 : Int), .int ws[j0], rfl, rfl, SqL.of hDw5, at_of rfl (by rw [List.getElem?_map, ew0]; rfl), e.m, ws[j0], rfl, rfl, .inr ⟨Int.lt_of_lt_of_le (by decide) hwb0.1, Int.lt_of_le_of_lt hwb0.2 (by decide)⟩, _, upd_same, ?_, ?_⟩
            · rw [List.length_map]; exact small100 hlen5
            · rw [upd_upd, take_succ_get ee, List.map_append, List.map_append, ← hwt]; rfl
      · rintro H'' rfl
        rw [List.length_map, List.take_of_length_le (Nat.le_refl _)]
        have s5 := same_upd (o := .lst ((f.es.map fun e => e.m * wtOf ths ws e.k).map V.int)) nD2
        have h5 : (upd H4 D2 (.lst ((f.es.map fun e => e.m * wtOf ths ws e.k).map V.int))) D2 = some (.lst ((f.es.map fun e => e.m * wtOf ths ws e.k).map V.int)) := upd_same
        generalize upd H4 D2 (.lst ((f.es.map fun e => e.m * wtOf ths ws e.k).map V.int)) = H5 at s5 h5 ⊢
        refine ⟨D2, _, rfl, SqL.of h5, 3 * f.c, _, rfl, rfl, ?_⟩
        dsimp only
        rw [← h3e]
        have vb := val3_bd (T := ths.map (·.2)) (wt := wtOf ths ws) (by rw [List.length_map]; exact h5') (wt_bd hwb) (sm4.mono hm1)
        have L5 : Lst H5 W l fcs := ⟨s5 _ _ hl4, fun x hx => (L.ok x hx).tk (tk4.trans (Tk.of s5))⟩
        have z5 : Fz2 q l H3 H5 := fun c o h hc hcl => s5 _ _ (z4 _ _ (z _ _ h hc hcl) hc)
        have hq5 := s5 _ _ hq4
        have F5 := F4.tk (Tk.of s5)
        generalize hth : val3 (ths.map (·.2)) (wtOf ths ws) f = th at vb ⊢
        have app : ∀ (f' : Fm) (v5' : Option V) (H6 : Hp) (zs6 : List V), Fz2 q l H3 H6 → H6 q = some (.lst zs6) → FdS zs6 (n + 10 + 25 * (j + 1)) → FmOk H6 W f' → SmF 100000000000 f' → 0 ≤ val3 (ths.map (·.2)) (wtOf ths ws) f' → Lst H6 W l fcs →
            tBM K "list" rAppend (tVar 3) (tCons (tTup (tCons (tC (.str "least")) (tCons (tVar 6) tNil))) tNil) [some (.ref q), some (.ref tl), some (.int most), some (.ref l), some (.ref Dw), v5', some (.ref f'.a), some (.int th), none, none] H6
              (fun _ H7 => ∃ fcs v5 v6 v7 zs, [some (.ref q), some (.ref tl), some (.int most), some (.ref l), some (.ref Dw), v5', some (.ref f'.a), some (.int th), none, none] = [some (.ref q), some (.ref tl), some (.int most), some (.ref l), some (.ref Dw), v5, v6, v7, none, none] ∧ Fz2 q l H3 H7 ∧ H7 q = some (.lst zs) ∧ FdS zs (n + 10 + 25 * (j + 1)) ∧ Lst H7 W l fcs ∧ fcs.length = j + 1 ∧ AllBig fcs ∧ ∀ x ∈ fcs, ∀ f, x.f = some f → 0 ≤ val3 (ths.map (·.2)) (wtOf ths ws) f) := by
          intro f' v5' H6 zs6 z6 hq6 hz6 F6 sm6 v6 L6
          refine ⟨_, rfl, .inl ⟨rfl, _, SqL.of L6.at_⟩, _, rfl, by show 2 ≤ sizeLine; decide, fun a ha => ?_⟩
          have s7 := same_upd (o := .tup [.str "least", .ref f'.a]) ha
          have hl7 := s7 _ _ L6.at_
          have tk8 : Tk (upd H6 a (.tup [.str "least", .ref f'.a])) (upd (upd H6 a (.tup [.str "least", .ref f'.a])) l (.lst ((fcs.map fun x => V.ref x.a) ++ [.ref a]))) := Tk.upd hl7 trivial
          refine ⟨l, _, .ref a, rfl, rfl, hl7, by rw [List.length_map, hlen]; exact small100 (by omega), fcs ++ [⟨a, some f'⟩], _, _, _, zs6, rfl, fun c o h hc hcl => ?_, by rw [upd_ne hql]; exact s7 _ _ hq6, hz6, ⟨by rw [upd_same, List.map_append]; rfl, fun x hx => FcOk.tk ?_ tk8⟩, by rw [List.length_append, hlen]; rfl, fun x hx => ?_, fun x hx f0 e0 => ?_⟩
          · rw [upd_ne hcl]; exact s7 _ _ (z6 _ _ h hc hcl)
          · rcases List.mem_append.mp hx with h | h
            · exact (L6.ok x h).tk (Tk.of s7)
            · rw [List.mem_singleton] at h
              subst h
              exact ⟨.inl upd_same, F6.tk (Tk.of s7)⟩
          · rcases List.mem_append.mp hx with h | h
            · exact hbig x h
            · rw [List.mem_singleton] at h
              subst h
              exact ⟨f', rfl, big11 F6 sm6⟩
          · rcases List.mem_append.mp hx with h | h
            · exact hv x h f0 e0
            · rw [List.mem_singleton] at h
              subst h
              cases e0
              exact v6
        have fixed : ∀ (v5' : Option V) (H6 : Hp) (zs6 : List V), Fz2 q l H3 H6 → H6 q = some (.lst zs6) → FmOk H6 W f → Lst H6 W l fcs → ∀ R : VK,
            (∀ (f' : Fm) (H7 : Hp), Fz2 q l H3 H7 → H7 q = some (.lst zs6) → FmOk H7 W f' → SmF 100000000000 f' → 0 ≤ val3 (ths.map (·.2)) (wtOf ths ws) f' → Lst H7 W l fcs → R (.ref f'.a) H7) →
            tTup (tCons (tOp (rI0 fun i j => V.int (i - j)) (tOp (rIxT K) (tVar 6) (tC (.int 0))) (iFd (tVar 7) (tC (.int 3)))) (tCons (tOp (rIxT K) (tVar 6) (tC (.int 1))) tNil)) [some (.ref q), some (.ref tl), some (.int most), some (.ref l), some (.ref Dw), v5', some (.ref f.a), some (.int th), none, none] H6 R := by
          intro v5' H6 zs6 z6 hq6 F6 L6 R hR
          refine ⟨_, rfl, f.a, _, 0, .int f.c, rfl, rfl, .inl F6.at_, rfl, _, rfl, th, 3, rfl, rfl, ⟨by decide, by decide⟩, f.c, th / 3, rfl, rfl, _, rfl, f.a, _, 1, .ref f.p, rfl, rfl, .inl F6.at_, rfl, by show 2 ≤ sizeLine; decide, fun a2 ha2 => ?_⟩
          have s7 := same_upd (o := .tup [.int (f.c - th / 3), .ref f.p]) ha2
          have F7 := F6.tk (Tk.of s7)
          refine hR ⟨a2, f.p, f.c - th / 3, f.es⟩ _ (fun c o h hc hcl => s7 _ _ (z6 _ _ h hc hcl)) (s7 _ _ hq6) ⟨.inl upd_same, F7.ps, F7.pc, F7.nd⟩ ⟨?_, fun t => ?_⟩ (val3_fix (f := f) (by rw [hth]) fun t => rfl) ⟨s7 _ _ L6.at_, fun x hx => (L6.ok x hx).tk (Tk.of s7)⟩
          · have h1 := sm4.1
            show -100000000000 ≤ f.c - th / 3 ∧ f.c - th / 3 ≤ 100000000000
            omega
          · have h1 : -most ≤ f.cf t ∧ f.cf t ≤ most := sm4.2 t
            show -100000000000 ≤ f.cf t ∧ f.cf t ≤ 100000000000
            omega
        by_cases hneg : th < 0
        · refine ⟨_, rfl, th, 0, rfl, rfl, _, rfl, ?_⟩
          rw [decide_eq_true hneg]
          refine iteT (iteT ?_)
          refine fixed _ H5 w4 z5 hq5 F5 L5 _ fun f' H7 z7 hq7 F7 sm7 v7' L7 => ?_
          exact app f' _ H7 w4 z7 hq7 (hw4.mono (by omega)) F7 sm7 v7' L7
        · refine ⟨_, rfl, th, 0, rfl, rfl, _, rfl, ?_⟩
          rw [decide_eq_false hneg]
          refine iteF ?_
          refine ⟨_, rfl, q, 3, w4, _, rfl, by decide, by decide, hq5, hw4, by omega, fun r2 w6 r20 r23 hw6 => ⟨rfl, _, rfl, ?_⟩⟩
          have hq6 : (upd H5 q (.lst w6)) q = some (.lst w6) := upd_same
          have z6 : Fz2 q l H3 (upd H5 q (.lst w6)) := fun c o h hc hcl => by rw [upd_ne hc]; exact z5 _ _ h hc hcl
          have tk6 : Tk H5 (upd H5 q (.lst w6)) := Tk.upd hq5 trivial
          have L6 : Lst (upd H5 q (.lst w6)) W l fcs := ⟨by rw [upd_ne (Ne.symm hql)]; exact L5.at_, fun x hx => (L5.ok x hx).tk tk6⟩
          have F6 := F5.tk tk6
          generalize upd H5 q (.lst w6) = H6 at hq6 z6 L6 F6 ⊢
          by_cases h0 : r2 = 0
          · rw [decide_eq_true (show V.int r2 = V.int 0 by rw [h0])]
            refine iteT ?_
            refine fixed _ H6 w6 z6 hq6 F6 L6 _ fun f' H7 z7 hq7 F7 sm7 v7' L7 => ?_
            exact app f' _ H7 w6 z7 hq7 (hw6.mono (by omega)) F7 sm7 v7' L7
          · rw [decide_eq_false (fun e => h0 (V.int.inj e))]
            refine iteF ?_
            refine app f _ H6 w6 z6 hq6 (hw6.mono (by omega)) F6 (sm4.mono (by omega)) (by rw [hth]; omega) L6
    · rintro σ H' ⟨fcs, v5, v6, v7, zs, rfl, z, hqH, hzs, L, hlen, hbig, hv⟩
      refine ⟨_, rfl, k l fcs H' (fun c o h hc => ?_) ⟨zs, hqH, hzs.mono (by omega)⟩ hl L (by omega) hbig ⟨_, _, hv⟩⟩
      exact z _ _ (z3 _ _ (z2 _ _ (s1 _ _ h) hc) hc) hc fun e => by rw [e, hl] at h; cases h
end
end K47
end
section
set_option Elab.async false
set_option maxRecDepth 100000
set_option maxHeartbeats 4000000
set_option autoImplicit false
/-! shuffled: what stays when facts are mixed. -/
namespace K47
open PySem L2 PySem.Spec PyProof.Rows
def cfX (t : NK) (x : Fc) : Int := ((x.f).map (·.cf t)).getD 0
def cX (x : Fc) : Int := ((x.f).map (·.c)).getD 0
theorem cfA_X {fcs : List Fc} {t : NK} {k : Nat} : cfA fcs t k = ((fcs[k]?).map (cfX t)).getD 0 := by
  unfold cfA fcF cfX
  cases fcs[k]? with
  | none => rfl
  | some x => rfl
theorem cA_X {fcs : List Fc} {k : Nat} : cA fcs k = ((fcs[k]?).map cX).getD 0 := by
  unfold cA fcF cX
  cases fcs[k]? with
  | none => rfl
  | some x => rfl
/-- the same by a list of facts with their times -/
def RightL (ps : List (Fc × Int)) : Prop := (∀ p ∈ ps, 0 ≤ p.2) ∧ (∀ t, (ps.map fun p => p.2 * cfX t p.1).sum = 0) ∧ (ps.map fun p => p.2 * cX p.1).sum < 0
theorem right_of {ps : List (Fc × Int)} (h : RightL ps) : HasRight (ps.map (·.1)) := by
  obtain ⟨h0, h1, h2⟩ := h
  have key : ∀ (g : Fc → Int) (G : Nat → Int), (∀ k, G k = (((ps.map (·.1))[k]?).map g).getD 0) → si (ps.map (·.1)).length (fun k => (((ps[k]?).map (·.2)).getD 0) * G k) = (ps.map fun p => p.2 * g p.1).sum := fun g G hG => by
    rw [List.length_map, ← si_list (fun p : Fc × Int => p.2 * g p.1) (⟨0, none⟩, 0)]
    refine si_congr fun j hj => ?_
    rw [hG, List.getElem?_map, List.getD_eq_getElem?_getD, List.getElem?_eq_getElem hj]; rfl
  refine ⟨fun k => ((ps[k]?).map (·.2)).getD 0, fun k => ?_, fun t => ?_, ?_⟩
  · dsimp only
    cases e : ps[k]? with
    | none => exact Int.le_refl _
    | some p => exact h0 p (List.mem_of_getElem? e)
  · rw [key (cfX t) (cfA (ps.map (·.1)) t) fun k => cfA_X]; exact h1 t
  · rw [key cX (cA (ps.map (·.1))) fun k => cA_X]; exact h2
theorem right_to {fcs : List Fc} (h : HasRight fcs) : ∃ ps, ps.map (·.1) = fcs ∧ RightL ps := by
  obtain ⟨lam, h0, h1, h2⟩ := h
  let ps : List (Fc × Int) := (List.range fcs.length).map fun k => (fcs.getD k ⟨0, none⟩, lam k)
  have hps : ps.map (·.1) = fcs := by
    refine List.ext_getElem (by simp [ps]) fun i a b => ?_
    simp [ps, List.getD_eq_getElem?_getD, b]
  have hlen : ps.length = fcs.length := by simp [ps]
  have key : ∀ (g : Fc → Int) (G : Nat → Int), (∀ k, G k = ((fcs[k]?).map g).getD 0) → (ps.map fun p => p.2 * g p.1).sum = si fcs.length (fun k => lam k * G k) := fun g G hG => by
    rw [← si_list (fun p : Fc × Int => p.2 * g p.1) (⟨0, none⟩, 0), hlen]
    refine si_congr fun j hj => ?_
    rw [hG, List.getElem?_eq_getElem hj]
    simp [ps, List.getD_eq_getElem?_getD, hj]
  refine ⟨ps, hps, fun p hp => ?_, fun t => ?_, ?_⟩
  · obtain ⟨k, _, rfl⟩ := List.mem_map.mp hp
    exact h0 k
  · rw [key (cfX t) (cfA fcs t) fun k => cfA_X]; exact h1 t
  · rw [key cX (cA fcs) fun k => cA_X]; exact h2
theorem sum_perm {α : Type} {xs ys : List α} (h : xs.Perm ys) (f : α → Int) : (xs.map f).sum = (ys.map f).sum := by
  induction h with
  | nil => rfl
  | cons x _ ih => rw [List.map_cons, List.map_cons, List.sum_cons, List.sum_cons, ih]
  | swap x y l => rw [List.map_cons, List.map_cons, List.map_cons, List.map_cons, List.sum_cons, List.sum_cons, List.sum_cons, List.sum_cons]; omega
  | trans _ _ a b => rw [a, b]
theorem right_perm {fcs gcs : List Fc} (h : HasRight fcs) (p : gcs.Perm fcs) : HasRight gcs := by
  obtain ⟨ps, rfl, h0, h1, h2⟩ := right_to h
  obtain ⟨qs, pq, rfl⟩ := perm_map_ex (fun p : Fc × Int => p.1) p ps rfl
  exact right_of ⟨fun x hx => h0 x (pq.mem_iff.mp hx), fun t => by rw [sum_perm pq]; exact h1 t, by rw [sum_perm pq]; exact h2⟩
theorem right_each {fcs : List Fc} (h : HasRight fcs) : ∀ es : List Fc, (∀ x ∈ es, x.f = none) → HasRight (fcs ++ es)
  | [], _ => by rw [List.append_nil]; exact h
  | x :: es, he => by
    have h1 : HasRight (fcs ++ [x]) := by
      obtain ⟨ps, rfl, h0, h1, h2⟩ := right_to h
      have e : ps.map (·.1) ++ [x] = (ps ++ [(x, (0 : Int))]).map (·.1) := by rw [List.map_append]; rfl
      rw [e]
      refine right_of ⟨fun p hp => ?_, fun t => ?_, ?_⟩
      · rcases List.mem_append.mp hp with m | m
        · exact h0 p m
        · rw [List.mem_singleton] at m; subst m; exact Int.le_refl _
      · rw [List.map_append, List.sum_append, h1 t]
        show 0 + (0 * cfX t x + 0) = 0
        omega
      · rw [List.map_append, List.sum_append]
        show _ + (0 * cX x + 0) < 0
        omega
    have := right_each h1 es fun y hy => he y (List.mem_cons_of_mem _ hy)
    rw [List.append_assoc] at this
    exact this
/-- the facts mixed, each facts between -/
def Mixed (fcs gcs : List Fc) : Prop := ∃ es : List Fc, (∀ x ∈ es, x.f = none) ∧ gcs.Perm (fcs ++ es) ∧ es.length ≤ 2
theorem Mixed.right {fcs gcs : List Fc} (m : Mixed fcs gcs) (h : HasRight fcs) : HasRight gcs := let ⟨es, h0, p, _⟩ := m; right_perm (right_each h es h0) p
theorem Mixed.holds {fcs gcs : List Fc} (m : Mixed fcs gcs) (h : Holds fcs) : Holds gcs := by
  obtain ⟨es, h0, p, _⟩ := m
  obtain ⟨T, wt, hh⟩ := h
  refine ⟨T, wt, fun x hx f e => ?_⟩
  rcases List.mem_append.mp (p.mem_iff.mp hx) with q | q
  · exact hh x q f e
  · rw [h0 x q] at e; cases e
theorem Mixed.big {fcs gcs : List Fc} (m : Mixed fcs gcs) (h : AllBig fcs) : ∀ x ∈ gcs, ∀ f, x.f = some f → Big (10 ^ 11) f := by
  obtain ⟨es, h0, p, _⟩ := m
  intro x hx f e
  rcases List.mem_append.mp (p.mem_iff.mp hx) with q | q
  · obtain ⟨f', e', b⟩ := h x q
    rw [e'] at e; cases e; exact b
  · rw [h0 x q] at e; cases e
theorem Mixed.len {fcs gcs : List Fc} (m : Mixed fcs gcs) : gcs.length ≤ fcs.length + 2 := by
  obtain ⟨es, h0, p, h2⟩ := m
  rw [p.length_eq, List.length_append]; omega
end K47
end
section
set_option Elab.async false
set_option maxRecDepth 100000
set_option maxHeartbeats 4000000
set_option autoImplicit false
/-! shuffled: the walk. -/
namespace K47
open PySem L2 PySem.Spec PyProof.Rows
/-- at one state of the slots -/
def Mks (σ : L2.St) (te : TE) (k : NK) : Prop := ∀ (H : Hp) (Q : VK), (∀ v H', Same H H' → KD H' k v → Q v H') → te σ H Q
def MksA (σ : L2.St) (ta : TA) (ks : List NK) : Prop := ∀ (H : Hp) (Q : List V → Hp → Prop), (∀ vs H', Same H H' → KDs H' ks vs → Q vs H') → ta σ H Q
theorem mks_of {σ : L2.St} {te : TE} {k : NK} (h : Mkd te k) : Mks σ te k := h σ
theorem mks_int {σ : L2.St} {te : TE} {i : Int} (h : ∀ H, Val te σ H (.int i)) : Mks σ te (.num i) := fun H _ q => h H _ (q _ H (Same.refl H) (.int i))
theorem mksa_nil {σ : L2.St} : MksA σ tNil [] := fun H _ q => q _ H (Same.refl H) .nil
theorem mksa_cons {σ : L2.St} {te : TE} {ta : TA} {k : NK} {ks : List NK} (h : Mks σ te k) (r : MksA σ ta ks) : MksA σ (tCons te ta) (k :: ks) := fun H Q q => h H _ fun v H1 s1 kd => r H1 _ fun vs H2 s2 kds => q _ H2 (s1.trans s2) (.cons (kd.stay (Tst.of s2) _ _) kds)
theorem mks_tup {σ : L2.St} {ta : TA} {ks : List NK} (h : MksA σ ta ks) (hl : ks.length ≤ 100) : Mks σ (tTup ta) (.tup ks) := fun H Q q => h H _ fun vs H1 s1 kds => ⟨by rw [kds.len]; exact Nat.le_trans hl (by decide), fun p hp => q _ _ (s1.trans (same_upd hp)) (.tup (.inl upd_same) (KDs.stay (Tst.of (same_upd hp)) _ _ kds))⟩
theorem perm_ins {α : Type} (xs : List α) (x : α) (r : Nat) : (xs.take r ++ [x] ++ xs.drop r).Perm (xs ++ [x]) := by
  have h1 : (xs.take r ++ [x] ++ xs.drop r).Perm (x :: (xs.take r ++ xs.drop r)) := by
    rw [List.append_assoc]
    exact List.perm_middle
  rw [List.take_append_drop] at h1
  exact h1.trans (List.perm_append_singleton x xs).symm
theorem mI' : Mkd (tC (.str "each")) (.text "each") := mk_str _
theorem mR : Mkd (tTup (tCons (tC (.str "r")) (tCons (tC (.int 0)) tNil))) (.tup [.text "r", .num 0]) := mk_tup (mka_cons (mk_str _) (mka_cons (mk_int _) mka_nil)) (by decide)
theorem mF {i : Int} : Mkd (tTup (tCons (tC (.int i)) (tCons (tTup tNil) tNil))) (.tup [.num i, .tup []]) := mk_tup (mka_cons (mk_int _) (mka_cons (mk_tup mka_nil (by decide)) mka_nil)) (by show 2 ≤ 100; decide)
def spShuf : Sp := fun vs H Q _ => ∃ (q fl : Addr) (n : Nat) (fcs : List Fc) (W : List NK), vs = [.ref q, .ref fl] ∧ FdAt H q n ∧ n ≤ 800000 ∧ Lst H W fl fcs ∧ q ≠ fl ∧ fcs.length ≤ 50 ∧
  ∀ (l : Addr) (gcs : List Fc) (H' : Hp), Fz q H H' → FdAt H' q (n + 100) → H l = none → Lst H' W l gcs → Mixed fcs gcs → Q (.ref l) H'
abbrev NSh : List Str := ["_law_feed_here", "_law_facts", "_law_found", "_law_fact_here", "_law_k", "_law_each"]
theorem scShuf : FnScope NSh ["_law_feed_here", "_law_facts"] (defScope sShuf) := ⟨rfl, rfl, rfl, by decide +kernel, rfl, by decide +kernel, by decide +kernel⟩
section
variable {P : Program} {w : World} {K : PySem.W.Frag} {mg : Str → Option Value} {base : Heap} {C : Addr}
theorem cal_shuf (D : Df K mg "_law_shuffled" sShuf ["_law_feed_here", "_law_facts"]) (cN : Cal P w K mg base "_law_next" 1 ["_law_feed_here", "_law_many"] spNext) (Y : Txt K mg C) : Cal P w K mg base "_law_shuffled" 2 ["_law_feed_here", "_law_facts"] spShuf := by
  obtain ⟨fN, fdN, GN, mN, kpN, bN⟩ := cN
  refine D.cal scShuf (fun vs H Q E h => ?_) (fun _ _ cdv A outer s H vs Q E hr h => ?_)
  · obtain ⟨_, _, _, _, _, rfl, _⟩ := h
    rfl
  · obtain ⟨q, fl, n, fcs, W, rfl, ⟨xs, hq, hx⟩, hn, L, hqf, h50, k⟩ := h
    have nd := scShuf.nd
    refine ⟨_, pss_cons (ps_set (i := 2) nd rfl (Or.inl rfl) (pe_lst pa_nil))
      (pss_cons (ps_for PassesOwn.never rfl (pi_list (pv 1)) (pg_name (i := 3) nd rfl (Or.inl rfl))
        (pss_one (ps_expr (pe_bm PySem.F.plainAttrs_list PySem.F.slot_list_insert PySem.F.type_list_insert mt_insert (pv 2) (pa_cons (pe_call GN hr (by rfl) mN kpN bN .nil pass0 (pa_cons (pv 0) (pa_cons (pe_op op_add (pe_callB call_len_seq (by rfl) Y.len PySem.boot_len (pa_cons (pv 2) pa_nil)) pe_int) pa_nil))) (pa_cons (pv 3) pa_nil))))))
      (pss_cons (ps_for PassesOwn.never rfl (pi_range1 rfl Y.range (pa_cons (pe_call GN hr (by rfl) mN kpN bN .nil pass0 (pa_cons (pv 0) (pa_cons pe_int pa_nil))) pa_nil)) (pg_name (i := 4) nd rfl (Or.inl rfl))
        (pss_cons (ps_set (i := 5) nd rfl (Or.inl rfl) (pe_tup (pa_cons pe_str (pa_cons ((pe_tup (pa_cons pe_str (pa_cons pe_int pa_nil)))) (pa_cons ((pe_tup (pa_cons pe_int (pa_cons (pe_tup pa_nil) pa_nil)))) (pa_cons ((pe_tup (pa_cons pe_int (pa_cons (pe_tup pa_nil) pa_nil)))) (pa_cons pe_int (pa_cons pe_int (pa_cons ((pe_tup (pa_cons (pe_op op_sub (pv 4) pe_int) (pa_cons (pe_tup pa_nil) pa_nil)))) pa_nil)))))))))
        (pss_one (ps_expr (pe_bm PySem.F.plainAttrs_list PySem.F.slot_list_insert PySem.F.type_list_insert mt_insert (pv 2) (pa_cons (pe_call GN hr (by rfl) mN kpN bN .nil pass0 (pa_cons (pv 0) (pa_cons (pe_op op_add (pe_callB call_len_seq (by rfl) Y.len PySem.boot_len (pa_cons (pv 2) pa_nil)) pe_int) pa_nil))) (pa_cons (pv 5) pa_nil)))))))
      (pss_one (ps_ret (pv 2))))), ?_⟩
    refine q_setE ?_
    refine ⟨Nat.zero_le _, fun l hl => ?_⟩
    have hql : q ≠ l := ne_of_none hq hl
    have hfl : fl ≠ l := ne_of_none L.at_ hl
    have s1 := same_upd (o := .lst []) hl
    have hl1 : (upd H l (.lst [])) l = some (.lst []) := upd_same
    generalize upd H l (.lst []) = H1 at s1 hl1 ⊢
    have hq1 := s1 _ _ hq
    -- one thing put in
    have ins : ∀ (σ : L2.St) (H' : Hp) (i3 : Nat) (gcs : List Fc) (x : Fc) (ys : List V) (m : Nat) (R : Hp → Prop), σ[0]? = some (some (.ref q)) → σ[2]? = some (some (.ref l)) → σ[i3]? = some (some (.ref x.a)) → H' q = some (.lst ys) → FdS ys m → m ≤ 900000 → Lst H' W l gcs → gcs.length ≤ 60 → FcOk H' W x →
        (∀ H'' y2 gcs', Fz2 q l H' H'' → H'' q = some (.lst y2) → FdS y2 (m + 1) → Lst H'' W l gcs' → gcs'.Perm (gcs ++ [x]) → R H'') →
        tBM K "list" (fun x vs H Q => ∃ (l : Addr) (xs : List V) (i : Int) (y : V), x = .ref l ∧ vs = [.int i, y] ∧ H l = some (.lst xs) ∧ xs.length < sizeLine ∧ 0 ≤ i ∧ i < 2 ^ 63 ∧ Q .non (upd H l (.lst (xs.take i.toNat ++ [y] ++ xs.drop i.toNat)))) (tVar 2)
          (tCons (tCall spNext [] E0 (tCons (tVar 0) (tCons (tOp (rI0 fun i j => V.int (i + j)) (tCB (fun xs H Q => ∃ p ys, xs = [V.ref p] ∧ (SqL K H p ys ∨ SqT K H p ys) ∧ Q (.int ys.length) H) (tCons (tVar 2) tNil)) (tC (.int 1))) tNil))) (tCons (tVar i3) tNil)) σ H' (fun _ H'' => R H'') := by
      intro σ H' i3 gcs x ys m R h0 h2 h3 hqH hys hm LH h60 hxo hR
      refine ⟨_, h2, .inl ⟨rfl, _, SqL.of LH.at_⟩, _, h0, _, h2, l, _, rfl, .inl (SqL.of LH.at_), _, 1, rfl, rfl, q, _, ys, m, rfl, ?_, ?_, hqH, hys, by omega, fun r y2 r0 r1 hy2 => ⟨_, h3, ?_⟩⟩
      · rw [List.length_map]; omega
      · rw [List.length_map]; omega
      rw [List.length_map] at r1
      have tk1 : Tk H' (upd H' q (.lst y2)) := Tk.upd hqH trivial
      have hl2 : (upd H' q (.lst y2)) l = some (.lst (gcs.map fun x => .ref x.a)) := by rw [upd_ne (Ne.symm hql)]; exact LH.at_
      have hq2 : (upd H' q (.lst y2)) q = some (.lst y2) := upd_same
      have z2 : Fz q H' (upd H' q (.lst y2)) := Fz.upd
      generalize upd H' q (.lst y2) = H2 at tk1 hl2 hq2 z2 ⊢
      refine ⟨l, _, r, .ref x.a, rfl, rfl, hl2, by rw [List.length_map]; exact small100 (by omega), r0, by omega, ?_⟩
      have tk2 : Tk H2 (upd H2 l (.lst ((gcs.map fun x => V.ref x.a).take r.toNat ++ [.ref x.a] ++ (gcs.map fun x => V.ref x.a).drop r.toNat))) := Tk.upd hl2 trivial
      refine hR _ y2 (gcs.take r.toNat ++ [x] ++ gcs.drop r.toNat) (fun c o h hc hcl => by rw [upd_ne hcl]; exact z2 _ _ h hc) (by rw [upd_ne hql]; exact hq2) hy2 ⟨by rw [upd_same, List.map_append, List.map_append, List.map_take, List.map_drop]; rfl, fun y hy => ?_⟩ (perm_ins _ _ _)
      have hy' := (perm_ins gcs x r.toNat).mem_iff.mp hy
      rcases List.mem_append.mp hy' with h | h
      · exact (LH.ok y h).tk (tk1.trans tk2)
      · rw [List.mem_singleton] at h
        subst h
        exact hxo.tk (tk1.trans tk2)
    refine q_seq ⟨_, rfl, fl, rfl, ⟨_, SqL.of (s1 _ _ L.at_)⟩, for_list (K := K) (a := fl) (xs := fcs.map fun x => .ref x.a)
      (fun i σ H' => ∃ gcs v3 ys, σ = [some (.ref q), some (.ref fl), some (.ref l), v3, none, none] ∧ Fz2 q l H1 H' ∧ H' q = some (.lst ys) ∧ FdS ys (n + i) ∧ Lst H' W l gcs ∧ gcs.Perm (fcs.take i))
      ⟨[], none, xs, rfl, fun c o h _ _ => h, hq1, hx, ⟨hl1, fun x h => (nomatch h)⟩, .refl _⟩ (fun i σ H' _ ⟨_, _, _, _, z, _⟩ => SqL.of (z _ _ (s1 _ _ L.at_) (Ne.symm hqf) hfl)) ?_ ?_⟩
    · rintro i x σ H' hi ⟨gcs, v3, ys, rfl, z, hqH, hys, LH, hp⟩
      rw [List.getElem?_map] at hi
      cases ex : fcs[i]? with
      | none => rw [ex] at hi; cases hi
      | some x =>
        rw [ex] at hi
        cases hi
        have hil : i < fcs.length := (List.getElem?_eq_some_iff.mp ex).1
        have hgl := hp.length_eq
        rw [List.length_take] at hgl
        have xo := (L.ok x (List.mem_of_getElem? ex)).tk ((Tk.of s1).trans (z.tk hq1 hl1))
        refine ins [some (.ref q), some (.ref fl), some (.ref l), some (.ref x.a), none, none] H' 3 gcs x ys (n + i) _ rfl rfl rfl hqH hys (by omega) LH (by omega) xo fun H'' y2 gcs' z2 hq2 hy2 L2 p2 => ?_
        refine ⟨gcs', _, y2, rfl, fun c o h hc hcl => z2 _ _ (z _ _ h hc hcl) hc hcl, hq2, hy2, L2, ?_⟩
        rw [take_succ_get ex]
        exact p2.trans (hp.append_right _)
    rintro σ H2 ⟨gcs0, v3, ys, rfl, z2, hq2, hy2, L2, hp2⟩
    rw [List.length_map] at hy2 hp2
    rw [List.take_of_length_le (Nat.le_refl _)] at hp2
    dsimp only
    refine q_seq ⟨_, rfl, q, 3, ys, _, rfl, by decide, by decide, hq2, hy2, by omega, fun r y3 r0 r3 hy3 => ?_⟩
    have hq3 : (upd H2 q (.lst y3)) q = some (.lst y3) := upd_same
    have L3 : Lst (upd H2 q (.lst y3)) W l gcs0 := ⟨by rw [upd_ne (Ne.symm hql)]; exact L2.at_, fun x hx => (L2.ok x hx).tk (Tk.upd hq2 trivial)⟩
    have z3 : Fz2 q l H1 (upd H2 q (.lst y3)) := fun c o h hc hcl => by rw [upd_ne hc]; exact z2 _ _ h hc hcl
    generalize upd H2 q (.lst y3) = H3 at hq3 L3 z3 ⊢
    refine ⟨r, rfl, by omega, by omega, ?_⟩
    refine for_range0 (n := r.toNat) (fun j σ H' => ∃ gcs es v3 v4 v5 zs, σ = [some (.ref q), some (.ref fl), some (.ref l), v3, v4, v5] ∧ Fz2 q l H1 H' ∧ H' q = some (.lst zs) ∧ FdS zs (n + fcs.length + 1 + j) ∧ Lst H' W l gcs ∧ (∀ x ∈ es, Fc.f x = none) ∧ gcs.Perm (fcs ++ es) ∧ es.length = j)
      ⟨gcs0, [], v3, none, none, y3, rfl, z3, hq3, hy3, L3, fun x h => (nomatch h), by rw [List.append_nil]; exact hp2, rfl⟩ ?_ ?_
    · rintro j σ H' hj ⟨gcs, es, v3, v4, v5, zs, rfl, z, hqH, hzs, LH, he, hp, hel⟩
      have hgl := hp.length_eq
      rw [List.length_append, hel] at hgl
      refine q_setE ?_
      refine mks_tup (mksa_cons (mks_of mI') (mksa_cons (mks_of mR) (mksa_cons (mks_of mF) (mksa_cons (mks_of mF) (mksa_cons (mks_of (mk_int _)) (mksa_cons (mks_of (mk_int _)) (mksa_cons (mks_tup (mksa_cons (mks_int fun H => val_I0 vn val_c) (mksa_cons (mks_of (mk_tup mka_nil (by decide))) mksa_nil)) (by show 2 ≤ 100; decide)) mksa_nil))))))) (by show 7 ≤ 100; decide) H' _ fun v H4 s4 kd => ?_
      obtain ⟨a, _, rfl, _⟩ := (id kd).tup_inv
      have LH4 : Lst H4 W l gcs := ⟨s4 _ _ LH.at_, fun x hx => (LH.ok x hx).tk (Tk.of s4)⟩
      refine ins [some (.ref q), some (.ref fl), some (.ref l), v3, some (.int (j : Int)), some (.ref a)] H4 5 gcs ⟨a, none⟩ zs _ _ rfl rfl rfl (s4 _ _ hqH) hzs (by omega) LH4 (by omega) ⟨_, kd⟩ fun H'' y2 gcs' z2' hq2' hy2' L2' p2' => ?_
      refine ⟨gcs', es ++ [⟨a, none⟩], _, _, _, y2, rfl, fun c o h hc hcl => z2' _ _ (s4 _ _ (z _ _ h hc hcl)) hc hcl, hq2', hy2', L2', fun x hx => ?_, ?_, by rw [List.length_append, hel]; rfl⟩
      · rcases List.mem_append.mp hx with h | h
        · exact he x h
        · rw [List.mem_singleton] at h; subst h; rfl
      · rw [← List.append_assoc]
        exact p2'.trans (hp.append_right _)
    · rintro σ H' ⟨gcs, es, v3, v4, v5, zs, rfl, z, hqH, hzs, LH, he, hp, hel⟩
      refine ⟨_, rfl, k l gcs H' (fun c o h hc => z _ _ (s1 _ _ h) hc fun e => by rw [e, hl] at h; cases h) ⟨zs, hqH, hzs.mono (by omega)⟩ hl LH ⟨es, he, hp, by omega⟩⟩
end
end K47
end
section
set_option Elab.async false
set_option maxRecDepth 100000
set_option maxHeartbeats 4000000
set_option autoImplicit false
/-! What the law's def needs. -/
namespace K47
open PySem L2 PySem.Spec PyProof.Rows
/-- facts as data -/
def pcK (e : Pc) : NK := .tup [e.k, .num e.m]
def fmK (f : Fm) : NK := .tup [.text "least", .tup [.num f.c, .tup (f.es.map pcK)]]
theorem kds_pcs {H : Hp} {W : List NK} : ∀ {es : List Pc}, (∀ e ∈ es, Rd H e.pa (.tup [.ref e.ta, .int e.m]) ∧ KD H e.k (.ref e.ta) ∧ e.k ∈ W) → KDs H (es.map pcK) (es.map fun e => V.ref e.pa)
  | [], _ => .nil
  | e :: es, h => by
    obtain ⟨h1, h2, _⟩ := h e List.mem_cons_self
    exact .cons (.tup h1 (.cons h2 (.cons (.int _) .nil))) (kds_pcs fun x hx => h x (List.mem_cons_of_mem _ hx))
theorem fact_key {H : Hp} {W : List NK} {x : Fc} (U : Uni W) (h : FcOk H W x) : ∃ k, KD H k (.ref x.a) ∧ tOk k = true ∧ k.depth ≤ 20 := by
  unfold FcOk at h
  split at h
  · rename_i f e
    refine ⟨fmK f, .tup h.1 (.cons (.text _) (.cons (.tup h.2.at_ (.cons (.int _) (.cons (.tup h.2.ps.rd (kds_pcs h.2.pc)) .nil))) .nil)), ?_, ?_⟩
    · have h1 : tOks (f.es.map pcK) = true := tOks_of _ fun a ha => by
        obtain ⟨e, he, rfl⟩ := List.mem_map.mp ha
        have := U.tok _ (h.2.pc e he).2.2
        simp only [pcK, tOk, tOks, this]; rfl
      simp only [fmK, tOk, tOks, h1]; decide +kernel
    · have h1 : NestedKey.depthAll (f.es.map pcK) ≤ 8 := depthAll_le _ fun a ha => by
        obtain ⟨e, he, rfl⟩ := List.mem_map.mp ha
        have := U.dep _ (h.2.pc e he).2.2
        simp only [pcK, NestedKey.depth, NestedKey.depthAll]; omega
      simp only [fmK, NestedKey.depth, NestedKey.depthAll]; omega
  · obtain ⟨k, kd⟩ := h
    exact ⟨_, kd, by simp only [eachK, tOk, tOks]; decide +kernel, by simp only [eachK, NestedKey.depth, NestedKey.depthAll]; decide⟩
theorem beqAll_self : ∀ ks : List NK, NestedKey.beqAll ks ks = true
  | [] => by simp [NestedKey.beqAll]
  | k :: ks => by simp only [NestedKey.beqAll, NestedKey.beq_self, beqAll_self ks]; rfl
/-- two lists of the same facts are the same -/
theorem same_lists {K : PySem.W.Frag} {H : Hp} {W : List NK} {fcs : List Fc} (U : Uni W) (h : ∀ x ∈ fcs, FcOk H W x) : ∃ ds : List NK, DpAll K H (fcs.map fun x => V.ref x.a) (NestedKey.datas ds) ∧ tOks ds = true ∧ NestedKey.depthAll ds ≤ 60 ∧ (!PyData.eqv (.list (NestedKey.datas ds)) (.list (NestedKey.datas ds))) = false := by
  have key : ∀ fcs : List Fc, (∀ x ∈ fcs, FcOk H W x) → ∃ ds : List NK, DpAll K H (fcs.map fun x => V.ref x.a) (NestedKey.datas ds) ∧ tOks ds = true ∧ NestedKey.depthAll ds ≤ 60 := fun fcs => by
    induction fcs with
    | nil => exact fun _ => ⟨[], .nil, rfl, Nat.zero_le _⟩
    | cons x fcs ih =>
      intro h
      obtain ⟨ds, h1, h2, h3⟩ := ih fun y hy => h y (List.mem_cons_of_mem _ hy)
      obtain ⟨k, k1, k2, k3⟩ := fact_key U (h x List.mem_cons_self)
      exact ⟨k :: ds, .cons (k1.dp _ _) h1, by simp only [tOks, k2, h2]; rfl, by simp only [NestedKey.depthAll]; omega⟩
  obtain ⟨ds, h1, h2, h3⟩ := key fcs h
  refine ⟨ds, h1, h2, h3, ?_⟩
  have e : PyData.eqv (.list (NestedKey.datas ds)) (.list (NestedKey.datas ds)) = PyData.eqvAll (NestedKey.datas ds) (NestedKey.datas ds) := by simp only [PyData.eqv]
  rw [e, eqv_datas, beqAll_self]; rfl
/-- promises that are not to be opened -/
@[irreducible] def iSum : Sp := spSummed
@[irreducible] def iNext : Sp := spNext
@[irreducible] def iRight (K : PySem.W.Frag) : Sp := spRight K
theorem iSum_eq : spSummed = iSum := by unfold iSum; rfl
theorem iNext_eq : spNext = iNext := by unfold iNext; rfl
theorem iRight_eq {K : PySem.W.Frag} : spRight K = iRight K := by unfold iRight; rfl
theorem sum_no {H : Hp} {W : List NK} {q : Addr} {fcs : List Fc} {Q : VK} {E : XK} (L : Lst H W q fcs) (U : Uni W) (h60 : fcs.length ≤ 60) (big : ∀ x ∈ fcs, ∀ f, x.f = some f → Big (10 ^ 11) f) (no : Holds fcs) (k : ∀ H', Same H H' → Q .non H') : iSum [.ref q] H Q E := by
  rw [← iSum_eq]
  exact ⟨q, fcs, W, rfl, L.at_, L.ok, U.len, U.cmp, h60, big, fun H' _ s => k H' s, fun _ _ _ R _ _ => (holds_no no R).elim⟩
theorem sum_yes {H : Hp} {W : List NK} {q : Addr} {fcs : List Fc} {Q : VK} {E : XK} (L : Lst H W q fcs) (U : Uni W) (h60 : fcs.length ≤ 60) (big : ∀ x ∈ fcs, ∀ f, x.f = some f → Big (10 ^ 11) f) (yes : HasRight fcs) (k : ∀ v H' qs, RightS fcs qs → SumAt H' v qs → Same H H' → Q v H') : iSum [.ref q] H Q E := by
  rw [← iSum_eq]
  exact ⟨q, fcs, W, rfl, L.at_, L.ok, U.len, U.cmp, h60, big, fun _ n _ => (yes.no n).elim, k⟩
theorem next_at {H : Hp} {q : Addr} {n : Nat} {many : Int} {Q : VK} {E : XK} (f : FdAt H q n) (hn : n ≤ 1000000) (h0 : 0 < many) (h1 : many < 1073741824) (k : ∀ r H', Fz q H H' → FdAt H' q (n + 1) → 0 ≤ r → r < many → Q (.int r) H') : iNext [.ref q, .int many] H Q E := by
  rw [← iNext_eq]
  obtain ⟨xs, hq, hx⟩ := f
  exact ⟨q, many, xs, n, rfl, h0, h1, hq, hx, hn, fun r ys r0 r1 hy => k r _ Fz.upd ⟨ys, upd_same, hy⟩ r0 r1⟩
theorem right_at {K : PySem.W.Frag} {H : Hp} {W : List NK} {q : Addr} {v : V} {fcs : List Fc} {qs : List (Nat × Int)} {Q : VK} {E : XK} (L : Lst H W q fcs) (U : Uni W) (h60 : fcs.length ≤ 60) (big : ∀ x ∈ fcs, ∀ f, x.f = some f → Big (10 ^ 11) f) (S : SumAt H v qs) (R : RightS fcs qs) (k : ∀ H', Same H H' → Q (.bl true) H') : iRight K [.ref q, v] H Q E := by
  rw [← iRight_eq]
  exact ⟨q, v, fcs, qs, W, rfl, L.at_, L.ok, U, h60, big, S, R, k⟩
theorem Lst.same {H H' : Hp} {W : List NK} {l : Addr} {fcs : List Fc} (h : Lst H W l fcs) (s : Same H H') : Lst H' W l fcs := ⟨s _ _ h.at_, fun x hx => (h.ok x hx).tk (Tk.of s)⟩
theorem Lst.fz {H H' : Hp} {W : List NK} {l q : Addr} {n : Nat} {fcs : List Fc} (h : Lst H W l fcs) (z : Fz q H H') (f : FdAt H q n) (hq : q ≠ l) : Lst H' W l fcs := ⟨z _ _ h.at_ (Ne.symm hq), fun x hx => (h.ok x hx).tk (z.tk f)⟩
/-- one fact of a number -/
theorem lst_fix {σ : L2.St} {H : Hp} {W : List NK} {tc : TE} {c : Int} {Q : VK} (hc : ∀ H, Val tc σ H (.int c)) (k : ∀ l x f H', Same H H' → Lst H' W l [x] → x.f = some f → f.c = c → f.es = [] → Q (.ref l) H') :
    tLst (tCons (tTup (tCons (tC (.str "least")) (tCons (tTup (tCons tc (tCons (tTupF tNil) tNil))) tNil))) tNil) σ H Q := by
  refine hc _ _ ⟨by show 0 ≤ sizeLine; decide, fun p o hp ho => ⟨by show 2 ≤ sizeLine; decide, fun fa hfa => ⟨by show 2 ≤ sizeLine; decide, fun a ha => ⟨by show 1 ≤ sizeLine; decide, fun l hl => ?_⟩⟩⟩⟩
  have s2 := same_upd (o := .frz o (.tup [])) hp
  have h2 : (upd H p (.frz o (.tup []))) p = some (.frz o (.tup [])) := upd_same
  generalize upd H p (.frz o (.tup [])) = H2 at s2 h2 hfa ha hl ⊢
  have s3 := same_upd (o := .tup [.int c, .ref p]) hfa
  have h3 : (upd H2 fa (.tup [.int c, .ref p])) fa = some (.tup [.int c, .ref p]) := upd_same
  generalize upd H2 fa (.tup [.int c, .ref p]) = H3 at s3 h3 ha hl ⊢
  have s4 := same_upd (o := .tup [.str "least", .ref fa]) ha
  have h4 : (upd H3 a (.tup [.str "least", .ref fa])) a = some (.tup [.str "least", .ref fa]) := upd_same
  generalize upd H3 a (.tup [.str "least", .ref fa]) = H4 at s4 h4 hl ⊢
  have s5 := same_upd (o := .lst [.ref a]) hl
  refine k l ⟨a, some ⟨fa, p, c, []⟩⟩ ⟨fa, p, c, []⟩ _ (s2.trans (s3.trans (s4.trans s5))) ⟨upd_same, fun x hx => ?_⟩ rfl rfl rfl
  rw [List.mem_singleton] at hx
  subst hx
  exact ⟨.inl (s5 _ _ h4), .inl (s5 _ _ (s4 _ _ h3)), ⟨o, s5 _ _ (s4 _ _ (s3 _ _ h2)), ho⟩, fun e he => (nomatch he), List.nodup_nil⟩
theorem big_one {x : Fc} {f : Fm} (e : x.f = some f) (hc : f.c.natAbs ≤ 1) (he : f.es = []) : ∀ y ∈ [x], ∀ g, y.f = some g → Big (10 ^ 11) g := fun y hy g eg => by
  rw [List.mem_singleton] at hy
  subst hy
  rw [e] at eg
  cases eg
  exact ⟨Nat.le_trans hc (by decide), fun p hp => by rw [he] at hp; cases hp⟩
theorem holds_nil : Holds [] := ⟨[], fun _ => 0, fun x h => (nomatch h)⟩
theorem holds_zero {x : Fc} {f : Fm} (e : x.f = some f) (hc : f.c = 0) : Holds [x] := ⟨[], fun _ => 0, fun y hy g eg => by
  rw [List.mem_singleton] at hy
  subst hy
  rw [e] at eg
  cases eg
  unfold val3
  rw [hc]; exact Int.le_refl _⟩
theorem right_one {x : Fc} {f : Fm} (e : x.f = some f) (hc : f.c = -1) (he : f.es = []) : HasRight [x] := by
  refine right_snoc (fcs := []) e (fun _ => 0) (fun _ => Int.le_refl _) 1 (by decide) (fun t => ?_) ?_
  · have : f.cf t = 0 := by unfold Fm.cf; rw [he]; rfl
    rw [this]; rfl
  · rw [hc]; decide
theorem q_join {A tz : L2.TS} {D : Ends} {σ : L2.St} {H : Hp} (J : L2.St → Hp → Prop) (k : ∀ σ' H', J σ' H' → tz D σ' H') (h : ∀ N : L2.St → Hp → Prop, (∀ σ' H', J σ' H' → N σ' H') → A { D with nx := N } σ H) : tSeq A tz D σ H := h _ k
end K47
end
section
set_option Elab.async false
set_option maxRecDepth 100000
set_option maxHeartbeats 4000000
set_option autoImplicit false
/-! The law's def. -/
namespace K47
open PySem L2 PySem.Spec PyProof.Rows
def spLaw (K : PySem.W.Frag) : Sp := fun vs H Q _ => ∃ (a : Addr) (ns : List Int), vs = [.ref a] ∧ SqL K H a (ns.map V.int) ∧ ns.length ≤ 63 ∧ ∀ H', Q (.bl true) H'
abbrev NLa : List Str := ["_law_script", "_law_k", "_law_feed_here", "_law_things_here", "_law_most", "_law_facts", "_law_handed"]
theorem scLaw : FnScope NLa ["_law_script"] (defScope sLaw) := ⟨rfl, rfl, rfl, by decide +kernel, rfl, by decide +kernel, by decide +kernel⟩
/-- a written list of one fact of a number -/
def One (te : TE) (c : Int) : Prop := ∀ σ H (Q : VK), (∀ l x f H', Same H H' → Lst H' N12 l [x] → x.f = some f → f.c = c → f.es = [] → Q (.ref l) H') → te σ H Q
theorem one_of {tc : TE} {c : Int} (hc : ∀ σ H, Val tc σ H (.int c)) : One (tLst (tCons (tTup (tCons (tC (.str "least")) (tCons (tTup (tCons tc (tCons (tTupF tNil) tNil))) tNil))) tNil)) c := fun σ _ _ k => lst_fix (W := N12) (hc σ) k
theorem t_none {te : TE} {σ : L2.St} {H : Hp} {Q : Bool → Hp → Prop} (o : One te 0) (k : ∀ H', Same H H' → Q false H') : tTest (tOp rNotN (tCall iSum [] E0 (tCons te tNil)) (tC .non)) σ H Q := by
  refine o _ _ _ fun l x f H2 s2 L2 e2 c2 es2 => ?_
  refine sum_no L2 uni12 (by show 1 ≤ 60; decide) (big_one e2 (by rw [c2]; decide) es2) (holds_zero e2 c2) fun H3 s3 => ⟨rfl, _, rfl, k H3 (s2.trans s3)⟩
theorem rightS_one {x y : Fc} {f g : Fm} {qs : List (Nat × Int)} (ex : x.f = some f) (ey : y.f = some g) (hc : f.c = g.c) (hf : f.es = []) (hg : g.es = []) (R : RightS [y] qs) : RightS [x] qs := by
  have e1 : ∀ k, (fcF [x] k).isSome = (fcF [y] k).isSome := fun k => by
    cases k with
    | zero => show x.f.isSome = y.f.isSome; rw [ex, ey]; rfl
    | succ k => rfl
  have e2 : ∀ t k, cfA [x] t k = cfA [y] t k := fun t k => by
    cases k with
    | zero =>
      have h1 : f.cf t = 0 := by unfold Fm.cf; rw [hf]; rfl
      have h2 : g.cf t = 0 := by unfold Fm.cf; rw [hg]; rfl
      show ((x.f).map (·.cf t)).getD 0 = ((y.f).map (·.cf t)).getD 0
      rw [ex, ey]; show f.cf t = g.cf t; rw [h1, h2]
    | succ k => rfl
  have e3 : ∀ k, cA [x] k = cA [y] k := fun k => by
    cases k with
    | zero =>
      show ((x.f).map (·.c)).getD 0 = ((y.f).map (·.c)).getD 0
      rw [ex, ey]; exact hc
    | succ k => rfl
  exact ⟨R.up, fun q hq => by rw [e1]; exact R.ok q hq, fun t => by rw [show cfA [x] t = cfA [y] t from funext (e2 t)]; exact R.th t, by rw [show cA [x] = cA [y] from funext e3]; exact R.cs⟩
theorem t_right {K : PySem.W.Frag} {te tf : TE} {σ : L2.St} {H : Hp} {Q : Bool → Hp → Prop} (o : One te (-1)) (o' : One tf (-1)) (k : ∀ H', Same H H' → Q false H') : tNot (tB (tCall (iRight K) [] E0 (tCons te (tCons (tCall iSum [] E0 (tCons tf tNil)) tNil)))) σ H Q := by
  refine o _ _ _ fun l x f H2 s2 L2 e2 c2 es2 => ?_
  refine o' _ _ _ fun l3 y g H3 s3 L3 e3 c3 es3 => ?_
  refine sum_yes L3 uni12 (by show 1 ≤ 60; decide) (big_one e3 (by rw [c3]; decide) es3) (right_one e3 c3 es3) fun v H4 qs R S s4 => ?_
  refine right_at (L2.same (s3.trans s4)) uni12 (by show 1 ≤ 60; decide) (big_one e2 (by rw [c2]; decide) es2) S (rightS_one e2 e3 (by rw [c2, c3]) es2 es3 R) fun H5 s5 => ?_
  exact ⟨_, rfl, k H5 (s2.trans (s3.trans (s4.trans s5)))⟩
theorem q_ifS {c : TT} {t u tz : L2.TS} {D : Ends} {σ : L2.St} {H : Hp} (h : c σ H fun b H1 => if b = true then t { D with nx := tz D } σ H1 else u { D with nx := tz D } σ H1) : tSeq (tIfS c t u) tz D σ H := h
theorem most_at {r : Int} (h0 : 0 ≤ r) (h3 : r < 3) : ∃ m : Int, atI [V.int 9, .int 9, .int ((10 : Int) ^ (6 : Int).toNat)] r = some (.int m) ∧ 0 ≤ m ∧ m ≤ 1000000 := by
  have : r = 0 ∨ r = 1 ∨ r = 2 := by omega
  rcases this with rfl | rfl | rfl
  · exact ⟨9, rfl, by decide, by decide⟩
  · exact ⟨9, rfl, by decide, by decide⟩
  · exact ⟨(10 : Int) ^ (6 : Int).toNat, rfl, by decide, by decide⟩
theorem FdAt.same {H H' : Hp} {q : Addr} {n : Nat} (f : FdAt H q n) (s : Same H H') : FdAt H' q n := let ⟨xs, e, x⟩ := f; ⟨xs, s _ _ e, x⟩
theorem FdAt.ne {H : Hp} {q l : Addr} {n : Nat} (f : FdAt H q n) (h : H l = none) : q ≠ l := let ⟨_, e, _⟩ := f; ne_of_none e h
theorem few10 {z : Int} (h : 0 ≤ z) : 0 ≤ (if z < 10 then z else 10) ∧ (if z < 10 then z else 10) ≤ 10 := by split <;> omega
/-- facts at hand, of which some sum comes below nought -/
structure Bears (q : Addr) (H0 : Hp) (H : Hp) (l : Addr) (fcs : List Fc) (W : List NK) (n : Nat) : Prop where
  fz : Fz q H0 H
  fd : FdAt H q n
  hn : n ≤ 3000
  un : Uni W
  ls : Lst H W l fcs
  ne : q ≠ l
  len : fcs.length ≤ 40
  big : AllBig fcs
  has : HasRight fcs
theorem Bears.fzed {q : Addr} {H0 H H' : Hp} {l : Addr} {fcs : List Fc} {W : List NK} {n m : Nat} (b : Bears q H0 H l fcs W n) (z : Fz q H H') (f : FdAt H' q m) (hm : m ≤ 3000) : Bears q H0 H' l fcs W m := ⟨b.fz.trans z, f, hm, b.un, b.ls.fz z b.fd b.ne, b.ne, b.len, b.big, b.has⟩
section
variable {P : Program} {w : World} {K : PySem.W.Frag} {mg : Str → Option Value} {base : Heap} {C : Addr}
theorem cal_law {f : Addr} {fd : FuncData} (F : Fun K "law" "law" sLaw f fd) (cS : Cal P w K mg base "summed" 5 ["facts"] spSummed) (cF : Cal P w K mg base "_law_feed" 1 ["_law_script", "_law_k"] (spFeed K)) (cN : Cal P w K mg base "_law_next" 1 ["_law_feed_here", "_law_many"] spNext)
    (cT : Cal P w K mg base "_law_things" 2 ["_law_feed_here"] spThings) (cR : CalG P w K mg base "_law_sum_right" 3 ["_law_facts", "_law_step"] (spRight K)) (cB : CalG P w K mg base "_law_borne" 3 ["_law_feed_here", "_law_things_here", "_law_most"] spBear)
    (cO : CalG P w K mg base "_law_borne_often" 3 ["_law_feed_here", "_law_things_here", "_law_most"] spBear) (cW : CalG P w K mg base "_law_borne_within" 2 ["_law_feed_here"] spWithin) (cH : CalG P w K mg base "_law_held" 3 ["_law_feed_here", "_law_things_here", "_law_most"] spHeld)
    (cM : Cal P w K mg base "_law_shuffled" 2 ["_law_feed_here", "_law_facts"] spShuf) (Y : Txt K mg C) : FnG P w K mg base 6 f fd ["_law_script"] (spLaw K) := by
  rw [iSum_eq] at cS
  rw [iNext_eq] at cN
  rw [iRight_eq] at cR
  obtain ⟨fS, fdS, GS, mSu, kpS, bS⟩ := cS
  obtain ⟨fF, fdF, GF, mFe, kpF, bF⟩ := cF
  obtain ⟨fN, fdN, GN, mN, kpN, bN⟩ := cN
  obtain ⟨fT, fdT, GT, mTh, kpT, bT⟩ := cT
  obtain ⟨fR, fdR, GR, mRi, kpR, bR⟩ := cR
  obtain ⟨fB, fdB, GB, mB, kpB, bB⟩ := cB
  obtain ⟨fO, fdO, GO, mO, kpO, bO⟩ := cO
  obtain ⟨fW, fdW, GW, mW, kpW, bW⟩ := cW
  obtain ⟨fH, fdH, GH, mH, kpH, bH⟩ := cH
  obtain ⟨fM, fdM, GM, mM, kpM, bM⟩ := cM
  refine Fun_okG F scLaw (fun vs H Q E h => ?_) (fun cdv A outer s H vs Q E gd hr h => ?_)
  · obtain ⟨_, _, rfl, _⟩ := h
    rfl
  · obtain ⟨a, ns, rfl, ha, h63, k⟩ := h
    have nd := scLaw.nd
    have hr1 : Room 1 _ := hr.mono (by decide)
    have hr2 : Room 2 _ := hr.mono (by decide)
    have hr3 : Room 3 _ := hr.mono (by decide)
    have hr5 : Room 5 _ := hr.mono (by decide)
    have hu := hr.units
    refine ⟨_, pss_cons (ps_if (PW.pt (pw_or (pt_cmpR op_notN1 (pe_call GS hr5 (by rfl) mSu kpS bS .nil pass0 (pa_cons (pe_lst pa_nil) pa_nil)) pe_non (nomark _))
        (pw_or1 (pt_cmpR op_notN1 (pe_call GS hr5 (by rfl) mSu kpS bS .nil pass0 (pa_cons (pe_lst (pa_cons (pe_tup (pa_cons pe_str (pa_cons (pe_tup (pa_cons pe_int (pa_cons (pe_tupF pa_nil) pa_nil))) pa_nil))) pa_nil)) pa_nil)) pe_non (nomark _))))) (pss_one (ps_ret pe_bl)) pss_nil)
      (pss_cons (ps_if (pt_not (pt_val (pe_callG GR gd hr3 (by rfl) mRi kpR bR (pa_cons (pe_lst (pa_cons (pe_tup (pa_cons pe_str (pa_cons (pe_tup (pa_cons (pe_un un_neg pe_int) (pa_cons (pe_tupF pa_nil) pa_nil))) pa_nil))) pa_nil))
          (pa_cons (pe_call GS hr5 (by rfl) mSu kpS bS .nil pass0 (pa_cons (pe_lst (pa_cons (pe_tup (pa_cons pe_str (pa_cons (pe_tup (pa_cons (pe_un un_neg pe_int) (pa_cons (pe_tupF pa_nil) pa_nil))) pa_nil))) pa_nil)) pa_nil)) pa_nil))))) (pss_one (ps_ret pe_bl)) pss_nil)
      (pss_cons (ps_for PassesOwn.never rfl (pi_range1 rfl Y.range (pa_cons (pe_op op_add pe_int (pe_callB (call_min2 rfl) (by rfl) Y.min (by decide +kernel) (pa_cons pe_int (pa_cons (pe_callB call_len_seq (by rfl) Y.len PySem.boot_len (pa_cons (pv 0) pa_nil)) pa_nil)))) pa_nil)) (pg_name (i := 1) nd rfl (Or.inl rfl))
        (pss_cons (ps_set (i := 2) nd rfl (Or.inl rfl) (pe_call GF hr1 (by rfl) mFe kpF bF .nil pass0 (pa_cons (pv 0) (pa_cons (pv 1) pa_nil))))
        (pss_cons (ps_set (i := 3) nd rfl (Or.inl rfl) (pe_call GT hr2 (by rfl) mTh kpT bT .nil pass0 (pa_cons (pv 2) pa_nil)))
        (pss_cons (ps_set (i := 4) nd rfl (Or.inl rfl) (pe_ix ix_list (pe_lst (pa_cons pe_int (pa_cons pe_int (pa_cons (pe_op op_pow pe_int pe_int) pa_nil)))) (pe_call GN hr1 (by rfl) mN kpN bN .nil pass0 (pa_cons (pv 2) (pa_cons pe_int pa_nil))) (fun _ _ => rfl)))
        (pss_cons (ps_set (i := 5) nd rfl (Or.inl rfl) (pe_callG GB gd hr3 (by rfl) mB kpB bB (pa_cons (pv 2) (pa_cons (pv 3) (pa_cons (pv 4) pa_nil)))))
        (pss_cons (ps_if (pt_cmpR op_eq (pe_call GN hr1 (by rfl) mN kpN bN .nil pass0 (pa_cons (pv 2) (pa_cons pe_int pa_nil))) pe_int (nomark _)) (pss_one (ps_set (i := 5) nd rfl (Or.inl rfl) (pe_callG GO gd hr3 (by rfl) mO kpO bO (pa_cons (pv 2) (pa_cons (pv 3) (pa_cons (pv 4) pa_nil)))))) pss_nil)
        (pss_cons (ps_if (pt_cmpR op_eq (pe_call GN hr1 (by rfl) mN kpN bN .nil pass0 (pa_cons (pv 2) (pa_cons pe_int pa_nil))) pe_int (nomark _)) (pss_one (ps_set (i := 5) nd rfl (Or.inl rfl) (pe_callG GW gd hr2 (by rfl) mW kpW bW (pa_cons (pv 2) pa_nil)))) pss_nil)
        (pss_cons (ps_set (i := 5) nd rfl (Or.inl rfl) (pe_call GM hr2 (by rfl) mM kpM bM .nil pass0 (pa_cons (pv 2) (pa_cons (pv 5) pa_nil))))
        (pss_cons (ps_set (i := 6) nd rfl (Or.inl rfl) (pe_callTy call_list_of (by rfl) Y.list (by decide +kernel) (pa_cons (pv 5) pa_nil)))
        (pss_cons (ps_if (PW.pt (pw_or (pt_not (pt_val (pe_callG GR gd hr3 (by rfl) mRi kpR bR (pa_cons (pv 5) (pa_cons (pe_call GS hr5 (by rfl) mSu kpS bS .nil pass0 (pa_cons (pv 6) pa_nil)) pa_nil))))) (pw_or1 (pt_cmpR (op_neD hu) (pv 6) (pv 5) (nomark _))))) (pss_one (ps_ret pe_bl)) pss_nil)
        (pss_cons (ps_if (pt_not (pt_val (pe_callG GR gd hr3 (by rfl) mRi kpR bR (pa_cons (pv 5) (pa_cons (pe_call GS hr5 (by rfl) mSu kpS bS .nil pass0 (pa_cons (pv 6) pa_nil)) pa_nil))))) (pss_one (ps_ret pe_bl)) pss_nil)
        (pss_cons (ps_set (i := 5) nd rfl (Or.inl rfl) (pe_call GM hr2 (by rfl) mM kpM bM .nil pass0 (pa_cons (pv 2) (pa_cons (pe_callG GH gd hr3 (by rfl) mH kpH bH (pa_cons (pv 2) (pa_cons (pv 3) (pa_cons (pv 4) pa_nil)))) pa_nil))))
        (pss_one (ps_if (pt_cmpR op_notN1 (pe_call GS hr5 (by rfl) mSu kpS bS .nil pass0 (pa_cons (pe_callTy call_list_of (by rfl) Y.list (by decide +kernel) (pa_cons (pv 5) pa_nil)) pa_nil)) pe_non (nomark _)) (pss_one (ps_ret pe_bl)) pss_nil))))))))))))))
      (pss_one (ps_ret pe_bl)))), ?_⟩
    -- the first two
    refine ⟨Nat.zero_le _, fun l0 hl0 => ?_⟩
    have s0 := same_upd (o := .lst []) hl0
    have L0 : Lst (upd H l0 (.lst [])) N12 l0 [] := ⟨upd_same, fun x h => (nomatch h)⟩
    generalize upd H l0 (.lst []) = H0 at s0 L0 ⊢
    refine sum_no L0 uni12 (by decide) (fun x h => (nomatch h)) holds_nil fun H1 s1 => ⟨rfl, _, rfl, ?_⟩
    refine iteF ?_
    have sA := s0.trans s1
    clear s0 s1
    refine t_none (one_of fun _ H => val_c) fun H2 s2 => ?_
    refine iteF ?_
    refine n_next ?_
    dsimp only
    have sB := sA.trans s2
    refine q_ifS ?_
    refine t_right (one_of fun _ H => val_un val_c) (one_of fun _ H => val_un val_c) fun H3 s3 => ?_
    refine iteF ?_
    have sC := sB.trans s3
    clear s2 s3 sA sB
    refine n_next ?_
    dsimp only
    have hlen : 0 ≤ (((ns.map V.int).length : Nat) : Int) := Int.natCast_nonneg _
    have h10 := few10 hlen
    refine ⟨_, rfl, a, _, rfl, .inl (sC.seq ha), 10, _, rfl, 1, _, rfl, rfl, ?_⟩
    generalize hz : (if (((ns.map V.int).length : Nat) : Int) < 10 then (((ns.map V.int).length : Nat) : Int) else 10) = z at h10 ⊢
    refine ⟨1 + z, rfl, by omega, by omega, ?_⟩
    refine for_range0 (n := (1 + z).toNat) (fun j σ H' => ∃ v1 v2 v3 v4 v5 v6, σ = [some (.ref a), v1, v2, v3, v4, v5, v6] ∧ Same H3 H') ⟨_, _, _, _, _, _, rfl, Same.refl _⟩ ?_ ?_
    · rintro j σ H4 hj ⟨v1, v2, v3, v4, v5, v6, rfl, s4⟩
      -- feed
      refine q_setE ?_
      refine ⟨_, rfl, _, rfl, a, ns, j, rfl, (sC.trans s4).seq ha, h63, fun q H5 nq s5 f5 => ?_⟩
      dsimp only
      -- things
      refine q_setE ?_
      refine ⟨_, rfl, q, 0, rfl, f5, Nat.zero_le _, fun tl ths H6 z6 f6 ntl htl _ len5 th6 => ?_⟩
      have qtl := f5.ne ntl
      -- most
      refine q_setE ?_
      refine ⟨10, 6, rfl, rfl, ⟨by decide, by decide, by decide⟩, by show 3 ≤ sizeLine; decide, fun bl hbl => ?_⟩
      have sB := same_upd (o := .lst [V.int 9, .int 9, .int ((10 : Int) ^ (6 : Int).toNat)]) hbl
      have hBl : (upd H6 bl (.lst [V.int 9, .int 9, .int ((10 : Int) ^ (6 : Int).toNat)])) bl = some (.lst [V.int 9, .int 9, .int ((10 : Int) ^ (6 : Int).toNat)]) := upd_same
      have qbl := f6.ne hbl
      generalize upd H6 bl (.lst [V.int 9, .int 9, .int ((10 : Int) ^ (6 : Int).toNat)]) = H7 at sB hBl ⊢
      refine ⟨_, rfl, next_at (f6.same sB) (by decide) (by decide) (by decide) fun r H8 z8 f8 r0 r3 => ?_⟩
      obtain ⟨m, hm, m0, m1⟩ := most_at r0 r3
      refine ⟨bl, _, r, .int m, rfl, rfl, SqL.of (z8 _ _ hBl (Ne.symm qbl)), hm, ?_⟩
      have th8 := th6.tk ((Tk.of sB).trans (z8.tk (f6.same sB)))
      have htl8 := z8 _ _ (sB _ _ htl) (Ne.symm qtl)
      have z58 : Fz q H5 H8 := z6.trans ((Fz.of sB).trans z8)
      clear hm hBl qbl z6 z8 sB hbl r0 r3
      dsimp only
      -- borne
      refine q_setE ?_
      refine ⟨_, rfl, _, rfl, _, rfl, q, tl, m, _, ths, U7, rfl, f8, by decide, htl8, qtl, th8, uni7, len5, m0, m1, fun l fcs H9 z9 f9 nl L9 len9 big9 right9 => ?_⟩
      have B9 : Bears q H8 H9 l fcs U7 _ := ⟨z9, f9, by decide, uni7, L9, f8.ne nl, by omega, big9, right9⟩
      clear z9 f9 nl L9 len9 big9 right9
      dsimp only
      -- borne_often
      refine q_join (fun σ' H' => ∃ l fcs W n, σ' = [some (.ref a), some (.int (j : Int)), some (.ref q), some (.ref tl), some (.int m), some (.ref l), v6] ∧ n ≤ 1000 ∧ Bears q H8 H' l fcs W n) ?_ fun N hN => ?_
      rotate_left
      · refine ⟨_, rfl, next_at B9.fd (by decide) (by decide) (by decide) fun r H10 z10 f10 r0 r2 => ⟨rfl, _, rfl, ite2 (fun _ => ?_) (fun _ => ?_)⟩⟩
        · have z810 := B9.fz.trans z10
          refine ⟨_, rfl, _, rfl, _, rfl, q, tl, m, _, ths, U7, rfl, f10, by decide, z810 _ _ htl8 (Ne.symm qtl), qtl, th8.tk (z810.tk f8), uni7, len5, m0, m1, fun l2 fcs2 H11 z11 f11 nl L11 len11 big11 right11 => ?_⟩
          exact hN _ _ ⟨l2, fcs2, U7, _, rfl, by decide, z810.trans z11, f11, by decide, uni7, L11, f10.ne nl, by omega, big11, right11⟩
        · exact n_next (hN _ _ ⟨l, fcs, U7, _, rfl, by decide, B9.fzed z10 f10 (by decide)⟩)
      clear B9
      rintro σ H9 ⟨l, fcs, W, n, rfl, hn, B9⟩
      -- borne_within
      refine q_join (fun σ' H' => ∃ l fcs W n, σ' = [some (.ref a), some (.int (j : Int)), some (.ref q), some (.ref tl), some (.int m), some (.ref l), v6] ∧ n ≤ 2000 ∧ Bears q H8 H' l fcs W n) ?_ fun N hN => ?_
      rotate_left
      · refine ⟨_, rfl, next_at B9.fd (by omega) (by decide) (by decide) fun r H10 z10 f10 r0 r2 => ⟨rfl, _, rfl, ite2 (fun _ => ?_) (fun _ => ?_)⟩⟩
        · have z810 := B9.fz.trans z10
          refine ⟨_, rfl, q, _, rfl, f10, by omega, fun l2 fcs2 H11 z11 f11 nl L11 len11 big11 right11 => ?_⟩
          exact hN _ _ ⟨l2, fcs2, N12, _, rfl, by omega, z810.trans z11, f11, by omega, uni12, L11, f10.ne nl, by omega, big11, right11⟩
        · exact n_next (hN _ _ ⟨l, fcs, W, _, rfl, by omega, B9.fzed z10 f10 (by omega)⟩)
      clear B9 hn
      rintro σ H9 ⟨l, fcs, W, n, rfl, hn, B9⟩
      -- shuffled
      refine q_setE ?_
      have len9 := B9.len
      refine ⟨_, rfl, _, rfl, q, l, n, fcs, W, rfl, B9.fd, by omega, B9.ls, B9.ne, by omega, fun l2 gcs H10 z10 f10 nl2 L10 mx => ?_⟩
      have ql2 := B9.fd.ne nl2
      have hr10 := mx.right B9.has
      have hb10 := mx.big B9.big
      have hl10 := mx.len
      have U := B9.un
      have z810 := B9.fz.trans z10
      have h60 : gcs.length ≤ 60 := by omega
      clear mx len9 hl10 nl2 B9
      dsimp only
      -- handed
      refine q_setE ?_
      refine ⟨_, rfl, l2, _, rfl, .inl (SqL.of L10.at_), fun l3 nl3 => ?_⟩
      have s11 := same_upd (o := .lst (gcs.map fun x => V.ref x.a)) nl3
      have hl3 : (upd H10 l3 (.lst (gcs.map fun x => V.ref x.a))) l3 = some (.lst (gcs.map fun x => V.ref x.a)) := upd_same
      generalize upd H10 l3 (.lst (gcs.map fun x => V.ref x.a)) = H11 at s11 hl3 ⊢
      have L11 := L10.same s11
      have M11 : Lst H11 W l3 gcs := ⟨hl3, L11.ok⟩
      dsimp only
      -- the first sum
      refine ⟨_, rfl, _, rfl, sum_yes M11 U h60 hb10 hr10 fun v H12 qs R S s12 => right_at (L11.same s12) U h60 hb10 S R fun H13 s13 => ⟨_, rfl, ?_⟩⟩
      refine iteF ?_
      have s1113 := s12.trans s13
      have L13 := L11.same s1113
      have M13 := M11.same s1113
      obtain ⟨ds, d1, d2, d3, d4⟩ := same_lists (K := K) U L13.ok
      refine ⟨_, rfl, _, rfl, _, _, .lst (SqL.of M13.at_) d1, .lst (SqL.of L13.at_) d1, shaped_datas d3 d2, shaped_datas d3 d2, ?_⟩
      rw [d4]
      refine ⟨_, rfl, iteF ?_⟩
      refine n_next ?_
      clear d1 d2 d3 d4 ds
      dsimp only
      -- the second sum
      refine ⟨_, rfl, _, rfl, sum_yes M13 U h60 hb10 hr10 fun v H14 qs R S s14 => right_at (L13.same s14) U h60 hb10 S R fun H15 s15 => ⟨_, rfl, ?_⟩⟩
      refine iteF (n_next ?_)
      have s1015 := s11.trans (s1113.trans (s14.trans s15))
      have f15 := f10.same s1015
      have z815 : Fz q H8 H15 := z810.trans (Fz.of s1015)
      clear M11 M13 L11 L13 L10 hl3 s11 s12 s13 s14 s1113 s1015 hb10 hr10 h60
      dsimp only
      -- held
      refine q_setE ?_
      refine ⟨_, rfl, _, rfl, _, rfl, _, rfl, q, tl, m, _, ths, U7, rfl, f15, by omega, z815 _ _ htl8 (Ne.symm qtl), qtl, th8.tk (z815.tk f8), uni7, len5, m0, m1, fun l4 fcs4 H16 z16 f16 nl4 L16 len16 big16 holds16 => ?_⟩
      refine ⟨q, l4, _, fcs4, U7, rfl, f16, by omega, L16, f15.ne nl4, by omega, fun l5 hcs H17 z17 f17 nl5 L17 mx => ?_⟩
      have hb17 := mx.big big16
      have hl17 := mx.len
      have hh17 := mx.holds holds16
      dsimp only
      refine ⟨_, rfl, l5, _, rfl, .inl (SqL.of L17.at_), fun l6 nl6 => ?_⟩
      have s18 := same_upd (o := .lst (hcs.map fun x => V.ref x.a)) nl6
      have hl6 : (upd H17 l6 (.lst (hcs.map fun x => V.ref x.a))) l6 = some (.lst (hcs.map fun x => V.ref x.a)) := upd_same
      generalize upd H17 l6 (.lst (hcs.map fun x => V.ref x.a)) = H18 at s18 hl6 ⊢
      refine sum_no (W := U7) (fcs := hcs) ⟨hl6, (L17.same s18).ok⟩ uni7 (by omega) hb17 hh17 fun H19 s19 => ⟨rfl, _, rfl, iteF ?_⟩
      refine n_next ?_
      refine ⟨_, _, _, _, _, _, rfl, fun c o h => ?_⟩
      have hc : c ≠ q := ne_of_none (s4 _ _ h) nq
      exact s19 _ _ (s18 _ _ (z17 _ _ (z16 _ _ (z815 _ _ (z58 _ _ (s5 _ _ (s4 _ _ h)) hc) hc) hc) hc))
    · rintro σ H4 ⟨v1, v2, v3, v4, v5, v6, rfl, s4⟩
      exact k _
end
end K47
end
section
set_option Elab.async false
set_option maxRecDepth 100000
set_option maxHeartbeats 4000000
set_option autoImplicit false
/-! What the top has left; the law's promise. -/
namespace K47
open PySem L2 PySem.Spec PyProof.Rows
theorem all_mk {P : Program} {w : World} {K : PySem.W.Frag} {h : Heap} {mg : Str → Option Value} {fa C : Addr} {f1 f2 f3 f4 f5 f6 f7 f8 f9 f10 f11 f12 f13 f14 f15 f16 f17 f18 f19 f20 f21 f22 f23 f24 : Addr} (X : K.In h) (G : h.Ns mainGlobals mg) (hfa : mg "law" = some (.ref fa))
    {od1 od2 od3 od4 od5 od6 od7 od8 od9 od10 od11 od12 od13 od14 od15 od16 od17 od18 od19 od20 od21 od22 od23 od24 an1 an2 an3 an4 an5 an6 an7 an8 an9 an10 an11 an12 an13 an14 an15 an16 an17 an18 an19 an20 an21 an22 an23 an24 : Option Addr} {sl1 sl2 sl3 sl4 sl5 sl6 sl7 sl8 sl9 sl10 sl11 sl12 sl13 sl14 sl15 sl16 sl17 sl18 sl19 sl20 sl21 sl22 sl23 sl24 : Array (Option Value)}
    {oc1 kV1 dc1 pm1 cd1 ct1 oc2 kV2 dc2 pm2 cd2 ct2 oc3 kV3 dc3 pm3 cd3 ct3 oc4 kV4 dc4 pm4 cd4 ct4 oc5 kV5 dc5 pm5 cd5 ct5 oc6 kV6 dc6 pm6 cd6 ct6 oc7 kV7 dc7 pm7 cd7 ct7 oc8 kV8 dc8 pm8 cd8 ct8 oc9 kV9 dc9 pm9 cd9 ct9 oc10 kV10 dc10 pm10 cd10 ct10 oc11 kV11 dc11 pm11 cd11 ct11 oc12 kV12 dc12 pm12 cd12 ct12 oc13 kV13 dc13 pm13 cd13 ct13 oc14 kV14 dc14 pm14 cd14 ct14 oc15 kV15 dc15 pm15 cd15 ct15 oc16 kV16 dc16 pm16 cd16 ct16 oc17 kV17 dc17 pm17 cd17 ct17 oc18 kV18 dc18 pm18 cd18 ct18 oc19 kV19 dc19 pm19 cd19 ct19 oc20 kV20 dc20 pm20 cd20 ct20 oc21 kV21 dc21 pm21 cd21 ct21 oc22 kV22 dc22 pm22 cd22 ct22 oc23 kV23 dc23 pm23 cd23 ct23 oc24 kV24 dc24 pm24 cd24 ct24 : Value}
    (aC : PySem.W.nsIn K mainGlobals "Table" = some (some (.ref C)))
    (a1 : PySem.W.nsIn K mainGlobals "divisor" = some (some (.ref f1))) (l1 : K.lookup f1 = some ⟨oc1, od1, .func (PySem.W.fnOf "divisor" "divisor" (defArgs sDiv) (defBody sDiv) (defScope sDiv) .none kV1 dc1 pm1 an1 cd1 ct1), sl1⟩) (c1 : PySem.W.codeIn K cd1 "divisor" = true) (k1 : PySem.W.keepIn K (.ref f1) = true)
    (a2 : PySem.W.nsIn K mainGlobals "shortened" = some (some (.ref f2))) (l2 : K.lookup f2 = some ⟨oc2, od2, .func (PySem.W.fnOf "shortened" "shortened" (defArgs sShort) (defBody sShort) (defScope sShort) .none kV2 dc2 pm2 an2 cd2 ct2), sl2⟩) (c2 : PySem.W.codeIn K cd2 "shortened" = true) (k2 : PySem.W.keepIn K (.ref f2) = true)
    (a3 : PySem.W.nsIn K mainGlobals "summed" = some (some (.ref f3))) (l3 : K.lookup f3 = some ⟨oc3, od3, .func (PySem.W.fnOf "summed" "summed" (defArgs sSummed) (defBody sSummed) (defScope sSummed) .none kV3 dc3 pm3 an3 cd3 ct3), sl3⟩) (c3 : PySem.W.codeIn K cd3 "summed" = true) (k3 : PySem.W.keepIn K (.ref f3) = true)
    (a4 : PySem.W.nsIn K mainGlobals "_law_feed" = some (some (.ref f4))) (l4 : K.lookup f4 = some ⟨oc4, od4, .func (PySem.W.fnOf "_law_feed" "_law_feed" (defArgs sFeed) (defBody sFeed) (defScope sFeed) .none kV4 dc4 pm4 an4 cd4 ct4), sl4⟩) (c4 : PySem.W.codeIn K cd4 "_law_feed" = true) (k4 : PySem.W.keepIn K (.ref f4) = true)
    (a5 : PySem.W.nsIn K mainGlobals "_law_next" = some (some (.ref f5))) (l5 : K.lookup f5 = some ⟨oc5, od5, .func (PySem.W.fnOf "_law_next" "_law_next" (defArgs sNext) (defBody sNext) (defScope sNext) .none kV5 dc5 pm5 an5 cd5 ct5), sl5⟩) (c5 : PySem.W.codeIn K cd5 "_law_next" = true) (k5 : PySem.W.keepIn K (.ref f5) = true)
    (a6 : PySem.W.nsIn K mainGlobals "_law_made" = some (some (.ref f6))) (l6 : K.lookup f6 = some ⟨oc6, od6, .func (PySem.W.fnOf "_law_made" "_law_made" (defArgs sMade) (defBody sMade) (defScope sMade) .none kV6 dc6 pm6 an6 cd6 ct6), sl6⟩) (c6 : PySem.W.codeIn K cd6 "_law_made" = true) (k6 : PySem.W.keepIn K (.ref f6) = true)
    (a7 : PySem.W.nsIn K mainGlobals "_law_sum" = some (some (.ref f7))) (l7 : K.lookup f7 = some ⟨oc7, od7, .func (PySem.W.fnOf "_law_sum" "_law_sum" (defArgs sSum) (defBody sSum) (defScope sSum) .none kV7 dc7 pm7 an7 cd7 ct7), sl7⟩) (c7 : PySem.W.codeIn K cd7 "_law_sum" = true) (k7 : PySem.W.keepIn K (.ref f7) = true)
    (a8 : PySem.W.nsIn K mainGlobals "_law_things" = some (some (.ref f8))) (l8 : K.lookup f8 = some ⟨oc8, od8, .func (PySem.W.fnOf "_law_things" "_law_things" (defArgs sThings) (defBody sThings) (defScope sThings) .none kV8 dc8 pm8 an8 cd8 ct8), sl8⟩) (c8 : PySem.W.codeIn K cd8 "_law_things" = true) (k8 : PySem.W.keepIn K (.ref f8) = true)
    (a9 : PySem.W.nsIn K mainGlobals "_law_linear" = some (some (.ref f9))) (l9 : K.lookup f9 = some ⟨oc9, od9, .func (PySem.W.fnOf "_law_linear" "_law_linear" (defArgs sLinear) (defBody sLinear) (defScope sLinear) .none kV9 dc9 pm9 an9 cd9 ct9), sl9⟩) (c9 : PySem.W.codeIn K cd9 "_law_linear" = true) (k9 : PySem.W.keepIn K (.ref f9) = true)
    (a10 : PySem.W.nsIn K mainGlobals "_law_sum_right" = some (some (.ref f10))) (l10 : K.lookup f10 = some ⟨oc10, od10, .func (PySem.W.fnOf "_law_sum_right" "_law_sum_right" (defArgs sRight) (defBody sRight) (defScope sRight) .none kV10 dc10 pm10 an10 cd10 ct10), sl10⟩) (c10 : PySem.W.codeIn K cd10 "_law_sum_right" = true) (k10 : PySem.W.keepIn K (.ref f10) = true)
    (a11 : PySem.W.nsIn K mainGlobals "_law_borne" = some (some (.ref f11))) (l11 : K.lookup f11 = some ⟨oc11, od11, .func (PySem.W.fnOf "_law_borne" "_law_borne" (defArgs sBorne) (defBody sBorne) (defScope sBorne) .none kV11 dc11 pm11 an11 cd11 ct11), sl11⟩) (c11 : PySem.W.codeIn K cd11 "_law_borne" = true) (k11 : PySem.W.keepIn K (.ref f11) = true)
    (a12 : PySem.W.nsIn K mainGlobals "_law_borne_often" = some (some (.ref f12))) (l12 : K.lookup f12 = some ⟨oc12, od12, .func (PySem.W.fnOf "_law_borne_often" "_law_borne_often" (defArgs sOften) (defBody sOften) (defScope sOften) .none kV12 dc12 pm12 an12 cd12 ct12), sl12⟩) (c12 : PySem.W.codeIn K cd12 "_law_borne_often" = true) (k12 : PySem.W.keepIn K (.ref f12) = true)
    (a13 : PySem.W.nsIn K mainGlobals "_law_borne_within" = some (some (.ref f13))) (l13 : K.lookup f13 = some ⟨oc13, od13, .func (PySem.W.fnOf "_law_borne_within" "_law_borne_within" (defArgs sWithin) (defBody sWithin) (defScope sWithin) .none kV13 dc13 pm13 an13 cd13 ct13), sl13⟩) (c13 : PySem.W.codeIn K cd13 "_law_borne_within" = true) (k13 : PySem.W.keepIn K (.ref f13) = true)
    (a14 : PySem.W.nsIn K mainGlobals "_law_held" = some (some (.ref f14))) (l14 : K.lookup f14 = some ⟨oc14, od14, .func (PySem.W.fnOf "_law_held" "_law_held" (defArgs sHeld) (defBody sHeld) (defScope sHeld) .none kV14 dc14 pm14 an14 cd14 ct14), sl14⟩) (c14 : PySem.W.codeIn K cd14 "_law_held" = true) (k14 : PySem.W.keepIn K (.ref f14) = true)
    (a15 : PySem.W.nsIn K mainGlobals "_law_shuffled" = some (some (.ref f15))) (l15 : K.lookup f15 = some ⟨oc15, od15, .func (PySem.W.fnOf "_law_shuffled" "_law_shuffled" (defArgs sShuf) (defBody sShuf) (defScope sShuf) .none kV15 dc15 pm15 an15 cd15 ct15), sl15⟩) (c15 : PySem.W.codeIn K cd15 "_law_shuffled" = true) (k15 : PySem.W.keepIn K (.ref f15) = true)
    (a16 : PySem.W.nsIn K mainGlobals "law" = some (some (.ref f16))) (l16 : K.lookup f16 = some ⟨oc16, od16, .func (PySem.W.fnOf "law" "law" (defArgs sLaw) (defBody sLaw) (defScope sLaw) .none kV16 dc16 pm16 an16 cd16 ct16), sl16⟩) (c16 : PySem.W.codeIn K cd16 "law" = true) (k16 : PySem.W.keepIn K (.ref f16) = true)
    (a17 : PySem.W.findIn K (.ref C) "__init__" = some (some (.ref f17))) (i17 : PySem.W.isFn K (.ref f17) = true) (l17 : K.lookup f17 = some ⟨oc17, od17, .func (PySem.W.fnOf "__init__" "Table.__init__" (defArgs sInit) (defBody sInit) (defScope sInit) .none kV17 dc17 pm17 an17 cd17 ct17), sl17⟩) (c17 : PySem.W.codeIn K cd17 "Table.__init__" = true) (k17 : PySem.W.keepIn K (.ref f17) = true)
    (a18 : PySem.W.findIn K (.ref C) "helpers" = some (some (.ref f18))) (i18 : PySem.W.isFn K (.ref f18) = true) (l18 : K.lookup f18 = some ⟨oc18, od18, .func (PySem.W.fnOf "helpers" "Table.helpers" (defArgs sHelp) (defBody sHelp) (defScope sHelp) .none kV18 dc18 pm18 an18 cd18 ct18), sl18⟩) (c18 : PySem.W.codeIn K cd18 "Table.helpers" = true) (k18 : PySem.W.keepIn K (.ref f18) = true)
    (a19 : PySem.W.findIn K (.ref C) "gain" = some (some (.ref f19))) (i19 : PySem.W.isFn K (.ref f19) = true) (l19 : K.lookup f19 = some ⟨oc19, od19, .func (PySem.W.fnOf "gain" "Table.gain" (defArgs sGain) (defBody sGain) (defScope sGain) .none kV19 dc19 pm19 an19 cd19 ct19), sl19⟩) (c19 : PySem.W.codeIn K cd19 "Table.gain" = true) (k19 : PySem.W.keepIn K (.ref f19) = true)
    (a20 : PySem.W.findIn K (.ref C) "entering" = some (some (.ref f20))) (i20 : PySem.W.isFn K (.ref f20) = true) (l20 : K.lookup f20 = some ⟨oc20, od20, .func (PySem.W.fnOf "entering" "Table.entering" (defArgs sEnter) (defBody sEnter) (defScope sEnter) .none kV20 dc20 pm20 an20 cd20 ct20), sl20⟩) (c20 : PySem.W.codeIn K cd20 "Table.entering" = true) (k20 : PySem.W.keepIn K (.ref f20) = true)
    (a21 : PySem.W.findIn K (.ref C) "leaving" = some (some (.ref f21))) (i21 : PySem.W.isFn K (.ref f21) = true) (l21 : K.lookup f21 = some ⟨oc21, od21, .func (PySem.W.fnOf "leaving" "Table.leaving" (defArgs sLeave) (defBody sLeave) (defScope sLeave) .none kV21 dc21 pm21 an21 cd21 ct21), sl21⟩) (c21 : PySem.W.codeIn K cd21 "Table.leaving" = true) (k21 : PySem.W.keepIn K (.ref f21) = true)
    (a22 : PySem.W.findIn K (.ref C) "goes_ahead" = some (some (.ref f22))) (i22 : PySem.W.isFn K (.ref f22) = true) (l22 : K.lookup f22 = some ⟨oc22, od22, .func (PySem.W.fnOf "goes_ahead" "Table.goes_ahead" (defArgs sAhead) (defBody sAhead) (defScope sAhead) .none kV22 dc22 pm22 an22 cd22 ct22), sl22⟩) (c22 : PySem.W.codeIn K cd22 "Table.goes_ahead" = true) (k22 : PySem.W.keepIn K (.ref f22) = true)
    (a23 : PySem.W.findIn K (.ref C) "turn" = some (some (.ref f23))) (i23 : PySem.W.isFn K (.ref f23) = true) (l23 : K.lookup f23 = some ⟨oc23, od23, .func (PySem.W.fnOf "turn" "Table.turn" (defArgs sTurn) (defBody sTurn) (defScope sTurn) .none kV23 dc23 pm23 an23 cd23 ct23), sl23⟩) (c23 : PySem.W.codeIn K cd23 "Table.turn" = true) (k23 : PySem.W.keepIn K (.ref f23) = true)
    (a24 : PySem.W.findIn K (.ref C) "solved" = some (some (.ref f24))) (i24 : PySem.W.isFn K (.ref f24) = true) (l24 : K.lookup f24 = some ⟨oc24, od24, .func (PySem.W.fnOf "solved" "Table.solved" (defArgs sSolve) (defBody sSolve) (defScope sSolve) .none kV24 dc24 pm24 an24 cd24 ct24), sl24⟩) (c24 : PySem.W.codeIn K cd24 "Table.solved" = true) (k24 : PySem.W.keepIn K (.ref f24) = true)
    (pg : PySem.W.plainGet K C Str.empty = true) (hd : PySem.W.hasDictIn K C = true) (po : PySem.W.plainOver K C = true) (sa : PySem.W.findIn K (.ref C) "__setattr__" = some (some (.builtin "object.__setattr__"))) (mk : PySem.W.makesIn K C = true) (kc : PySem.W.keepIn K (.ref C) = true)
    (nW : PySem.W.findIn K (.ref C) "width" = some none) (nR : PySem.W.findIn K (.ref C) "rows" = some none) (nB : PySem.W.findIn K (.ref C) "basis" = some none)
    (z1 : PySem.W.nsIn K mainGlobals "len" = some none) (z2 : PySem.W.nsIn K mainGlobals "abs" = some none) (z3 : PySem.W.nsIn K mainGlobals "sorted" = some none) (z4 : PySem.W.nsIn K mainGlobals "dict" = some none) (z5 : PySem.W.nsIn K mainGlobals "range" = some none) (z6 : PySem.W.nsIn K mainGlobals "any" = some none) (z7 : PySem.W.nsIn K mainGlobals "tuple" = some none) (z8 : PySem.W.nsIn K mainGlobals "repr" = some none) (z9 : PySem.W.nsIn K mainGlobals "isinstance" = some none) (z10 : PySem.W.nsIn K mainGlobals "int" = some none) (z11 : PySem.W.nsIn K mainGlobals "bool" = some none) (z12 : PySem.W.nsIn K mainGlobals "list" = some none) (z13 : PySem.W.nsIn K mainGlobals "sum" = some none) (z14 : PySem.W.nsIn K mainGlobals "min" = some none) :
    ∃ fd : FuncData, (∀ (s : Shared) (u : Value), BindsTo s fd ⟨[u], []⟩ [("_law_script", u)]) ∧ ∀ base : Heap, K.In base → base.Ns mainGlobals mg → FnG P w K mg base 6 fa fd ["_law_script"] (spLaw K) := by
  have e := hfa.symm.trans (PySem.W.mg_of X G a16)
  cases e
  have Y : Txt K mg C := { mkC := mk, kpC := kc, len := PySem.W.mg_none_of X G z1, abs := PySem.W.mg_none_of X G z2, sorted := PySem.W.mg_none_of X G z3, dict := PySem.W.mg_none_of X G z4, range := PySem.W.mg_none_of X G z5, any := PySem.W.mg_none_of X G z6, tuple := PySem.W.mg_none_of X G z7, repr := PySem.W.mg_none_of X G z8, isinstance := PySem.W.mg_none_of X G z9, int := PySem.W.mg_none_of X G z10, bool := PySem.W.mg_none_of X G z11, list := PySem.W.mg_none_of X G z12, sum := PySem.W.mg_none_of X G z13, min := PySem.W.mg_none_of X G z14, cl := ⟨pg, hd, po, sa⟩, nW := nW, nR := nR, nB := nB, mgC := PySem.W.mg_of X G aC }
  have F1 := fun_mk (st := sDiv) l1 c1 k1
  have D1 : Df K mg "divisor" sDiv ["one", "other"] := ⟨_, _, F1, PySem.W.mg_of X G a1, F1.binds (ps := ["one", "other"]) fun _ _ _ _ _ _ us hl => match us, hl with | [_, _], _ => rfl⟩
  have F2 := fun_mk (st := sShort) l2 c2 k2
  have D2 : Df K mg "shortened" sShort ["row"] := ⟨_, _, F2, PySem.W.mg_of X G a2, F2.binds (ps := ["row"]) fun _ _ _ _ _ _ us hl => match us, hl with | [_], _ => rfl⟩
  have F3 := fun_mk (st := sSummed) l3 c3 k3
  have D3 : Df K mg "summed" sSummed ["facts"] := ⟨_, _, F3, PySem.W.mg_of X G a3, F3.binds (ps := ["facts"]) fun _ _ _ _ _ _ us hl => match us, hl with | [_], _ => rfl⟩
  have F4 := fun_mk (st := sFeed) l4 c4 k4
  have D4 : Df K mg "_law_feed" sFeed ["_law_script", "_law_k"] := ⟨_, _, F4, PySem.W.mg_of X G a4, F4.binds (ps := ["_law_script", "_law_k"]) fun _ _ _ _ _ _ us hl => match us, hl with | [_, _], _ => rfl⟩
  have F5 := fun_mk (st := sNext) l5 c5 k5
  have D5 : Df K mg "_law_next" sNext ["_law_feed_here", "_law_many"] := ⟨_, _, F5, PySem.W.mg_of X G a5, F5.binds (ps := ["_law_feed_here", "_law_many"]) fun _ _ _ _ _ _ us hl => match us, hl with | [_, _], _ => rfl⟩
  have F6 := fun_mk (st := sMade) l6 c6 k6
  have D6 : Df K mg "_law_made" sMade ["_law_number", "_law_pairs"] := ⟨_, _, F6, PySem.W.mg_of X G a6, F6.binds (ps := ["_law_number", "_law_pairs"]) fun _ _ _ _ _ _ us hl => match us, hl with | [_, _], _ => rfl⟩
  have F7 := fun_mk (st := sSum) l7 c7 k7
  have D7 : Df K mg "_law_sum" sSum ["_law_one_here", "_law_other", "_law_many"] := ⟨_, _, F7, PySem.W.mg_of X G a7, F7.binds (ps := ["_law_one_here", "_law_other", "_law_many"]) fun _ _ _ _ _ _ us hl => match us, hl with | [_, _, _], _ => rfl⟩
  have F8 := fun_mk (st := sThings) l8 c8 k8
  have D8 : Df K mg "_law_things" sThings ["_law_feed_here"] := ⟨_, _, F8, PySem.W.mg_of X G a8, F8.binds (ps := ["_law_feed_here"]) fun _ _ _ _ _ _ us hl => match us, hl with | [_], _ => rfl⟩
  have F9 := fun_mk (st := sLinear) l9 c9 k9
  have D9 : Df K mg "_law_linear" sLinear ["_law_feed_here", "_law_things_here", "_law_most"] := ⟨_, _, F9, PySem.W.mg_of X G a9, F9.binds (ps := ["_law_feed_here", "_law_things_here", "_law_most"]) fun _ _ _ _ _ _ us hl => match us, hl with | [_, _, _], _ => rfl⟩
  have F10 := fun_mk (st := sRight) l10 c10 k10
  have D10 : Df K mg "_law_sum_right" sRight ["_law_facts", "_law_step"] := ⟨_, _, F10, PySem.W.mg_of X G a10, F10.binds (ps := ["_law_facts", "_law_step"]) fun _ _ _ _ _ _ us hl => match us, hl with | [_, _], _ => rfl⟩
  have F11 := fun_mk (st := sBorne) l11 c11 k11
  have D11 : Df K mg "_law_borne" sBorne ["_law_feed_here", "_law_things_here", "_law_most"] := ⟨_, _, F11, PySem.W.mg_of X G a11, F11.binds (ps := ["_law_feed_here", "_law_things_here", "_law_most"]) fun _ _ _ _ _ _ us hl => match us, hl with | [_, _, _], _ => rfl⟩
  have F12 := fun_mk (st := sOften) l12 c12 k12
  have D12 : Df K mg "_law_borne_often" sOften ["_law_feed_here", "_law_things_here", "_law_most"] := ⟨_, _, F12, PySem.W.mg_of X G a12, F12.binds (ps := ["_law_feed_here", "_law_things_here", "_law_most"]) fun _ _ _ _ _ _ us hl => match us, hl with | [_, _, _], _ => rfl⟩
  have F13 := fun_mk (st := sWithin) l13 c13 k13
  have D13 : Df K mg "_law_borne_within" sWithin ["_law_feed_here"] := ⟨_, _, F13, PySem.W.mg_of X G a13, F13.binds (ps := ["_law_feed_here"]) fun _ _ _ _ _ _ us hl => match us, hl with | [_], _ => rfl⟩
  have F14 := fun_mk (st := sHeld) l14 c14 k14
  have D14 : Df K mg "_law_held" sHeld ["_law_feed_here", "_law_things_here", "_law_most"] := ⟨_, _, F14, PySem.W.mg_of X G a14, F14.binds (ps := ["_law_feed_here", "_law_things_here", "_law_most"]) fun _ _ _ _ _ _ us hl => match us, hl with | [_, _, _], _ => rfl⟩
  have F15 := fun_mk (st := sShuf) l15 c15 k15
  have D15 : Df K mg "_law_shuffled" sShuf ["_law_feed_here", "_law_facts"] := ⟨_, _, F15, PySem.W.mg_of X G a15, F15.binds (ps := ["_law_feed_here", "_law_facts"]) fun _ _ _ _ _ _ us hl => match us, hl with | [_, _], _ => rfl⟩
  have F16 := fun_mk (st := sLaw) l16 c16 k16
  have F17 := fun_mk (st := sInit) l17 c17 k17
  have D17 : DfM K C "__init__" "Table.__init__" sInit ["self", "forms"] := ⟨_, _, F17, ⟨a17, i17, k17⟩, F17.binds (ps := ["self", "forms"]) fun _ _ _ _ _ _ us hl => match us, hl with | [_, _], _ => rfl⟩
  have F18 := fun_mk (st := sHelp) l18 c18 k18
  have D18 : DfM K C "helpers" "Table.helpers" sHelp ["self"] := ⟨_, _, F18, ⟨a18, i18, k18⟩, F18.binds (ps := ["self"]) fun _ _ _ _ _ _ us hl => match us, hl with | [_], _ => rfl⟩
  have F19 := fun_mk (st := sGain) l19 c19 k19
  have D19 : DfM K C "gain" "Table.gain" sGain ["self", "fact"] := ⟨_, _, F19, ⟨a19, i19, k19⟩, F19.binds (ps := ["self", "fact"]) fun _ _ _ _ _ _ us hl => match us, hl with | [_, _], _ => rfl⟩
  have F20 := fun_mk (st := sEnter) l20 c20 k20
  have D20 : DfM K C "entering" "Table.entering" sEnter ["self"] := ⟨_, _, F20, ⟨a20, i20, k20⟩, F20.binds (ps := ["self"]) fun _ _ _ _ _ _ us hl => match us, hl with | [_], _ => rfl⟩
  have F21 := fun_mk (st := sLeave) l21 c21 k21
  have D21 : DfM K C "leaving" "Table.leaving" sLeave ["self", "fact"] := ⟨_, _, F21, ⟨a21, i21, k21⟩, F21.binds (ps := ["self", "fact"]) fun _ _ _ _ _ _ us hl => match us, hl with | [_, _], _ => rfl⟩
  have F22 := fun_mk (st := sAhead) l22 c22 k22
  have D22 : DfM K C "goes_ahead" "Table.goes_ahead" sAhead ["self", "one", "other", "fact"] := ⟨_, _, F22, ⟨a22, i22, k22⟩, F22.binds (ps := ["self", "one", "other", "fact"]) fun _ _ _ _ _ _ us hl => match us, hl with | [_, _, _, _], _ => rfl⟩
  have F23 := fun_mk (st := sTurn) l23 c23 k23
  have D23 : DfM K C "turn" "Table.turn" sTurn ["self", "place", "fact"] := ⟨_, _, F23, ⟨a23, i23, k23⟩, F23.binds (ps := ["self", "place", "fact"]) fun _ _ _ _ _ _ us hl => match us, hl with | [_, _, _], _ => rfl⟩
  have F24 := fun_mk (st := sSolve) l24 c24 k24
  have D24 : DfM K C "solved" "Table.solved" sSolve ["self"] := ⟨_, _, F24, ⟨a24, i24, k24⟩, F24.binds (ps := ["self"]) fun _ _ _ _ _ _ us hl => match us, hl with | [_], _ => rfl⟩
  refine ⟨PySem.W.fnOf "law" "law" (defArgs sLaw) (defBody sLaw) (defScope sLaw) .none kV16 dc16 pm16 an16 cd16 ct16, fun s v => .of_eq rfl, fun base _ _ => ?_⟩
  have cD := cal_div (P := P) (w := w) (base := base) D1 Y
  have cS := cal_short D2 cD Y
  have cI := cal_init (P := P) (w := w) (base := base) D17 Y
  have cH := cal_help (P := P) (w := w) (base := base) D18 Y
  have cG := cal_gain D19 cH cD Y
  have cE := cal_enter D20 cG Y
  have cA := cal_ahead (P := P) (w := w) (base := base) D22 Y
  have cL := cal_leave D21 cA Y
  have cT := cal_turn D23 cS Y
  have cV := cal_solve D24 cE cL cT cH cD Y
  have cU := cal_summed D3 cI cV Y
  have gF := cal_feed (P := P) (w := w) (base := base) D4 Y
  have gN := cal_next (P := P) (w := w) (base := base) D5
  have gM := cal_made (P := P) (w := w) (base := base) D6 Y
  have gS := cal_sum D7 gM Y
  have gT := cal_things D8 gN Y
  have gL := cal_linear D9 gN gM
  have gR := cal_right D10 gS Y
  have gB := cal_borne D11 gN gL gS Y
  have gO := cal_often D12 gN gL gS gM Y
  have gW := cal_within D13 gN gM Y
  have gH := cal_held D14 gN gL Y
  have gX := cal_shuf D15 gN Y
  exact cal_law F16 cU gF gN gT gR gB gO gW gH gX Y
end K47
end
open PySem PySem.W PyProof.Rows
set_option Elab.async false
set_option maxRecDepth 100000 in
set_option maxHeartbeats 0 in
theorem PySem.Challenge.cw_everyfork_k47_whole_sums_found_holds : PySem.Challenge.rw_everyfork_k47_whole_sums_found.Holds := by
  w_on; o_law; k_head; (case hw => w_witness2)
  k_fill
  refine K47.walk_ofG (l := PySem.Challenge.rw_everyfork_k47_whole_sums_found) (n := 63) (k := 6) (x := "_law_script") (sp := fun K => K47.spLaw K) rfl (by decide) rfl ⟨rfl, by decide, by decide⟩ (fun w h Y => PySem.W.kIn_of Y) ?F (fun _ _ a ns hl _ hS => ⟨a, ns, rfl, hS, hl, fun _ => rfl⟩)
  case F =>
    intro w mg fa h KX G hmg
    refine' K47.all_mk KX G hmg ?aC ?a1 ?l1 ?c1 ?k1 ?a2 ?l2 ?c2 ?k2 ?a3 ?l3 ?c3 ?k3 ?a4 ?l4 ?c4 ?k4 ?a5 ?l5 ?c5 ?k5 ?a6 ?l6 ?c6 ?k6 ?a7 ?l7 ?c7 ?k7 ?a8 ?l8 ?c8 ?k8 ?a9 ?l9 ?c9 ?k9 ?a10 ?l10 ?c10 ?k10 ?a11 ?l11 ?c11 ?k11 ?a12 ?l12 ?c12 ?k12 ?a13 ?l13 ?c13 ?k13 ?a14 ?l14 ?c14 ?k14 ?a15 ?l15 ?c15 ?k15 ?a16 ?l16 ?c16 ?k16 ?a17 ?i17 ?l17 ?c17 ?k17 ?a18 ?i18 ?l18 ?c18 ?k18 ?a19 ?i19 ?l19 ?c19 ?k19 ?a20 ?i20 ?l20 ?c20 ?k20 ?a21 ?i21 ?l21 ?c21 ?k21 ?a22 ?i22 ?l22 ?c22 ?k22 ?a23 ?i23 ?l23 ?c23 ?k23 ?a24 ?i24 ?l24 ?c24 ?k24 ?pg ?hd ?po ?sa ?mk ?kc ?nW ?nR ?nB ?z1 ?z2 ?z3 ?z4 ?z5 ?z6 ?z7 ?z8 ?z9 ?z10 ?z11 ?z12 ?z13 ?z14
    (case aC => k_is)
    (case a1 => k_is)
    (case l1 => k_is)
    (case c1 => k_is)
    (case k1 => k_is)
    (case a2 => k_is)
    (case l2 => k_is)
    (case c2 => k_is)
    (case k2 => k_is)
    (case a3 => k_is)
    (case l3 => k_is)
    (case c3 => k_is)
    (case k3 => k_is)
    (case a4 => k_is)
    (case l4 => k_is)
    (case c4 => k_is)
    (case k4 => k_is)
    (case a5 => k_is)
    (case l5 => k_is)
    (case c5 => k_is)
    (case k5 => k_is)
    (case a6 => k_is)
    (case l6 => k_is)
    (case c6 => k_is)
    (case k6 => k_is)
    (case a7 => k_is)
    (case l7 => k_is)
    (case c7 => k_is)
    (case k7 => k_is)
    (case a8 => k_is)
    (case l8 => k_is)
    (case c8 => k_is)
    (case k8 => k_is)
    (case a9 => k_is)
    (case l9 => k_is)
    (case c9 => k_is)
    (case k9 => k_is)
    (case a10 => k_is)
    (case l10 => k_is)
    (case c10 => k_is)
    (case k10 => k_is)
    (case a11 => k_is)
    (case l11 => k_is)
    (case c11 => k_is)
    (case k11 => k_is)
    (case a12 => k_is)
    (case l12 => k_is)
    (case c12 => k_is)
    (case k12 => k_is)
    (case a13 => k_is)
    (case l13 => k_is)
    (case c13 => k_is)
    (case k13 => k_is)
    (case a14 => k_is)
    (case l14 => k_is)
    (case c14 => k_is)
    (case k14 => k_is)
    (case a15 => k_is)
    (case l15 => k_is)
    (case c15 => k_is)
    (case k15 => k_is)
    (case a16 => k_is)
    (case l16 => k_is)
    (case c16 => k_is)
    (case k16 => k_is)
    (case a17 => k_is)
    (case i17 => k_is)
    (case l17 => k_is)
    (case c17 => k_is)
    (case k17 => k_is)
    (case a18 => k_is)
    (case i18 => k_is)
    (case l18 => k_is)
    (case c18 => k_is)
    (case k18 => k_is)
    (case a19 => k_is)
    (case i19 => k_is)
    (case l19 => k_is)
    (case c19 => k_is)
    (case k19 => k_is)
    (case a20 => k_is)
    (case i20 => k_is)
    (case l20 => k_is)
    (case c20 => k_is)
    (case k20 => k_is)
    (case a21 => k_is)
    (case i21 => k_is)
    (case l21 => k_is)
    (case c21 => k_is)
    (case k21 => k_is)
    (case a22 => k_is)
    (case i22 => k_is)
    (case l22 => k_is)
    (case c22 => k_is)
    (case k22 => k_is)
    (case a23 => k_is)
    (case i23 => k_is)
    (case l23 => k_is)
    (case c23 => k_is)
    (case k23 => k_is)
    (case a24 => k_is)
    (case i24 => k_is)
    (case l24 => k_is)
    (case c24 => k_is)
    (case k24 => k_is)
    (case pg => k_is)
    (case hd => k_is)
    (case po => k_is)
    (case sa => k_is)
    (case mk => k_is)
    (case kc => k_is)
    (case nW => k_is)
    (case nR => k_is)
    (case nB => k_is)
    (case z1 => k_is)
    (case z2 => k_is)
    (case z3 => k_is)
    (case z4 => k_is)
    (case z5 => k_is)
    (case z6 => k_is)
    (case z7 => k_is)
    (case z8 => k_is)
    (case z9 => k_is)
    (case z10 => k_is)
    (case z11 => k_is)
    (case z12 => k_is)
    (case z13 => k_is)
    (case z14 => k_is)
