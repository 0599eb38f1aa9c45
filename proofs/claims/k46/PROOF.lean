import PyProof.Rows.All
import Wide.All
import OpenK.AllK
import Wide.FinOn
import HandS.ForMost
import HandS.Wide
import HandS.Defaults
import HandS.Style
import HandS.Flow
import HandS.NoneIn
import HandS.IsInst
import HandS.TupAny
import HandS.TupMul
import HandS.StrMore
import HandS.Walk
import HandS.Zip
import KE.GoesEnum
import KE.DataMinMax
import KE.DataMinKey
import HandS.SortKw
import HandS.Star
import HandS.TupSets
import PyProof.ReprRoads
import PyProof.ReprLen
import HandS.ExcSuper
import HandS.ExcField
import HandS.TryMany
import KE.KSuper
import PyProof.Rows.RowBridgeG
import PyProof.GenQ
import HandS.GenCall
import HandS.GenList
import PyProof.SumWalk
import PyProof.WalksMore
import HandS.ExcOwn
import HandS.ForExc
import KE.KStateDown
import HandS.Ends
import HandS.HeadEnd
import HandS.Head0
import HandS.Head1
import HandS.Head2
import HandS.HeadHook1
import HandS.HeadHook2
import PySem.Challenge.RW_serialhouse_k46_whole_even_and_least_tre
set_option Elab.async false
set_option linter.all false
section
namespace SM
/-! ### sums -/
def sm : Nat → (Nat → Int) → Int
  | 0, _ => 0
  | n + 1, f => sm n f + f n
theorem sm_congr {n : Nat} {f g : Nat → Int} (h : ∀ i, i < n → f i = g i) : sm n f = sm n g := by
  induction n with
  | zero => rfl
  | succ n ih => simp only [sm]; rw [ih fun i hi => h i (by omega), h n (by omega)]
theorem sm_zero {n : Nat} {f : Nat → Int} (h : ∀ i, i < n → f i = 0) : sm n f = 0 := by
  induction n with
  | zero => rfl
  | succ n ih => simp only [sm]; rw [ih fun i hi => h i (by omega), h n (by omega)]; rfl
theorem sm_add (n : Nat) (f g : Nat → Int) : sm n (fun i => f i + g i) = sm n f + sm n g := by
  induction n with
  | zero => rfl
  | succ n ih => simp only [sm]; omega
theorem sm_sub (n : Nat) (f g : Nat → Int) : sm n (fun i => f i - g i) = sm n f - sm n g := by
  induction n with
  | zero => rfl
  | succ n ih => simp only [sm]; omega
theorem sm_mul (n : Nat) (a : Int) (f : Nat → Int) : sm n (fun i => a * f i) = a * sm n f := by
  induction n with
  | zero => simp [sm]
  | succ n ih => simp only [sm]; rw [ih, Int.mul_add]
theorem sm_lin {n : Nat} {f g h : Nat → Int} (a b : Int) (e : ∀ i, i < n → f i = a * g i + b * h i) : sm n f = a * sm n g + b * sm n h := by
  rw [sm_congr e, sm_add, sm_mul, sm_mul]
theorem sm_one {n : Nat} {f : Nat → Int} {a : Nat} (ha : a < n) (h : ∀ i, i < n → i ≠ a → f i = 0) : sm n f = f a := by
  induction n with
  | zero => omega
  | succ n ih =>
    simp only [sm]
    by_cases e : a = n
    · subst e
      rw [sm_zero fun i hi => h i (by omega) (by omega)]; omega
    · rw [ih (by omega) fun i hi hn => h i (by omega) hn, h n (by omega) (fun z => e z.symm)]; omega
theorem sm_two {n : Nat} {f : Nat → Int} {a b : Nat} (ha : a < n) (hb : b < n) (hab : a ≠ b) (h : ∀ i, i < n → i ≠ a → i ≠ b → f i = 0) : sm n f = f a + f b := by
  have e : sm n f = sm n (fun i => (if i = a then f i else 0) + (if i = b then f i else 0)) := sm_congr fun i hi => by
    by_cases h1 : i = a
    · subst h1; simp [hab]
    · by_cases h2 : i = b
      · subst h2; simp [h1]
      · simp [h1, h2, h i hi h1 h2]
  rw [e, sm_add, sm_one (a := a) ha (fun i _ hn => by simp [hn]), sm_one (a := b) hb (fun i _ hn => by simp [hn])]
  simp
theorem sm_swap (n m : Nat) (f : Nat → Nat → Int) : sm n (fun i => sm m (fun j => f i j)) = sm m (fun j => sm n (fun i => f i j)) := by
  induction n with
  | zero => simp only [sm]; rw [sm_zero fun _ _ => rfl]
  | succ n ih => simp only [sm]; rw [ih, sm_add]
theorem sm_nonneg {n : Nat} {f : Nat → Int} (h : ∀ i, i < n → 0 ≤ f i) : 0 ≤ sm n f := by
  induction n with
  | zero => simp [sm]
  | succ n ih => simp only [sm]; have := ih fun i hi => h i (by omega); have := h n (by omega); omega
theorem sm_le {n : Nat} {f g : Nat → Int} (h : ∀ i, i < n → f i ≤ g i) : sm n f ≤ sm n g := by
  induction n with
  | zero => simp [sm]
  | succ n ih => simp only [sm]; have := ih fun i hi => h i (by omega); have := h n (by omega); omega
theorem sm_const (n : Nat) (a : Int) : sm n (fun _ => a) = n * a := by
  induction n with
  | zero => simp [sm]
  | succ n ih => simp only [sm]; rw [ih]; push_cast; rw [Int.add_mul]; omega
/-! ### determinants, told by columns -/
abbrev Col := Nat → Int
def st (c : Nat → Col) (i : Nat) (v : Col) : Nat → Col := fun j => if j = i then v else c j
theorem st_same (c : Nat → Col) (i : Nat) (v : Col) : st c i v i = v := if_pos rfl
theorem st_ne (c : Nat → Col) {i j : Nat} (v : Col) (h : j ≠ i) : st c i v j = c j := if_neg h
def D : Nat → (Nat → Col) → Int
  | 0, _ => 1
  | k + 1, c => c k k * D k c - sm k (fun l => c l k * D k (st c l (c k)))
theorem D_congr : ∀ {k : Nat} {c c' : Nat → Col}, (∀ j t, j < k → t < k → c j t = c' j t) → D k c = D k c'
  | 0, _, _, _ => rfl
  | k + 1, c, c', h => by
    simp only [D]
    rw [h k k (by omega) (by omega), D_congr (c := c) (c' := c') fun j t hj ht => h j t (by omega) (by omega)]
    congr 1
    refine sm_congr fun l hl => ?_
    rw [h l k (by omega) (by omega), D_congr (c := st c l (c k)) (c' := st c' l (c' k)) fun j t hj ht => ?_]
    unfold st
    by_cases e : j = l
    · rw [if_pos e, if_pos e]; exact h k t (by omega) (by omega)
    · rw [if_neg e, if_neg e]; exact h j t (by omega) (by omega)
theorem D_out {k i : Nat} {c : Nat → Col} {v : Col} (h : k ≤ i) : D k (st c i v) = D k c := D_congr fun j t hj _ => by rw [st_ne _ _ (by omega)]
theorem D_lin : ∀ {k i : Nat} (c : Nat → Col) (a b : Int) (u v : Col), i < k → D k (st c i (fun t => a * u t + b * v t)) = a * D k (st c i u) + b * D k (st c i v)
  | 0, i, _, _, _, _, _, h => by omega
  | k + 1, i, c, a, b, u, v, hi => by
    simp only [D]
    by_cases e : i = k
    · subst e
      simp only [st_same]
      rw [D_out (Nat.le_refl _), D_out (Nat.le_refl _), D_out (Nat.le_refl _)]
      have z : ∀ (x : Col) (l : Nat), l < i → D i (st (st c i x) l x) = D i (st c l x) := fun x l hl => D_congr fun j t hj _ => by
        unfold st
        by_cases e : j = l
        · rw [if_pos e, if_pos e]
        · rw [if_neg e, if_neg e, if_neg (by omega)]
      have q : sm i (fun l => st c i (fun t => a * u t + b * v t) l i * D i (st (st c i (fun t => a * u t + b * v t)) l (fun t => a * u t + b * v t))) = a * sm i (fun l => st c i u l i * D i (st (st c i u) l u)) + b * sm i (fun l => st c i v l i * D i (st (st c i v) l v)) := by
        refine sm_lin a b fun l hl => ?_
        rw [z _ l hl, z _ l hl, z _ l hl, st_ne _ _ (by omega), st_ne _ _ (by omega), st_ne _ _ (by omega), D_lin c a b u v hl]
        grind
      rw [q]
      grind
    · have hk : i < k := by omega
      have ck : ∀ x, st c i x k = c k := fun x => st_ne _ _ (by omega)
      simp only [ck]
      have q : sm k (fun l => st c i (fun t => a * u t + b * v t) l k * D k (st (st c i (fun t => a * u t + b * v t)) l (c k))) = a * sm k (fun l => st c i u l k * D k (st (st c i u) l (c k))) + b * sm k (fun l => st c i v l k * D k (st (st c i v) l (c k))) := by
        refine sm_lin a b fun l hl => ?_
        by_cases e2 : l = i
        · subst e2
          have z : ∀ x y : Col, st (st c l x) l y = st c l y := fun x y => by funext j; unfold st; by_cases q : j = l <;> simp [q]
          simp only [st_same, z]
          grind
        · have z : ∀ x y : Col, st (st c i x) l y = st (st c l y) i x := fun x y => by funext j; unfold st; by_cases q : j = l <;> by_cases r : j = i <;> simp [q, r] <;> omega
          simp only [z, st_ne _ _ e2]
          rw [D_lin (st c l (c k)) a b u v hk]
          grind
      rw [q, D_lin c a b u v hk]
      grind
theorem D_add {k i : Nat} (c : Nat → Col) (u v : Col) (h : i < k) : D k (st c i (fun t => u t + v t)) = D k (st c i u) + D k (st c i v) := by
  have e := D_lin c 1 1 u v h
  simp only [Int.one_mul] at e
  exact e
theorem D_smul {k i : Nat} (c : Nat → Col) (a : Int) (u : Col) (h : i < k) : D k (st c i (fun t => a * u t)) = a * D k (st c i u) := by
  have e := D_lin c a 0 u u h
  simp only [Int.zero_mul, Int.add_zero] at e
  exact e
theorem D_zero {k i : Nat} (c : Nat → Col) (h : i < k) : D k (st c i (fun _ => 0)) = 0 := by
  have e := D_smul c 0 (fun _ => 0) h
  simp only [Int.zero_mul] at e
  exact e
theorem D_sum {k i : Nat} (c : Nat → Col) (h : i < k) (a : Nat → Int) (u : Nat → Col) : ∀ n : Nat, D k (st c i (fun t => sm n (fun q => a q * u q t))) = sm n (fun q => a q * D k (st c i (u q)))
  | 0 => by simp only [sm]; exact D_zero c h
  | n + 1 => by
    simp only [sm]
    rw [D_add c (fun t => sm n (fun q => a q * u q t)) (fun t => a n * u n t) h, D_sum c h a u n, D_smul c (a n) (u n) h]
/-- two like columns -/
def Alt (k : Nat) : Prop := ∀ (c : Nat → Col) (a b : Nat), a < b → b < k → c a = c b → D k c = 0
theorem swap_of {k : Nat} (A : Alt k) {a b : Nat} (hab : a ≠ b) (ha : a < k) (hb : b < k) (c : Nat → Col) (u v : Col) : D k (st (st c a u) b v) + D k (st (st c a v) b u) = 0 := by
  have A' : ∀ x : Col, D k (st (st c a x) b x) = 0 := fun x => by
    have e1 : st (st c a x) b x a = st (st c a x) b x b := by rw [st_ne _ _ hab, st_same, st_same]
    rcases Nat.lt_or_ge a b with h | h
    · exact A _ a b h hb e1
    · exact A _ b a (by omega) ha e1.symm
  have cm : ∀ x y : Col, st (st c a x) b y = st (st c b y) a x := fun x y => by funext j; unfold st; by_cases q : j = a <;> by_cases r : j = b <;> simp [q, r] <;> omega
  have h := A' (fun t => u t + v t)
  rw [D_add _ _ _ hb, cm, cm, D_add _ _ _ ha, D_add _ _ _ ha, ← cm, ← cm, ← cm, ← cm, A' u, A' v] at h
  omega
theorem alt : ∀ k : Nat, Alt k
  | 0 => fun c a b _ h => by omega
  | k + 1 => fun c a b hab hb e => by
    have A := alt k
    simp only [D]
    by_cases hbk : b = k
    · subst hbk
      have q : sm b (fun l => c l b * D b (st c l (c b))) = c a b * D b (st c a (c b)) := sm_one hab fun l hl hne => by
        have z : D b (st c l (c b)) = 0 := by
          have e1 : st c l (c b) a = st c l (c b) l := by rw [st_ne _ _ (fun x => hne x.symm), st_same, e]
          rcases Nat.lt_or_ge a l with h | h
          · exact A _ a l h hl e1
          · exact A _ l a (by omega) hab e1.symm
        rw [z]; simp
      have z : st c a (c b) = c := by
        funext j; unfold st
        by_cases h : j = a
        · subst h; rw [if_pos rfl, e]
        · rw [if_neg h]
      rw [q, z, e]; omega
    · have hbk' : b < k := by omega
      have hak : a < k := by omega
      rw [A c a b hab hbk' e]
      have q : sm k (fun l => c l k * D k (st c l (c k))) = c a k * D k (st c a (c k)) + c b k * D k (st c b (c k)) := sm_two hak hbk' (by omega) fun l hl h1 h2 => by
        have z : D k (st c l (c k)) = 0 := A _ a b hab hbk' (by rw [st_ne _ _ (fun x => h1 x.symm), st_ne _ _ (fun x => h2 x.symm), e])
        rw [z]; simp
      have s := swap_of A (by omega : a ≠ b) hak hbk' c (c k) (c b)
      have e1 : st (st c a (c k)) b (c b) = st c a (c k) := by
        funext j; unfold st
        by_cases h : j = b
        · subst h; rw [if_pos rfl, if_neg (by omega)]
        · rw [if_neg h]
      have e2 : st (st c a (c b)) b (c k) = st c b (c k) := by
        funext j; unfold st
        by_cases h : j = b
        · rw [if_pos h, if_pos h]
        · rw [if_neg h, if_neg h]
          by_cases h2 : j = a
          · subst h2; rw [if_pos rfl, e]
          · rw [if_neg h2]
      rw [e1, e2] at s
      rw [q, e]
      have : D k (st c a (c k)) = - D k (st c b (c k)) := by omega
      rw [this]; grind
/-! ### elimination without fractions -/
section
variable (c : Nat → Col)
def ee (k i j : Nat) : Int := D k (st c i (c j))
def mm (k i j : Nat) : Int := D k c * c j i - sm k (fun l => c l i * ee c k l j)
theorem mm_pivot (k : Nat) : mm c k k k = D (k + 1) c := by
  unfold mm
  simp only [D]
  rw [Int.mul_comm]; rfl
theorem ee_last (k j : Nat) : ee c (k + 1) k j = mm c k k j := by
  unfold ee mm
  simp only [D, st_same]
  rw [D_out (Nat.le_refl _), Int.mul_comm]
  congr 1
  refine sm_congr fun l hl => ?_
  rw [st_ne _ _ (by omega)]
  congr 1
  unfold ee
  exact D_congr fun j t hj _ => by
    unfold st
    by_cases e : j = l
    · rw [if_pos e, if_pos e]
    · rw [if_neg e, if_neg e, if_neg (by omega)]
theorem ee_diag {k i : Nat} : ee c k i i = D k c := by
  unfold ee
  congr 1
  funext j; unfold st
  by_cases h : j = i
  · rw [if_pos h, h]
  · rw [if_neg h]
theorem ee_zero {k i j : Nat} (hi : i < k) (hj : j < k) (h : i ≠ j) : ee c k i j = 0 := by
  have e1 : st c i (c j) i = st c i (c j) j := by rw [st_same, st_ne _ _ (fun x => h x.symm)]
  unfold ee
  rcases Nat.lt_or_ge i j with q | q
  · exact alt k _ i j q hj e1
  · exact alt k _ j i (by omega) hi e1.symm
def Star (k : Nat) : Prop := ∀ j t, t < k → sm k (fun l => ee c k l j * c l t) = D k c * c j t
variable {c}
theorem pluck {k i l : Nat} (S : Star c k) (hi : i < k) (hl : l < k) (hil : i ≠ l) (j p : Nat) :
    D k c * D k (st (st c i (c j)) l (c p)) = ee c k i j * ee c k l p - ee c k i p * ee c k l j := by
  have cm : st (st c i (c j)) l (c p) = st (st c l (c p)) i (c j) := by funext q; unfold st; by_cases q1 : q = i <;> by_cases r : q = l <;> simp [q1, r] <;> omega
  rw [cm, ← D_smul (st c l (c p)) (D k c) (c j) hi]
  have e1 : D k (st (st c l (c p)) i (fun t => D k c * c j t)) = D k (st (st c l (c p)) i (fun t => sm k (fun q => ee c k q j * c q t))) := D_congr fun q t hq ht => by
    by_cases r : q = i
    · subst r; rw [st_same, st_same, S j t ht]
    · rw [st_ne _ _ r, st_ne _ _ r]
  rw [e1, D_sum _ hi]
  have e2 : sm k (fun q => ee c k q j * D k (st (st c l (c p)) i (c q))) = ee c k i j * D k (st (st c l (c p)) i (c i)) + ee c k l j * D k (st (st c l (c p)) i (c l)) := sm_two hi hl hil fun q hq h1 h2 => by
    have z : D k (st (st c l (c p)) i (c q)) = 0 := by
      have e : st (st c l (c p)) i (c q) i = st (st c l (c p)) i (c q) q := by rw [st_same, st_ne _ _ h1, st_ne _ _ h2]
      rcases Nat.lt_or_ge i q with h | h
      · exact alt k _ i q h hq e
      · exact alt k _ q i (by omega) hi e.symm
    rw [z]; simp
  have e3 : st (st c l (c p)) i (c i) = st c l (c p) := by
    funext q; unfold st
    by_cases h : q = i
    · subst h; rw [if_pos rfl, if_neg hil]
    · rw [if_neg h]
  have e4 := swap_of (alt k) (fun x => hil x.symm) hl hi c (c p) (c l)
  have e5 : st (st c l (c l)) i (c p) = st c i (c p) := by
    funext q; unfold st
    by_cases h : q = i
    · rw [if_pos h, if_pos h]
    · rw [if_neg h, if_neg h]
      by_cases h2 : q = l
      · rw [if_pos h2, h2]
      · rw [if_neg h2]
  rw [e5] at e4
  have e6 : D k (st (st c l (c p)) i (c l)) = - D k (st c i (c p)) := by omega
  rw [e2, e3, e6]
  show ee c k i j * ee c k l p + ee c k l j * -ee c k i p = _
  grind
theorem claim1 {k i : Nat} (S : Star c k) (hi : i < k) (j : Nat) : D k c * ee c (k + 1) i j = D (k + 1) c * ee c k i j - ee c k i k * mm c k k j := by
  have e0 : ee c (k + 1) i j = c k k * ee c k i j - sm k (fun l => st c i (c j) l k * D k (st (st c i (c j)) l (c k))) := by
    show D (k + 1) (st c i (c j)) = _
    simp only [D]
    rw [st_ne _ _ (by omega : k ≠ i)]
    rfl
  have e1 : D k c * sm k (fun l => st c i (c j) l k * D k (st (st c i (c j)) l (c k))) = D k c * (c j k * ee c k i k) + sm k (fun l => c l k * (ee c k i j * ee c k l k - ee c k i k * ee c k l j)) := by
    rw [← sm_mul]
    have q : sm k (fun l => D k c * (st c i (c j) l k * D k (st (st c i (c j)) l (c k)))) = sm k (fun l => (if l = i then D k c * (c j k * ee c k i k) else 0) + c l k * (ee c k i j * ee c k l k - ee c k i k * ee c k l j)) := sm_congr fun l hl => by
      by_cases h : l = i
      · subst h
        rw [if_pos rfl, st_same]
        have z : st (st c l (c j)) l (c k) = st c l (c k) := by funext q; unfold st; by_cases r : q = l <;> simp [r]
        rw [z]
        show D k c * (c j k * ee c k l k) = _
        grind
      · rw [if_neg h, st_ne _ _ h, Int.zero_add, ← pluck S hi hl (fun x => h x.symm) j k]
        grind
    rw [q, sm_add, sm_one hi (fun l _ hn => by rw [if_neg hn]), if_pos rfl]
  have e2 : sm k (fun l => c l k * (ee c k i j * ee c k l k - ee c k i k * ee c k l j)) = ee c k i j * sm k (fun l => c l k * ee c k l k) + (- ee c k i k) * sm k (fun l => c l k * ee c k l j) := sm_lin _ _ fun l _ => by grind
  rw [e0, Int.mul_sub, e1, e2]
  have e3 : D (k + 1) c = D k c * c k k - sm k (fun l => c l k * ee c k l k) := (mm_pivot c k).symm
  rw [e3]
  unfold mm
  grind
theorem claim3 {k i : Nat} (S : Star c k) (j : Nat) : D k c * mm c (k + 1) i j = D (k + 1) c * mm c k i j - mm c k i k * mm c k k j := by
  have e0 : D k c * mm c (k + 1) i j = D k c * (D (k + 1) c * c j i) - (sm k (fun l => c l i * (D k c * ee c (k + 1) l j)) + D k c * (c k i * mm c k k j)) := by
    show D k c * (D (k + 1) c * c j i - sm (k + 1) (fun l => c l i * ee c (k + 1) l j)) = _
    simp only [sm]
    rw [ee_last, Int.mul_sub, Int.mul_add, ← sm_mul]
    congr 2
    exact sm_congr fun l _ => by grind
  have e1 : sm k (fun l => c l i * (D k c * ee c (k + 1) l j)) = D (k + 1) c * sm k (fun l => c l i * ee c k l j) + (- mm c k k j) * sm k (fun l => c l i * ee c k l k) := sm_lin _ _ fun l hl => by
    rw [claim1 S hl]; grind
  rw [e0, e1]
  have q1 : mm c k i j = D k c * c j i - sm k (fun l => c l i * ee c k l j) := rfl
  have q2 : mm c k i k = D k c * c k i - sm k (fun l => c l i * ee c k l k) := rfl
  rw [q1, q2]
  grind
theorem star_step {k : Nat} (S : Star c k) (hd : D k c ≠ 0) : Star c (k + 1) := fun j t ht => by
  have e1 : D k c * sm (k + 1) (fun l => ee c (k + 1) l j * c l t) = D k c * (D (k + 1) c * c j t) := by
    simp only [sm]
    rw [ee_last, Int.mul_add, ← sm_mul]
    have q : sm k (fun l => D k c * (ee c (k + 1) l j * c l t)) = D (k + 1) c * sm k (fun l => ee c k l j * c l t) + (- mm c k k j) * sm k (fun l => ee c k l k * c l t) := sm_lin _ _ fun l hl => by
      have := claim1 S hl j
      grind
    rw [q]
    by_cases h : t = k
    · subst h
      have q1 : mm c t t j = D t c * c j t - sm t (fun l => c l t * ee c t l j) := rfl
      have q2 : D (t + 1) c = D t c * c t t - sm t (fun l => c l t * ee c t l t) := (mm_pivot c t).symm
      have q3 : sm t (fun l => ee c t l j * c l t) = sm t (fun l => c l t * ee c t l j) := sm_congr fun l _ => Int.mul_comm _ _
      have q4 : sm t (fun l => ee c t l t * c l t) = sm t (fun l => c l t * ee c t l t) := sm_congr fun l _ => Int.mul_comm _ _
      rw [q3, q4]
      grind
    · rw [S j t (by omega), S k t (by omega)]
      grind
  exact Int.eq_of_mul_eq_mul_left hd e1
theorem star_zero : Star c 0 := fun _ _ h => by omega
theorem star_all {n : Nat} (hd : ∀ k, k < n → D k c ≠ 0) : ∀ k, k ≤ n → Star c k
  | 0, _ => star_zero
  | k + 1, h => star_step (star_all hd k (by omega)) (hd k (by omega))
end
end SM
end
section
namespace SM
/-! ### trees -/
abbrev Tree := List (Int × Int)
def tl (T : Tree) (k : Nat) : Int := (T.getD k (0, 0)).1
def tr (T : Tree) (k : Nat) : Int := (T.getD k (0, 0)).2
def ind (p : Prop) [Decidable p] : Int := if p then 1 else 0
theorem ind_t {p : Prop} [Decidable p] (h : p) : ind p = 1 := if_pos h
theorem ind_f {p : Prop} [Decidable p] (h : ¬ p) : ind p = 0 := if_neg h
theorem mind_t {p : Prop} [Decidable p] (a : Int) (h : p) : a * ind p = a := by rw [ind_t h, Int.mul_one]
theorem mind_f {p : Prop} [Decidable p] (a : Int) (h : ¬ p) : a * ind p = 0 := by rw [ind_f h, Int.mul_zero]
theorem ind_nonneg (p : Prop) [Decidable p] : 0 ≤ ind p := by unfold ind; split <;> omega
theorem ind_le (p : Prop) [Decidable p] : ind p ≤ 1 := by unfold ind; split <;> omega
structure Ok (m : Nat) (T : Tree) : Prop where
  pos : 0 < T.length
  rl : ∀ t, t < T.length → -(m : Int) ≤ tl T t ∧ tl T t < T.length
  rr : ∀ t, t < T.length → -(m : Int) ≤ tr T t ∧ tr T t < T.length
inductive Reach (T : Tree) (i : Nat) : Nat → Prop
  | refl : Reach T i i
  | left {k j : Nat} : Reach T i k → tl T k = (j : Int) → Reach T i j
  | right {k j : Nat} : Reach T i k → tr T k = (j : Int) → Reach T i j
theorem Reach.trans {T : Tree} {i j k : Nat} (a : Reach T i j) (b : Reach T j k) : Reach T i k := by
  induction b with
  | refl => exact a
  | left _ e ih => exact .left ih e
  | right _ e ih => exact .right ih e
theorem Reach.lt {m : Nat} {T : Tree} (O : Ok m T) {i j : Nat} (h : Reach T i j) (hi : i < T.length) : j < T.length := by
  induction h with
  | refl => exact hi
  | left h e ih => have := (O.rl _ ih).2; omega
  | right h e ih => have := (O.rr _ ih).2; omega
def Live (T : Tree) (i : Nat) : Prop := ∃ j, Reach T i j ∧ (tl T j < 0 ∨ tr T j < 0)
theorem Live.of {T : Tree} {i j : Nat} (a : Reach T i j) (h : Live T j) : Live T i := let ⟨k, r, e⟩ := h; ⟨k, a.trans r, e⟩
theorem exists_min (y : Nat → Int) : ∀ k : Nat, 0 < k → ∃ t0, t0 < k ∧ ∀ t, t < k → y t0 ≤ y t
  | 0, h => by omega
  | 1, _ => ⟨0, by omega, fun t ht => by have : t = 0 := by omega
                                         subst this; exact Int.le_refl _⟩
  | k + 2, _ => by
    obtain ⟨t0, h0, h⟩ := exists_min y (k + 1) (by omega)
    by_cases e : y t0 ≤ y (k + 1)
    · exact ⟨t0, by omega, fun t ht => by
        by_cases q : t = k + 1
        · subst q; exact e
        · exact h t (by omega)⟩
    · exact ⟨k + 1, by omega, fun t ht => by
        by_cases q : t = k + 1
        · subst q; exact Int.le_refl _
        · have := h t (by omega); omega⟩
/-- a place's value: nodes below k by y, all else by z -/
def pv (k : Nat) (y : Nat → Int) (z : Int → Int) (p : Int) : Int := if 0 ≤ p ∧ p < k then y p.toNat else z p
theorem pv_in {k : Nat} {y : Nat → Int} {z : Int → Int} {j : Nat} (h : j < k) : pv k y z (j : Int) = y j := by
  unfold pv; rw [if_pos (by omega)]; simp
theorem pv_out {k : Nat} {y : Nat → Int} {z : Int → Int} {p : Int} (h : ¬ (0 ≤ p ∧ p < k)) : pv k y z p = z p := if_neg h
theorem least_principle {T : Tree} {k : Nat} {y : Nat → Int} {z : Int → Int} (hz : ∀ p, 0 ≤ z p) (hL : ∀ t, t < k → Live T t)
    (h : ∀ t, t < k → pv k y z (tl T t) + pv k y z (tr T t) ≤ 2 * y t) : ∀ t, t < k → 0 ≤ y t := by
  intro t ht
  obtain ⟨t0, h0, hm⟩ := exists_min y k (by omega)
  by_cases hn : 0 ≤ y t0
  · exact Int.le_trans hn (hm t ht)
  · exfalso
    have V : ∀ p, y t0 ≤ pv k y z p := fun p => by
      unfold pv
      split
      · exact hm _ (by omega)
      · have := hz p; omega
    have E : ∀ p, pv k y z p = y t0 → ∃ j : Nat, p = (j : Int) ∧ j < k ∧ y j = y t0 := fun p hp => by
      unfold pv at hp
      split at hp
      · exact ⟨p.toNat, by omega, by omega, hp⟩
      · have := hz p; omega
    have R : ∀ j, Reach T t0 j → j < k ∧ y j = y t0 := fun j r => by
      induction r with
      | refl => exact ⟨h0, rfl⟩
      | left r e ih =>
        rename_i a b
        have h1 := h _ ih.1; have h2 := V (tl T a); have h3 := V (tr T a)
        rw [ih.2] at h1
        obtain ⟨j', e1, e2, e3⟩ := E (tl T a) (Int.le_antisymm (by omega) h2)
        have : j' = b := by omega
        subst this
        exact ⟨e2, e3⟩
      | right r e ih =>
        rename_i a b
        have h1 := h _ ih.1; have h2 := V (tl T a); have h3 := V (tr T a)
        rw [ih.2] at h1
        obtain ⟨j', e1, e2, e3⟩ := E (tr T a) (Int.le_antisymm (by omega) h3)
        have : j' = b := by omega
        subst this
        exact ⟨e2, e3⟩
    obtain ⟨j, r, hj⟩ := hL t0 h0
    obtain ⟨q1, q2⟩ := R j r
    have h1 := h j q1; have h2 := V (tl T j); have h3 := V (tr T j)
    rw [q2] at h1
    rcases hj with hj | hj
    · obtain ⟨j', e1, _, _⟩ := E (tl T j) (Int.le_antisymm (by omega) h2)
      omega
    · obtain ⟨j', e1, _, _⟩ := E (tr T j) (Int.le_antisymm (by omega) h3)
      omega
/-! ### the table of sums -/
/-- its columns: the factors of the nodes, the right sides of the things, the one of the mean -/
def cc (m : Nat) (T : Tree) : Nat → Col := fun j i =>
  if j < T.length then 2 * ind (i = j) - ind (tl T i = (j : Int)) - ind (tr T i = (j : Int))
  else if j < T.length + m then ind (tl T i = -1 - ((j : Int) - T.length)) + ind (tr T i = -1 - ((j : Int) - T.length)) else 2
theorem sm_ind (k : Nat) (y : Nat → Int) (p : Int) : sm k (fun l => y l * ind (p = (l : Int))) = pv k y (fun _ => 0) p := by
  unfold pv
  split
  · rename_i h
    rw [sm_one (a := p.toNat) (by omega) (fun i hi hn => mind_f _ (by omega)), mind_t _ (by omega)]
  · rename_i h
    exact sm_zero fun i hi => mind_f _ (by omega)
theorem sm_row {m : Nat} {T : Tree} {k t : Nat} (hk : k ≤ T.length) (ht : t < k) (y : Nat → Int) :
    sm k (fun l => y l * cc m T l t) = 2 * y t - pv k y (fun _ => 0) (tl T t) - pv k y (fun _ => 0) (tr T t) := by
  have e : sm k (fun l => y l * cc m T l t) = sm k (fun l => (2 * (y l * ind (t = l)) - y l * ind (tl T t = (l : Int))) - y l * ind (tr T t = (l : Int))) := sm_congr fun l hl => by
    unfold cc
    rw [if_pos (by omega)]
    grind
  rw [e, sm_sub, sm_sub, sm_ind, sm_ind, sm_mul, sm_one ht (fun i hi hn => mind_f _ (fun x => hn x.symm)), mind_t _ rfl]
theorem zero_of {T : Tree} {k : Nat} {y : Nat → Int} (hL : ∀ t, t < k → Live T t)
    (h : ∀ t, t < k → pv k y (fun _ => 0) (tl T t) + pv k y (fun _ => 0) (tr T t) = 2 * y t) : ∀ t, t < k → y t = 0 := fun t ht => by
  have h1 := least_principle (z := fun _ => 0) (fun _ => Int.le_refl _) hL (fun t ht => Int.le_of_eq (h t ht)) t ht
  have neg : ∀ p, pv k (fun t => - y t) (fun _ => 0) p = - pv k y (fun _ => 0) p := fun p => by unfold pv; split <;> rfl
  have h2 := least_principle (y := fun t => - y t) (z := fun _ => 0) (fun _ => Int.le_refl _) hL (fun t ht => by
    rw [neg, neg]; have := h t ht; show _ ≤ 2 * (- y t); omega) t ht
  have h3 : 0 ≤ - y t := h2
  omega
/-- the leading minors are positive -/
theorem minors {m : Nat} {T : Tree} (hL : ∀ t, t < T.length → Live T t) : ∀ k, k ≤ T.length → 0 < D k (cc m T)
  | 0, _ => by simp [D]
  | k + 1, hk => by
    have ih : ∀ j, j ≤ k → 0 < D j (cc m T) := fun j hj => minors hL j (by omega)
    have S : Star (cc m T) k := star_all (fun j hj => by have := ih j (by omega); omega) k (Nat.le_refl _)
    refine Decidable.byContradiction fun h0 => ?_
    let y : Nat → Int := fun l => if l < k then ee (cc m T) k l k else - D k (cc m T)
    have hy : ∀ t, t < k + 1 → 0 ≤ sm (k + 1) (fun l => y l * cc m T l t) := fun t ht => by
      simp only [sm]
      have e1 : sm k (fun l => y l * cc m T l t) = sm k (fun l => ee (cc m T) k l k * cc m T l t) := sm_congr fun l hl => by simp only [y]; rw [if_pos hl]
      have e2 : y k = - D k (cc m T) := by simp only [y]; rw [if_neg (by omega)]
      rw [e1, e2]
      by_cases q : t = k
      · subst q
        have p := mm_pivot (cc m T) t
        have e4 : mm (cc m T) t t t = D t (cc m T) * cc m T t t - sm t (fun l => cc m T l t * ee (cc m T) t l t) := rfl
        have e3 : sm t (fun l => ee (cc m T) t l t * cc m T l t) = sm t (fun l => cc m T l t * ee (cc m T) t l t) := sm_congr fun l _ => Int.mul_comm _ _
        rw [e3, Int.neg_mul]; omega
      · rw [S k t (by omega), Int.neg_mul]; omega
    have z := least_principle (T := T) (k := k + 1) (y := y) (z := fun _ => 0) (fun _ => Int.le_refl _) (fun t ht => hL t (by omega)) (fun t ht => by
      have := hy t ht
      rw [sm_row hk ht] at this
      omega) k (by omega)
    have e2 : y k = - D k (cc m T) := by simp only [y]; rw [if_neg (by omega)]
    rw [e2] at z
    have := ih k (Nat.le_refl _)
    omega
/-! ### the solution -/
def dT (m : Nat) (T : Tree) : Int := D T.length (cc m T)
theorem dT_pos {m : Nat} {T : Tree} (hL : ∀ t, t < T.length → Live T t) : 0 < dT m T := minors hL _ (Nat.le_refl _)
/-- what holds of all shares and means, d times -/
structure Sol (m : Nat) (T : Tree) (d : Int) (X : Nat → Nat → Int) (M : Nat → Int) : Prop where
  sh : ∀ t x, t < T.length → x < m → 2 * X t x = pv T.length (fun k => X k x) (fun p => d * ind (p = -1 - (x : Int))) (tl T t) + pv T.length (fun k => X k x) (fun p => d * ind (p = -1 - (x : Int))) (tr T t)
  mn : ∀ t, t < T.length → 2 * M t = pv T.length M (fun _ => 0) (tl T t) + pv T.length M (fun _ => 0) (tr T t) + 2 * d
theorem pv_split {k : Nat} {y : Nat → Int} {z : Int → Int} {p : Int} (h : p < k) (hz : ∀ j : Int, 0 ≤ j → z j = 0) : pv k y z p = pv k y (fun _ => 0) p + z p := by
  unfold pv
  split
  · rename_i q; rw [hz p q.1]; omega
  · show z p = 0 + z p
    omega
theorem sol_cc {m : Nat} {T : Tree} (O : Ok m T) (hL : ∀ t, t < T.length → Live T t) :
    Sol m T (dT m T) (fun t x => ee (cc m T) T.length t (T.length + x)) (fun t => ee (cc m T) T.length t (T.length + m)) := by
  have S : Star (cc m T) T.length := star_all (fun j hj => by have := minors (m := m) hL j (by omega); omega) _ (Nat.le_refl _)
  refine ⟨fun t x ht hx => ?_, fun t ht => ?_⟩
  · have e := S (T.length + x) t ht
    rw [sm_row (Nat.le_refl _) ht] at e
    have e2 : cc m T (T.length + x) t = ind (tl T t = -1 - (x : Int)) + ind (tr T t = -1 - (x : Int)) := by
      unfold cc
      have q : ((T.length + x : Nat) : Int) - T.length = x := by omega
      rw [if_neg (by omega), if_pos (by omega), q]
    rw [e2] at e
    have hz : ∀ j : Int, 0 ≤ j → dT m T * ind (j = -1 - (x : Int)) = 0 := fun j hj => mind_f _ (by omega)
    rw [pv_split (O.rl t ht).2 hz, pv_split (O.rr t ht).2 hz]
    unfold dT at *
    grind
  · have e := S (T.length + m) t ht
    rw [sm_row (Nat.le_refl _) ht] at e
    have e2 : cc m T (T.length + m) t = 2 := by unfold cc; rw [if_neg (by omega), if_neg (by omega)]
    rw [e2] at e
    unfold dT
    omega
/-- two solutions are the same fractions -/
theorem Sol.same {m : Nat} {T : Tree} {d d' : Int} {X X' : Nat → Nat → Int} {M M' : Nat → Int} (hL : ∀ t, t < T.length → Live T t) (s : Sol m T d X M) (s' : Sol m T d' X' M') :
    (∀ t x, t < T.length → x < m → d' * X t x = d * X' t x) ∧ ∀ t, t < T.length → d' * M t = d * M' t := by
  constructor
  · intro t x ht hx
    have z := zero_of (y := fun k => d' * X k x - d * X' k x) hL (fun k hk => by
      have n : ∀ p, pv T.length (fun k => d' * X k x - d * X' k x) (fun _ => 0) p = d' * pv T.length (fun k => X k x) (fun p => d * ind (p = -1 - (x : Int))) p - d * pv T.length (fun k => X' k x) (fun p => d' * ind (p = -1 - (x : Int))) p := fun p => by
        unfold pv; split
        · rfl
        · show (0 : Int) = d' * (d * ind (p = -1 - (x : Int))) - d * (d' * ind (p = -1 - (x : Int)))
          grind
      rw [n, n]
      have h1 := s.sh k x hk hx
      have h2 := s'.sh k x hk hx
      grind) t ht
    have z' : d' * X t x - d * X' t x = 0 := z
    omega
  · intro t ht
    have z := zero_of (y := fun k => d' * M k - d * M' k) hL (fun k hk => by
      have n : ∀ p, pv T.length (fun k => d' * M k - d * M' k) (fun _ => 0) p = d' * pv T.length M (fun _ => 0) p - d * pv T.length M' (fun _ => 0) p := fun p => by
        unfold pv; split
        · rfl
        · show (0 : Int) = d' * 0 - d * 0
          simp
      rw [n, n]
      have h1 := s.mn k hk
      have h2 := s'.mn k hk
      grind) t ht
    have z' : d' * M t - d * M' t = 0 := z
    omega
section
variable {m : Nat} {T : Tree} {d : Int} {X : Nat → Nat → Int} {M : Nat → Int}
theorem Sol.sh_nonneg (hd : 0 ≤ d) (hL : ∀ t, t < T.length → Live T t) (s : Sol m T d X M) : ∀ t x, t < T.length → x < m → 0 ≤ X t x := fun t x ht hx =>
  least_principle (y := fun k => X k x) (fun p => Int.mul_nonneg hd (ind_nonneg _)) hL (fun k hk => Int.le_of_eq (s.sh k x hk hx).symm) t ht
theorem Sol.mn_nonneg (hd : 0 ≤ d) (hL : ∀ t, t < T.length → Live T t) (s : Sol m T d X M) : ∀ t, t < T.length → 0 ≤ M t := fun t ht =>
  least_principle (y := M) (z := fun _ => 0) (fun _ => Int.le_refl _) hL (fun k hk => by have := s.mn k hk; omega) t ht
theorem pv_sum {k n : Nat} (X : Nat → Nat → Int) (z : Nat → Int → Int) (p : Int) : sm n (fun x => pv k (fun t => X t x) (z x) p) = pv k (fun t => sm n (fun x => X t x)) (fun p => sm n (fun x => z x p)) p := by
  unfold pv; split <;> rfl
theorem sm_thing {m : Nat} {p : Int} (d : Int) (h1 : -(m : Int) ≤ p) (h2 : p < 0) : sm m (fun x => d * ind (p = -1 - (x : Int))) = d := by
  rw [sm_one (a := (-1 - p).toNat) (by omega) (fun i hi hn => mind_f _ (by omega)), mind_t _ (by omega)]
theorem Sol.total (O : Ok m T) (hL : ∀ t, t < T.length → Live T t) (s : Sol m T d X M) : ∀ t, t < T.length → sm m (fun x => X t x) = d := fun t ht => by
  have z := zero_of (y := fun k => sm m (fun x => X k x) - d) hL (fun k hk => by
    have e : 2 * sm m (fun x => X k x) = sm m (fun x => pv T.length (fun k => X k x) (fun p => d * ind (p = -1 - (x : Int))) (tl T k)) + sm m (fun x => pv T.length (fun k => X k x) (fun p => d * ind (p = -1 - (x : Int))) (tr T k)) := by
      rw [← sm_mul, ← sm_add]
      exact sm_congr fun x hx => s.sh k x hk hx
    rw [pv_sum (z := fun x p => d * ind (p = -1 - (x : Int))), pv_sum (z := fun x p => d * ind (p = -1 - (x : Int)))] at e
    have n : ∀ p, -(m : Int) ≤ p → p < T.length → pv T.length (fun k => sm m (fun x => X k x) - d) (fun _ => 0) p = pv T.length (fun t => sm m (fun x => X t x)) (fun p => sm m (fun x => d * ind (p = -1 - (x : Int)))) p - d := fun p h1 h2 => by
      unfold pv; split
      · rfl
      · show (0 : Int) = sm m (fun x => d * ind (p = -1 - (x : Int))) - d
        rw [sm_thing d h1 (by omega)]; omega
    rw [n _ (O.rl k hk).1 (O.rl k hk).2, n _ (O.rr k hk).1 (O.rr k hk).2]
    show _ = 2 * (sm m (fun x => X k x) - d)
    omega) t ht
  have z' : sm m (fun x => X t x) - d = 0 := z
  omega
end
end SM
end
section
namespace SM
/-! ### fractions -/
def fr (p q : Int) : Int × Int := (p / (Int.gcd p q : Int), q / (Int.gcd p q : Int))
theorem gcd_pos' {p q : Int} (hq : 0 < q) : (0 : Int) < (Int.gcd p q : Int) := by
  have : 0 < Int.gcd p q := Int.gcd_pos_of_ne_zero_right p (by omega)
  omega
theorem fr_scale {p q k : Int} (hq : 0 < q) (hk : 0 < k) : fr (p * k) (q * k) = fr p q := by
  unfold fr
  have e : Int.gcd (p * k) (q * k) = Int.gcd p q * k.natAbs := Int.gcd_mul_right p k q
  have e2 : ((Int.gcd (p * k) (q * k) : Nat) : Int) = (Int.gcd p q : Int) * k := by
    rw [e]; push_cast; congr 1; omega
  rw [e2, Int.mul_ediv_mul_of_pos_left _ _ hk, Int.mul_ediv_mul_of_pos_left _ _ hk]
theorem fr_eq {p q p' q' : Int} (hq : 0 < q) (hq' : 0 < q') (h : p * q' = p' * q) : fr p q = fr p' q' := by
  rw [← fr_scale hq hq', ← fr_scale hq' hq, h, Int.mul_comm q q']
theorem fr_pos {p q : Int} (hq : 0 < q) : 0 < (fr p q).2 := by
  have g := gcd_pos' (p := p) hq
  have d : (Int.gcd p q : Int) ∣ q := Int.gcd_dvd_right ..
  have e := Int.ediv_mul_cancel d
  show 0 < q / (Int.gcd p q : Int)
  have : ¬ (q / (Int.gcd p q : Int)) ≤ 0 := fun hn => by
    have := Int.mul_nonpos_of_nonpos_of_nonneg hn (Int.le_of_lt g)
    omega
  omega
theorem fr_mul {p q : Int} (hq : 0 < q) : (fr p q).1 * q = p * (fr p q).2 := by
  have d1 : (Int.gcd p q : Int) ∣ q := Int.gcd_dvd_right ..
  have d2 : (Int.gcd p q : Int) ∣ p := Int.gcd_dvd_left ..
  show p / (Int.gcd p q : Int) * q = p * (q / (Int.gcd p q : Int))
  have e1 := Int.ediv_mul_cancel d1
  have e2 := Int.ediv_mul_cancel d2
  generalize (Int.gcd p q : Int) = g at *
  generalize p / g = a at *
  generalize q / g = b at *
  subst e1 e2
  grind
theorem fr_inj {p q p' q' : Int} (hq : 0 < q) (hq' : 0 < q') (h : fr p q = fr p' q') : p * q' = p' * q := by
  have e1 := fr_mul (p := p) hq
  have e2 := fr_mul (p := p') hq'
  have b1 := fr_pos (p := p) hq
  rw [← h] at e2
  generalize (fr p q).1 = a at *
  generalize (fr p q).2 = b at *
  have : b * (p * q') = b * (p' * q) := by grind
  exact Int.eq_of_mul_eq_mul_left (by omega) this
theorem fr_iff {p q p' q' : Int} (hq : 0 < q) (hq' : 0 < q') : fr p q = fr p' q' ↔ p * q' = p' * q := ⟨fr_inj hq hq', fr_eq hq hq'⟩
theorem fr_gcd {p q : Int} (hq : 0 < q) : Int.gcd (fr p q).1 (fr p q).2 = 1 := by
  have := gcd_pos' (p := p) hq
  exact Int.gcd_ediv_gcd_ediv_gcd (by omega)
theorem fr_self {p q : Int} (h : Int.gcd p q = 1) : fr p q = (p, q) := by
  unfold fr; rw [h]; simp
theorem fr_fr {p q : Int} (hq : 0 < q) : fr (fr p q).1 (fr p q).2 = fr p q := fr_self (fr_gcd hq)
theorem fr_natAbs {p q : Int} (hq : 0 < q) : (fr p q).1.natAbs ≤ p.natAbs ∧ (fr p q).2.natAbs ≤ q.natAbs := by
  constructor
  · show (p / (Int.gcd p q : Int)).natAbs ≤ p.natAbs
    have d2 : (Int.gcd p q : Int) ∣ p := Int.gcd_dvd_left ..
    have e2 := Int.ediv_mul_cancel d2
    have g := gcd_pos' (p := p) hq
    generalize (Int.gcd p q : Int) = g1 at *
    generalize p / g1 = a at *
    subst e2
    rw [Int.natAbs_mul]
    exact Nat.le_mul_of_pos_right _ (by omega)
  · show (q / (Int.gcd p q : Int)).natAbs ≤ q.natAbs
    have d2 : (Int.gcd p q : Int) ∣ q := Int.gcd_dvd_right ..
    have e2 := Int.ediv_mul_cancel d2
    have g := gcd_pos' (p := p) hq
    generalize (Int.gcd p q : Int) = g1 at *
    generalize q / g1 = a at *
    subst e2
    rw [Int.natAbs_mul]
    exact Nat.le_mul_of_pos_right _ (by omega)
/-- half of the sum of two fractions, as the law reckons it -/
def half (x y : Int × Int) : Int × Int := fr (x.1 * y.2 + y.1 * x.2) (2 * x.2 * y.2)
theorem half_fr {a b d : Int} (hd : 0 < d) : half (fr a d) (fr b d) = fr (a + b) (2 * d) := by
  have e1 := fr_mul (p := a) hd
  have e2 := fr_mul (p := b) hd
  have b1 := fr_pos (p := a) hd
  have b2 := fr_pos (p := b) hd
  unfold half
  generalize (fr a d).1 = x1 at *
  generalize (fr a d).2 = x2 at *
  generalize (fr b d).1 = y1 at *
  generalize (fr b d).2 = y2 at *
  refine fr_eq (Int.mul_pos (Int.mul_pos (by omega) b1) b2) (by omega) ?_
  have q1 : (x1 * y2 + y1 * x2) * (2 * d) = 2 * ((x1 * d) * y2 + (y1 * d) * x2) := by grind
  rw [q1, e1, e2]
  grind
/-! ### the paper's fractions -/
def shF (m : Nat) (T : Tree) (t x : Nat) : Int × Int := fr (ee (cc m T) T.length t (T.length + x)) (dT m T)
def mnF (m : Nat) (T : Tree) (t : Nat) : Int × Int := fr (ee (cc m T) T.length t (T.length + m)) (dT m T)
/-- a place's share of a thing -/
def plF (m : Nat) (T : Tree) (p : Int) (x : Nat) : Int × Int := if 0 ≤ p then shF m T p.toNat x else (ind (x = (-1 - p).toNat), 1)
def pmF (m : Nat) (T : Tree) (p : Int) : Int × Int := if 0 ≤ p then mnF m T p.toNat else (0, 1)
theorem fr_ind (d : Int) (hd : 0 < d) (p : Prop) [Decidable p] : fr (d * ind p) d = (ind p, 1) := by
  have e : fr (ind p * d) (1 * d) = fr (ind p) 1 := fr_scale (by omega) hd
  rw [Int.one_mul, Int.mul_comm] at e
  rw [e, fr_self (by simp)]
theorem sh_eq {m : Nat} {T : Tree} (O : Ok m T) (hL : ∀ t, t < T.length → Live T t) {t x : Nat} (ht : t < T.length) (hx : x < m) :
    shF m T t x = half (plF m T (tl T t) x) (plF m T (tr T t) x) := by
  have hd := dT_pos (m := m) hL
  have s := (sol_cc O hL).sh t x ht hx
  have pf : ∀ p, -(m : Int) ≤ p → p < T.length → plF m T p x = fr (pv T.length (fun k => ee (cc m T) T.length k (T.length + x)) (fun p => dT m T * ind (p = -1 - (x : Int))) p) (dT m T) := fun p h1 h2 => by
    unfold plF pv
    by_cases q : 0 ≤ p
    · rw [if_pos q, if_pos ⟨q, h2⟩]; rfl
    · rw [if_neg q, if_neg (by omega), fr_ind _ hd]
      congr 1
      unfold ind
      by_cases r : p = -1 - (x : Int)
      · rw [if_pos r, if_pos (by omega)]
      · rw [if_neg r, if_neg (by omega)]
  rw [pf _ (O.rl t ht).1 (O.rl t ht).2, pf _ (O.rr t ht).1 (O.rr t ht).2, half_fr hd, ← s]
  unfold shF
  rw [← fr_scale (k := 2) hd (by omega), Int.mul_comm, Int.mul_comm (dT m T)]
theorem mn_eq {m : Nat} {T : Tree} (O : Ok m T) (hL : ∀ t, t < T.length → Live T t) {t : Nat} (ht : t < T.length) :
    mnF m T t = fr ((half (pmF m T (tl T t)) (pmF m T (tr T t))).1 + (half (pmF m T (tl T t)) (pmF m T (tr T t))).2) (half (pmF m T (tl T t)) (pmF m T (tr T t))).2 := by
  have hd := dT_pos (m := m) hL
  have s := (sol_cc O hL).mn t ht
  have pf : ∀ p : Int, p < T.length → pmF m T p = fr (pv T.length (fun t => ee (cc m T) T.length t (T.length + m)) (fun _ => 0) p) (dT m T) := fun p h2 => by
    unfold pmF pv
    by_cases q : 0 ≤ p
    · rw [if_pos q, if_pos ⟨q, h2⟩]; rfl
    · rw [if_neg q, if_neg (by omega)]
      have e := fr_ind _ hd False
      rw [ind_f (fun h => h), Int.mul_zero] at e
      exact e.symm
  rw [pf _ (O.rl t ht).2, pf _ (O.rr t ht).2, half_fr hd]
  generalize pv T.length (fun t => ee (cc m T) T.length t (T.length + m)) (fun _ => 0) (tl T t) + pv T.length (fun t => ee (cc m T) T.length t (T.length + m)) (fun _ => 0) (tr T t) = a at *
  have e1 := fr_mul (p := a) (q := 2 * dT m T) (by omega)
  have b1 := fr_pos (p := a) (q := 2 * dT m T) (by omega)
  unfold mnF
  refine fr_eq hd b1 ?_
  generalize (fr a (2 * dT m T)).1 = u at *
  generalize (fr a (2 * dT m T)).2 = v at *
  have : 2 * (ee (cc m T) T.length t (T.length + m) * v) = 2 * ((u + v) * dT m T) := by grind
  omega
end SM
end
section
namespace SM
/-! ### rows of tosses -/
/-- how many rows of d tosses lead to a node -/
def Wv (T : Tree) : Nat → Nat → Int
  | 0, k => ind (k = 0)
  | d + 1, k => sm T.length (fun j => Wv T d j * (ind (tl T j = (k : Int)) + ind (tr T j = (k : Int))))
/-- how many rows of just d tosses draw a thing -/
def Lv (T : Tree) : Nat → Nat → Int
  | 0, _ => 0
  | d + 1, x => sm T.length (fun j => Wv T d j * (ind (tl T j = -1 - (x : Int)) + ind (tr T j = -1 - (x : Int))))
def Wt (T : Tree) (d : Nat) : Int := sm T.length (fun k => Wv T d k)
theorem Wv_nonneg (T : Tree) : ∀ d k, 0 ≤ Wv T d k
  | 0, _ => ind_nonneg _
  | d + 1, k => sm_nonneg fun j _ => Int.mul_nonneg (Wv_nonneg T d j) (by have := ind_nonneg (tl T j = (k : Int)); have := ind_nonneg (tr T j = (k : Int)); omega)
/-- Σ_k W y, for any y -/
def dot (T : Tree) (d : Nat) (y : Nat → Int) : Int := sm T.length (fun k => Wv T d k * y k)
theorem dot_zero {T : Tree} (h : 0 < T.length) (y : Nat → Int) : dot T 0 y = y 0 := by
  unfold dot
  rw [sm_one h (fun i _ hn => by show ind (i = 0) * y i = 0; rw [ind_f hn]; simp)]
  show ind ((0 : Nat) = 0) * y 0 = y 0
  rw [ind_t rfl, Int.one_mul]
theorem pv_sums {m n : Nat} (y : Nat → Int) (z : Nat → Int) (p : Int) :
    pv n y (fun p => sm m (fun x => z x * ind (p = -1 - (x : Int)))) p = sm n (fun k => y k * ind (p = (k : Int))) + sm m (fun x => z x * ind (p = -1 - (x : Int))) := by
  rw [sm_ind]
  unfold pv
  split
  · rename_i q
    rw [sm_zero (n := m) fun x _ => mind_f _ (by omega)]; omega
  · show sm m (fun x => z x * ind (p = -1 - (x : Int))) = 0 + sm m (fun x => z x * ind (p = -1 - (x : Int)))
    omega
theorem dot_step {m : Nat} {T : Tree} (y z : Nat → Int) (κ : Int)
    (h : ∀ t, t < T.length → 2 * y t = pv T.length y (fun p => sm m (fun x => z x * ind (p = -1 - (x : Int)))) (tl T t) + pv T.length y (fun p => sm m (fun x => z x * ind (p = -1 - (x : Int)))) (tr T t) + κ) (d : Nat) :
    2 * dot T d y = dot T (d + 1) y + sm m (fun x => z x * Lv T (d + 1) x) + κ * Wt T d := by
  have e1 : 2 * dot T d y = sm T.length (fun t => Wv T d t * (2 * y t)) := by
    unfold dot; rw [← sm_mul]; exact sm_congr fun t _ => by grind
  have e2 : sm T.length (fun t => Wv T d t * (2 * y t)) = sm T.length (fun t => (sm T.length (fun k => Wv T d t * (ind (tl T t = (k : Int)) + ind (tr T t = (k : Int))) * y k) + sm m (fun x => z x * (Wv T d t * (ind (tl T t = -1 - (x : Int)) + ind (tr T t = -1 - (x : Int)))))) + κ * Wv T d t) := sm_congr fun t ht => by
    rw [h t ht, pv_sums y z, pv_sums y z]
    have q1 : sm T.length (fun k => Wv T d t * (ind (tl T t = (k : Int)) + ind (tr T t = (k : Int))) * y k) = Wv T d t * sm T.length (fun k => y k * ind (tl T t = (k : Int))) + Wv T d t * sm T.length (fun k => y k * ind (tr T t = (k : Int))) := sm_lin _ _ fun k _ => by grind
    have q2 : sm m (fun x => z x * (Wv T d t * (ind (tl T t = -1 - (x : Int)) + ind (tr T t = -1 - (x : Int))))) = Wv T d t * sm m (fun x => z x * ind (tl T t = -1 - (x : Int))) + Wv T d t * sm m (fun x => z x * ind (tr T t = -1 - (x : Int))) := sm_lin _ _ fun k _ => by grind
    rw [q1, q2]
    grind
  rw [e1, e2, sm_add, sm_add, sm_mul, sm_swap, sm_swap T.length m]
  have e3 : dot T (d + 1) y = sm T.length (fun k => sm T.length (fun t => Wv T d t * (ind (tl T t = (k : Int)) + ind (tr T t = (k : Int))) * y k)) := sm_congr fun k _ => by
    show sm T.length (fun j => Wv T d j * (ind (tl T j = (k : Int)) + ind (tr T j = (k : Int)))) * y k = _
    rw [Int.mul_comm, ← sm_mul]
    exact sm_congr fun t _ => by grind
  have e4 : sm m (fun x => z x * Lv T (d + 1) x) = sm m (fun x => sm T.length (fun t => z x * (Wv T d t * (ind (tl T t = -1 - (x : Int)) + ind (tr T t = -1 - (x : Int)))))) := sm_congr fun x _ => by
    rw [sm_mul]; rfl
  rw [e3, e4]; rfl
theorem Wt_step {m : Nat} {T : Tree} (O : Ok m T) (d : Nat) : 2 * Wt T d = Wt T (d + 1) + sm m (fun x => Lv T (d + 1) x) := by
  have e := dot_step (m := m) (T := T) (fun _ => 1) (fun _ => 1) 0 (fun t ht => by
    have q : ∀ p, -(m : Int) ≤ p → p < T.length → pv T.length (fun _ => 1) (fun p => sm m (fun x => 1 * ind (p = -1 - (x : Int)))) p = 1 := fun p h1 h2 => by
      unfold pv; split
      · rfl
      · rename_i q
        exact sm_thing 1 h1 (by omega)
    rw [q _ (O.rl t ht).1 (O.rl t ht).2, q _ (O.rr t ht).1 (O.rr t ht).2]; rfl) d
  unfold dot at e
  simp only [Int.mul_one, Int.one_mul, Int.zero_mul, Int.add_zero] at e
  exact e

/-! ### the figures of 1 / m and the least mean -/
def rem (m d : Nat) : Int := ((2 ^ d % m : Nat) : Int)
def dig (m d : Nat) : Int := ((2 ^ d / m % 2 : Nat) : Int)
theorem rem_dig {m : Nat} (hm : 0 < m) (d : Nat) : rem m (d + 1) = 2 * rem m d - m * dig m (d + 1) := by
  unfold rem dig
  have h1 := Nat.div_add_mod (2 ^ d) m
  have h2 := Nat.div_add_mod (2 ^ (d + 1)) m
  have h3 := Nat.mod_lt (2 ^ d) hm
  have h4 := Nat.mod_lt (2 ^ (d + 1)) hm
  have e : 2 ^ (d + 1) = 2 * 2 ^ d := by rw [Nat.pow_succ, Nat.mul_comm]
  rw [e] at h2 h4 ⊢
  generalize 2 ^ d = a at *
  have k : 2 * a / m = 2 * (a / m) ∨ 2 * a / m = 2 * (a / m) + 1 := by
    have k1 : 2 * (a / m) ≤ 2 * a / m := (Nat.le_div_iff_mul_le hm).mpr (by grind)
    have k2 : 2 * a / m < 2 * (a / m) + 2 := (Nat.div_lt_iff_lt_mul hm).mpr (by grind)
    omega
  generalize a / m = b at *
  generalize a % m = r at *
  generalize 2 * a % m = r2 at *
  rcases k with k | k
  · rw [k] at h2 ⊢
    have : (2 * b) % 2 = 0 := by omega
    rw [this]
    have : m * (2 * b) = 2 * (m * b) := by grind
    omega
  · rw [k] at h2 ⊢
    have : (2 * b + 1) % 2 = 1 := by omega
    rw [this]
    have : m * (2 * b + 1) = 2 * (m * b) + m := by grind
    push_cast
    omega
theorem rem_nonneg (m d : Nat) : 0 ≤ rem m d := by unfold rem; omega
theorem rem_lt {m : Nat} (hm : 0 < m) (d : Nat) : rem m d < m := by
  have := Nat.mod_lt (2 ^ d) hm
  unfold rem; omega
theorem rem_succ {m : Nat} (d : Nat) : rem m (d + 1) = 2 * rem m d % m := by
  unfold rem
  have : 2 ^ (d + 1) % m = 2 * (2 ^ d % m) % m := by rw [Nat.pow_succ, Nat.mul_comm]; simp [Nat.mul_mod]
  rw [this]; push_cast; rfl
/-- (first, round) -/
def rnd : Nat → Nat × Nat
  | 1 => (0, 1) | 2 => (1, 1) | 3 => (0, 2) | 4 => (2, 1) | 5 => (0, 4) | 6 => (1, 2) | 7 => (0, 3) | 8 => (3, 1) | 9 => (0, 6) | 10 => (1, 4) | 11 => (0, 10) | 12 => (2, 2)
  | _ => (0, 1)
def byTwos (l : List Int) : Int := l.foldl (fun a x => 2 * a + x) 0
def opens (m n : Nat) : List Int := (List.range n).map (rem m)
def meanOf (places : List Int) (f c : Nat) : Int × Int := fr (2 * (byTwos (places.take f) * (2 ^ c - 1) + byTwos (places.drop f))) (2 ^ f * (2 ^ c - 1))
def bst (m : Nat) : Int × Int := meanOf (opens m ((rnd m).1 + (rnd m).2)) (rnd m).1 (rnd m).2
def uF (m : Nat) (q : Int) (s : Int × Int) : Int × Int := (2 * s.1 % m, 2 * (s.2 - q * s.1))
def uu (m : Nat) : Nat → Int × Int
  | 0 => (rem m 0, (bst m).1)
  | d + 1 => uF m (bst m).2 (uu m d)
theorem uu_rem (m : Nat) : ∀ d, (uu m d).1 = rem m d
  | 0 => rfl
  | d + 1 => by rw [rem_succ, ← uu_rem m d]; rfl
theorem uu_periodic {m f c : Nat} (h : uu m (f + c) = uu m f) : ∀ d, f ≤ d → uu m (d + c) = uu m d := fun d hd => by
  obtain ⟨k, rfl⟩ := Nat.exists_eq_add_of_le hd
  clear hd
  induction k with
  | zero => exact h
  | succ k ih =>
    have e : f + (k + 1) + c = f + k + c + 1 := by omega
    rw [e]
    show uF m (bst m).2 (uu m (f + k + c)) = uF m (bst m).2 (uu m (f + k))
    rw [ih]
theorem uu_all {m f c : Nat} {P : Int × Int → Prop} (hc : 0 < c) (h : uu m (f + c) = uu m f) (hP : ∀ i, i < f + c → P (uu m i)) (d : Nat) : P (uu m d) := by
  induction d using Nat.strongRecOn with
  | _ d ih =>
    by_cases q : d < f + c
    · exact hP d q
    · have e := uu_periodic h (d - c) (by omega)
      rw [show d - c + c = d by omega] at e
      rw [e]; exact ih (d - c) (by omega)
def small (m : Nat) : Bool := decide (1 ≤ m ∧ m ≤ 12)
def uOk (m : Nat) : Bool := decide (0 < (bst m).2) && decide (0 < (rnd m).2) && decide (uu m ((rnd m).1 + (rnd m).2) = uu m (rnd m).1) && (List.range ((rnd m).1 + (rnd m).2)).all fun i => decide (0 ≤ (uu m i).2) && decide ((uu m i).2 ≤ 2 * m * (bst m).2)
theorem uOk_all : ((List.range 13).all fun m => m == 0 || uOk m) = true := by decide +kernel
theorem uOk_of {m : Nat} (h1 : 1 ≤ m) (h2 : m ≤ 12) : uOk m = true := by
  have h := List.all_eq_true.mp uOk_all m (List.mem_range.mpr (by omega))
  have : (m == 0) = false := by simp; omega
  rw [this] at h
  simpa using h
theorem bst_pos {m : Nat} (h1 : 1 ≤ m) (h2 : m ≤ 12) : 0 < (bst m).2 := by
  have h := uOk_of h1 h2
  unfold uOk at h
  simp only [Bool.and_eq_true, decide_eq_true_eq] at h
  exact h.1.1.1
theorem uu_bound {m : Nat} (h1 : 1 ≤ m) (h2 : m ≤ 12) (d : Nat) : 0 ≤ (uu m d).2 ∧ (uu m d).2 ≤ 2 * m * (bst m).2 := by
  have h := uOk_of h1 h2
  unfold uOk at h
  simp only [Bool.and_eq_true, decide_eq_true_eq, List.all_eq_true, List.mem_range] at h
  exact uu_all (P := fun s => 0 ≤ s.2 ∧ s.2 ≤ 2 * m * (bst m).2) h.1.1.2 h.1.2 (fun i hi => h.2 i hi) d
end SM
end
section
namespace SM
section
variable {m : Nat} {T : Tree} {d : Int} {X : Nat → Nat → Int} {M : Nat → Int}
/-- what still stands to be drawn of a thing -/
def rest (m : Nat) (T : Tree) (x : Nat) : Nat → Int
  | 0 => 1
  | D + 1 => 2 * rest m T x D - m * Lv T (D + 1) x
theorem rest_dot (O : Ok m T) (s : Sol m T d X M) {e : Int} (he : d = m * e) {x : Nat} (hx : x < m) (h0 : X 0 x = e) : ∀ D, dot T D (fun k => X k x) = e * rest m T x D
  | 0 => by rw [dot_zero O.pos]; simp only [rest]; omega
  | D + 1 => by
    have st := dot_step (m := m) (T := T) (fun k => X k x) (fun i => d * ind (i = x)) 0 (fun t ht => by
      have q : ∀ p, sm m (fun i => d * ind (i = x) * ind (p = -1 - (i : Int))) = d * ind (p = -1 - (x : Int)) := fun p => by
        rw [sm_one hx (fun i _ hn => by rw [ind_f hn]; simp), ind_t rfl, Int.mul_one]
      simp only [q]
      have := s.sh t x ht hx
      omega) D
    rw [sm_one hx (fun i _ hn => by rw [ind_f hn]; simp), ind_t rfl, rest_dot O s he hx h0 D] at st
    simp only [rest]
    subst he
    grind
theorem rest_sum (O : Ok m T) (hL : ∀ t, t < T.length → Live T t) (s : Sol m T d X M) {e : Int} (he : d = m * e) (e0 : 0 < e) (h0 : ∀ x, x < m → X 0 x = e) (D : Nat) : sm m (fun x => rest m T x D) = m * Wt T D := by
  have h1 : sm m (fun x => dot T D (fun k => X k x)) = d * Wt T D := by
    unfold dot Wt
    rw [sm_swap, ← sm_mul]
    refine sm_congr fun k hk => ?_
    rw [sm_mul, s.total O hL k hk, Int.mul_comm]
  have h2 : sm m (fun x => dot T D (fun k => X k x)) = e * sm m (fun x => rest m T x D) := by
    rw [← sm_mul]; exact sm_congr fun x hx => rest_dot O s he hx (h0 x hx) D
  have : e * sm m (fun x => rest m T x D) = e * (m * Wt T D) := by rw [← h2, h1, he]; grind
  exact Int.eq_of_mul_eq_mul_left (by omega) this
theorem rest_mod (hm : 0 < m) (x : Nat) : ∀ D, ∃ k, rest m T x D = rem m D + m * k
  | 0 => by
    have := Nat.div_add_mod 1 m
    refine ⟨((1 / m : Nat) : Int), ?_⟩
    unfold rem
    simp only [rest, Nat.pow_zero]
    have : ((m * (1 / m) + 1 % m : Nat) : Int) = 1 := by rw [this]; rfl
    push_cast at this ⊢
    omega
  | D + 1 => by
    obtain ⟨k, hk⟩ := rest_mod hm x D
    refine ⟨2 * k + dig m (D + 1) - Lv T (D + 1) x, ?_⟩
    simp only [rest]
    rw [hk, rem_dig hm D]
    grind
theorem rest_nonneg (O : Ok m T) (hd : 0 < d) (hL : ∀ t, t < T.length → Live T t) (s : Sol m T d X M) {e : Int} (he : d = m * e) (e0 : 0 < e) {x : Nat} (hx : x < m) (h0 : X 0 x = e) (D : Nat) : 0 ≤ rest m T x D := by
  have h := rest_dot O s he hx h0 D
  have n : 0 ≤ dot T D (fun k => X k x) := sm_nonneg fun k hk => Int.mul_nonneg (Wv_nonneg T D k) (s.sh_nonneg (Int.le_of_lt hd) hL k x hk hx)
  rw [h] at n
  have : ¬ rest m T x D < 0 := fun q => by
    have := Int.mul_neg_of_pos_of_neg e0 q
    omega
  omega
theorem rest_ge (O : Ok m T) (hm : 0 < m) (hd : 0 < d) (hL : ∀ t, t < T.length → Live T t) (s : Sol m T d X M) {e : Int} (he : d = m * e) (e0 : 0 < e) {x : Nat} (hx : x < m) (h0 : X 0 x = e) (D : Nat) : rem m D ≤ rest m T x D := by
  obtain ⟨k, hk⟩ := rest_mod (T := T) hm x D
  have n := rest_nonneg O hd hL s he e0 hx h0 D
  have l := rem_lt hm D
  have : 0 ≤ k := by
    refine Decidable.byContradiction fun q => ?_
    have : (m : Int) * k ≤ m * (-1) := Int.mul_le_mul_of_nonneg_left (by omega) (by omega)
    omega
  have := Int.mul_nonneg (show (0 : Int) ≤ m by omega) this
  omega
/-- the difference of the means, carried on -/
def ex (m : Nat) (T : Tree) (d : Int) (M : Nat → Int) (D : Nat) : Int := dot T D M * (bst m).2 - (uu m D).2 * d
theorem ex_step (s : Sol m T d X M) (D : Nat) : ex m T d M (D + 1) = 2 * ex m T d M D - 2 * d * (bst m).2 * (Wt T D - rem m D) := by
  have st := dot_step (m := m) (T := T) M (fun _ => 0) (2 * d) (fun t ht => by
    have q : ∀ p : Int, sm m (fun i => 0 * ind (p = -1 - (i : Int))) = 0 := fun p => sm_zero fun i _ => by simp
    simp only [q]
    exact s.mn t ht) D
  rw [sm_zero (f := fun x => 0 * Lv T (D + 1) x) fun i _ => by simp] at st
  have e1 : (uu m (D + 1)).2 = 2 * ((uu m D).2 - (bst m).2 * (uu m D).1) := rfl
  rw [uu_rem] at e1
  unfold ex
  rw [e1]
  grind
theorem Wt_ge (O : Ok m T) (hm : 0 < m) (hd : 0 < d) (hL : ∀ t, t < T.length → Live T t) (s : Sol m T d X M) {e : Int} (he : d = m * e) (e0 : 0 < e) (h0 : ∀ x, x < m → X 0 x = e) (D : Nat) : rem m D ≤ Wt T D := by
  have h := rest_sum O hL s he e0 h0 D
  have h2 : sm m (fun _ => rem m D) ≤ sm m (fun x => rest m T x D) := sm_le fun x hx => rest_ge O hm hd hL s he e0 hx (h0 x hx) D
  rw [sm_const, h] at h2
  exact Int.le_of_mul_le_mul_left h2 (by omega)
theorem rest_eq (O : Ok m T) (hm : 0 < m) (hd : 0 < d) (hL : ∀ t, t < T.length → Live T t) (s : Sol m T d X M) {e : Int} (he : d = m * e) (e0 : 0 < e) (h0 : ∀ x, x < m → X 0 x = e) (D : Nat) (hw : Wt T D = rem m D) : ∀ x, x < m → rest m T x D = rem m D := fun x hx => by
  have h := rest_sum O hL s he e0 h0 D
  have z : sm m (fun y => rest m T y D - rem m D) = 0 := by rw [sm_sub, sm_const, h, hw]; omega
  have n : ∀ y, y < m → 0 ≤ rest m T y D - rem m D := fun y hy => by have := rest_ge O hm hd hL s he e0 hy (h0 y hy) D; omega
  have le : rest m T x D - rem m D ≤ sm m (fun y => rest m T y D - rem m D) := by
    have q : sm m (fun y => if y = x then rest m T y D - rem m D else 0) ≤ sm m (fun y => rest m T y D - rem m D) := sm_le fun y hy => by
      split
      · exact Int.le_refl _
      · exact n y hy
    rw [sm_one hx (fun y _ hn => if_neg hn), if_pos rfl] at q
    exact q
  have := n x hx
  omega
/-- the greatest of M -/
theorem exists_max (y : Nat → Int) : ∀ k : Nat, ∃ C, ∀ t, t < k → y t ≤ C
  | 0 => ⟨0, fun _ h => by omega⟩
  | k + 1 => by
    obtain ⟨C, h⟩ := exists_max y k
    by_cases q : C ≤ y k
    · exact ⟨y k, fun t ht => by
        by_cases e : t = k
        · subst e; exact Int.le_refl _
        · have := h t (by omega); omega⟩
    · exact ⟨C, fun t ht => by
        by_cases e : t = k
        · subst e; omega
        · exact h t (by omega)⟩
theorem two_pow_gt (n : Nat) : (n : Int) < 2 ^ n := by
  have := @Nat.lt_two_pow_self n
  exact_mod_cast this
/-- an even tree of the least mean has its leaves by the figures -/
theorem ky_fwd (O : Ok m T) (h1 : 1 ≤ m) (h12 : m ≤ 12) (hd : 0 < d) (hL : ∀ t, t < T.length → Live T t) (s : Sol m T d X M) {e : Int} (he : d = m * e) (e0 : 0 < e) (h0 : ∀ x, x < m → X 0 x = e)
    (hb : M 0 * (bst m).2 = (bst m).1 * d) : ∀ D, Wt T D = rem m D := by
  have q0 := bst_pos h1 h12
  have ge := Wt_ge O (by omega) hd hL s he e0 h0
  have dq : 0 < 2 * d * (bst m).2 := Int.mul_pos (by omega) q0
  have neg : ∀ D, ex m T d M D ≤ 0 := fun D => by
    induction D with
    | zero =>
      unfold ex
      rw [dot_zero O.pos]
      show M 0 * (bst m).2 - (bst m).1 * d ≤ 0
      omega
    | succ D ih =>
      rw [ex_step s]
      have := Int.mul_nonneg (Int.le_of_lt dq) (show 0 ≤ Wt T D - rem m D by have := ge D; omega)
      omega
  have low : ∀ D, -(2 * m * (bst m).2 * d) ≤ ex m T d M D := fun D => by
    have n : 0 ≤ dot T D M := sm_nonneg fun k hk => Int.mul_nonneg (Wv_nonneg T D k) (s.mn_nonneg (Int.le_of_lt hd) hL k hk)
    have n2 := Int.mul_nonneg n (Int.le_of_lt q0)
    have b := (uu_bound h1 h12 D).2
    have := Int.mul_le_mul_of_nonneg_right b (Int.le_of_lt hd)
    unfold ex
    omega
  intro D
  refine Decidable.byContradiction fun hne => ?_
  have g : 1 ≤ Wt T D - rem m D := by have := ge D; omega
  have down : ∀ j : Nat, ex m T d M (D + 1 + j) ≤ -(2 * d * (bst m).2 * 2 ^ j) := fun j => by
    induction j with
    | zero =>
      rw [Nat.add_zero, ex_step s]
      have := Int.mul_le_mul_of_nonneg_left g (Int.le_of_lt dq)
      have := neg D
      simp only [Int.pow_zero]
      omega
    | succ j ih =>
      rw [show D + 1 + (j + 1) = D + 1 + j + 1 by omega, ex_step s, Int.pow_succ]
      have := Int.mul_nonneg (Int.le_of_lt dq) (show 0 ≤ Wt T (D + 1 + j) - rem m (D + 1 + j) by have := ge (D + 1 + j); omega)
      grind
  have a := down m
  have b := low (D + 1 + m)
  have c : 2 * d * (bst m).2 * 2 ^ m ≤ 2 * d * (bst m).2 * m := by grind
  have := Int.le_of_mul_le_mul_left c dq
  have := two_pow_gt m
  omega
/-- where as many places stay open as the figures say the mean is the least -/
theorem ky_bwd (O : Ok m T) (h1 : 1 ≤ m) (h12 : m ≤ 12) (hd : 0 < d) (hL : ∀ t, t < T.length → Live T t) (s : Sol m T d X M) (hw : ∀ D, Wt T D = rem m D) : M 0 * (bst m).2 = (bst m).1 * d := by
  have q0 := bst_pos h1 h12
  obtain ⟨C0, hC0⟩ := exists_max M T.length
  have mn0 := s.mn_nonneg (Int.le_of_lt hd) hL
  have hC : 0 ≤ C0 := Int.le_trans (mn0 0 O.pos) (hC0 0 O.pos)
  have up : ∀ D, ex m T d M D ≤ m * C0 * (bst m).2 := fun D => by
    have n : dot T D M ≤ Wt T D * C0 := by
      unfold dot Wt
      rw [Int.mul_comm, ← sm_mul]
      refine sm_le fun k hk => ?_
      rw [Int.mul_comm C0]
      exact Int.mul_le_mul_of_nonneg_left (hC0 k hk) (Wv_nonneg T D k)
    have l := rem_lt (m := m) (by omega) D
    rw [hw D] at n
    have n1 : rem m D * C0 ≤ m * C0 := Int.mul_le_mul_of_nonneg_right (by omega) hC
    have n2 := Int.mul_le_mul_of_nonneg_right (Int.le_trans n n1) (Int.le_of_lt q0)
    have b := Int.mul_nonneg (uu_bound h1 h12 D).1 (Int.le_of_lt hd)
    unfold ex
    omega
  have low : ∀ D, -(2 * m * (bst m).2 * d) ≤ ex m T d M D := fun D => by
    have n : 0 ≤ dot T D M := sm_nonneg fun k hk => Int.mul_nonneg (Wv_nonneg T D k) (mn0 k hk)
    have n2 := Int.mul_nonneg n (Int.le_of_lt q0)
    have b := (uu_bound h1 h12 D).2
    have := Int.mul_le_mul_of_nonneg_right b (Int.le_of_lt hd)
    unfold ex
    omega
  have pow : ∀ D, ex m T d M D = 2 ^ D * ex m T d M 0 := fun D => by
    induction D with
    | zero => simp
    | succ D ih =>
      rw [ex_step s, hw D, Int.pow_succ, ih]
      grind
  have z : ex m T d M 0 = 0 := by
    refine Decidable.byContradiction fun hne => ?_
    let A := (m * C0 * (bst m).2 + 2 * m * (bst m).2 * d).toNat
    have a := pow A
    have b1 := up A
    have b2 := low A
    have c := two_pow_gt A
    have p1 : 0 ≤ m * C0 * (bst m).2 := Int.mul_nonneg (Int.mul_nonneg (by omega) hC) (Int.le_of_lt q0)
    have p2 : 0 ≤ 2 * m * (bst m).2 * d := Int.mul_nonneg (Int.mul_nonneg (by omega) (Int.le_of_lt q0)) (Int.le_of_lt hd)
    have hA : (A : Int) = m * C0 * (bst m).2 + 2 * m * (bst m).2 * d := by omega
    rcases Int.lt_or_gt_of_ne hne with q | q
    · have : (2 : Int) ^ A * ex m T d M 0 ≤ 2 ^ A * (-1) := Int.mul_le_mul_of_nonneg_left (by omega) (by omega)
      omega
    · have : (2 : Int) ^ A * 1 ≤ 2 ^ A * ex m T d M 0 := Int.mul_le_mul_of_nonneg_left (by omega) (by omega)
      omega
  unfold ex at z
  rw [dot_zero O.pos] at z
  have z2 : M 0 * (bst m).2 - (bst m).1 * d = 0 := z
  omega
/-- leaves by the figures, and open places -/
theorem leaves_of_Wt (O : Ok m T) (hm : 0 < m) (hd : 0 < d) (hL : ∀ t, t < T.length → Live T t) (s : Sol m T d X M) {e : Int} (he : d = m * e) (e0 : 0 < e) (h0 : ∀ x, x < m → X 0 x = e)
    (hw : ∀ D, Wt T D = rem m D) (D x : Nat) (hx : x < m) : Lv T D x = dig m D := by
  cases D with
  | zero =>
    have h := hw 0
    have : Wt T 0 = 1 := by
      show sm T.length (fun k => ind (k = 0)) = 1
      rw [sm_one O.pos (fun i _ hn => ind_f hn)]
      exact ind_t rfl
    rw [this] at h
    unfold rem at h
    show (0 : Int) = ((2 ^ 0 / m % 2 : Nat) : Int)
    by_cases q : m = 1
    · subst q; simp at h
    · have : 2 ^ 0 / m = 0 := Nat.div_eq_of_lt (by omega)
      rw [this]; rfl
  | succ D =>
    have r1 := rest_eq O hm hd hL s he e0 h0 D (hw D) x hx
    have r2 := rest_eq O hm hd hL s he e0 h0 (D + 1) (hw (D + 1)) x hx
    simp only [rest] at r2
    rw [r1, rem_dig hm D] at r2
    have : (m : Int) * Lv T (D + 1) x = m * dig m (D + 1) := by omega
    exact Int.eq_of_mul_eq_mul_left (by omega) this
theorem Wt_of_leaves (O : Ok m T) (hm : 0 < m) (h : ∀ D x, x < m → Lv T D x = dig m D) (D : Nat) : Wt T D = rem m D := by
  induction D with
  | zero =>
    have w : Wt T 0 = 1 := by
      show sm T.length (fun k => ind (k = 0)) = 1
      rw [sm_one O.pos (fun i _ hn => ind_f hn)]
      exact ind_t rfl
    have h0 := h 0 0 hm
    have h1 : (0 : Int) = ((1 / m % 2 : Nat) : Int) := h0
    have : m ≠ 1 := fun q => by subst q; simp at h1
    rw [w]
    unfold rem
    rw [Nat.pow_zero, Nat.mod_eq_of_lt (by omega)]; rfl
  | succ D ih =>
    have := Wt_step O D
    rw [sm_congr fun x hx => h (D + 1) x hx, sm_const, ih] at this
    rw [rem_dig hm D]
    omega
end
/-! ### rows of numbers by one rule -/
/-- n + 1 rows of n numbers: some of them, not all with the factor 0, add up to noughts -/
theorem dependent : ∀ (n : Nat) (v : Nat → Nat → Int), ∃ c : Nat → Int, (∃ i, i ≤ n ∧ c i ≠ 0) ∧ ∀ k, k < n → sm (n + 1) (fun i => c i * v i k) = 0
  | 0, _ => ⟨fun _ => 1, ⟨0, Nat.le_refl _, Int.one_ne_zero⟩, fun k hk => by omega⟩
  | n + 1, v => by
    by_cases hz : ∃ p, p ≤ n + 1 ∧ v p n ≠ 0
    · obtain ⟨p, hp, hv⟩ := hz
      let sk : Nat → Nat := fun i => if i < p then i else i + 1
      obtain ⟨c, ⟨i0, hi0, hc0⟩, hc⟩ := dependent n (fun i k => v p n * v (sk i) k - v (sk i) n * v p k)
      -- the factor of the row p
      let b : Int := sm (n + 1) (fun i => c i * v (sk i) n)
      let cf : Nat → Int := fun j => if j = p then - b else if j < p then v p n * c j else v p n * c (j - 1)
      have key : ∀ f : Nat → Int, sm (n + 2) (fun j => cf j * f j) = v p n * sm (n + 1) (fun i => c i * f (sk i)) - b * f p := fun f => by
        have split : ∀ (k : Nat) (g : Nat → Int), p ≤ k → sm (k + 1) g = sm k (fun i => g (sk i)) + g p := fun k g hk => by
          induction k with
          | zero =>
            have : p = 0 := by omega
            subst this
            simp [sm]
          | succ k ih =>
            by_cases q : p = k + 1
            · subst q
              show sm (k + 1) g + g (k + 1) = _
              rw [sm_congr (f := fun i => g (sk i)) (g := g) fun i hi => by simp only [sk]; rw [if_pos hi]]
            · show sm (k + 1) g + g (k + 1) = sm k (fun i => g (sk i)) + g (sk k) + g p
              have : sk k = k + 1 := by simp only [sk]; rw [if_neg (by omega)]
              rw [ih (by omega), this]; omega
        rw [split (n + 1) (fun j => cf j * f j) hp]
        have e1 : sm (n + 1) (fun i => cf (sk i) * f (sk i)) = v p n * sm (n + 1) (fun i => c i * f (sk i)) := by
          rw [← sm_mul]
          refine sm_congr fun i hi => ?_
          have : cf (sk i) = v p n * c i := by
            simp only [cf, sk]
            by_cases q : i < p
            · rw [if_pos q, if_neg (by omega), if_pos q]
            · rw [if_neg q, if_neg (by omega), if_neg (by omega)]; simp
          rw [this]; grind
        have e2 : cf p = - b := if_pos rfl
        rw [e1, e2]; grind
      refine ⟨cf, ?_, fun k hk => ?_⟩
      · refine ⟨sk i0, by simp only [sk]; split <;> omega, ?_⟩
        have : cf (sk i0) = v p n * c i0 := by
          simp only [cf, sk]
          by_cases q : i0 < p
          · rw [if_pos q, if_neg (by omega), if_pos q]
          · rw [if_neg q, if_neg (by omega), if_neg (by omega)]; simp
        rw [this]
        exact Int.mul_ne_zero hv hc0
      · rw [key (fun j => v j k)]
        by_cases q : k = n
        · subst q
          show v p k * b - b * v p k = 0
          grind
        · have h := hc k (by omega)
          have e : sm (n + 1) (fun i => c i * (v p n * v (sk i) k - v (sk i) n * v p k)) = v p n * sm (n + 1) (fun i => c i * v (sk i) k) + (- v p k) * sm (n + 1) (fun i => c i * v (sk i) n) := sm_lin _ _ fun i _ => by grind
          rw [e] at h
          show v p n * sm (n + 1) (fun i => c i * v (sk i) k) - b * v p k = 0
          simp only [b]
          grind
    · have hz' : ∀ p, p ≤ n + 1 → v p n = 0 := fun p hp => Decidable.byContradiction fun q => hz ⟨p, hp, q⟩
      obtain ⟨c, ⟨i0, hi0, hc0⟩, hc⟩ := dependent n v
      refine ⟨fun i => if i ≤ n then c i else 0, ⟨i0, by omega, by show (if i0 ≤ n then c i0 else 0) ≠ 0; rw [if_pos hi0]; exact hc0⟩, fun k hk => ?_⟩
      show sm (n + 1) (fun i => (if i ≤ n then c i else 0) * v i k) + (if n + 1 ≤ n then c (n + 1) else 0) * v (n + 1) k = 0
      have e : sm (n + 1) (fun i => (if i ≤ n then c i else 0) * v i k) = sm (n + 1) (fun i => c i * v i k) := sm_congr fun i hi => by rw [if_pos (by omega)]
      rw [e, if_neg (by omega)]
      by_cases q : k = n
      · subst q
        rw [sm_zero fun i hi => by rw [hz' i (by omega)]; simp]; simp
      · rw [hc k (by omega)]; simp
/-- what a sum of n numbers tells, by one rule from step to step, is 0 for ever if it is 0 n times -/
theorem for_ever {n : Nat} (z : Nat → Nat → Int) (F : Nat → Nat → Int) (hF : ∀ i k, k < n → z (i + 1) k = sm n (fun j => F k j * z i j)) (o : Nat → Int) (h : ∀ i, i ≤ n → sm n (fun j => o j * z i j) = 0) (i : Nat) : sm n (fun j => o j * z i j) = 0 := by
  obtain ⟨c, ⟨i0, hi0, hc0⟩, hc⟩ := dependent n z
  -- the last factor that is not 0
  obtain ⟨p, hp, hcp, hlast⟩ : ∃ p, p ≤ n ∧ c p ≠ 0 ∧ ∀ i, p < i → i ≤ n → c i = 0 := by
    have : ∀ k, k ≤ n → i0 ≤ k → (∀ i, k < i → i ≤ n → c i = 0) → ∃ p, p ≤ n ∧ c p ≠ 0 ∧ ∀ i, p < i → i ≤ n → c i = 0 := fun k => by
      induction k with
      | zero => intro hk h0 hl; exact ⟨0, hk, by rw [show (0 : Nat) = i0 by omega]; exact hc0, hl⟩
      | succ k ih =>
        intro hk h0 hl
        by_cases q : c (k + 1) = 0
        · have : i0 ≠ k + 1 := fun e => hc0 (e ▸ q)
          exact ih (by omega) (by omega) fun i h1 h2 => by
            by_cases e : i = k + 1
            · rw [e]; exact q
            · exact hl i (by omega) h2
        · exact ⟨k + 1, hk, q, hl⟩
    exact this n (Nat.le_refl _) hi0 fun i h1 h2 => by omega
  have hs : ∀ e k, k < n → sm (n + 1) (fun i => c i * z (i + e) k) = 0 := fun e => by
    induction e with
    | zero => exact hc
    | succ e ih =>
      intro k hk
      have e1 : sm (n + 1) (fun i => c i * z (i + (e + 1)) k) = sm (n + 1) (fun i => sm n (fun j => F k j * (c i * z (i + e) j))) := sm_congr fun i _ => by
        rw [show i + (e + 1) = i + e + 1 by omega, hF _ k hk, ← sm_mul]
        exact sm_congr fun j _ => by grind
      rw [e1, sm_swap]
      refine sm_zero fun j hj => ?_
      rw [sm_mul, ih j hj]; simp
  induction i using Nat.strongRecOn with
  | _ i ih =>
    by_cases q : i ≤ n
    · exact h i q
    · have e := hs (i - p)
      have e2 : sm (n + 1) (fun q => c q * sm n (fun j => o j * z (q + (i - p)) j)) = 0 := by
        have e1 : sm (n + 1) (fun q => c q * sm n (fun j => o j * z (q + (i - p)) j)) = sm (n + 1) (fun q => sm n (fun j => o j * (c q * z (q + (i - p)) j))) := sm_congr fun q _ => by
          rw [← sm_mul]; exact sm_congr fun j _ => by grind
        rw [e1, sm_swap]
        exact sm_zero fun j hj => by rw [sm_mul, e j hj]; simp
      rw [sm_one (a := p) (by omega) (fun q hq hne => by
        by_cases r : q < p
        · rw [ih (q + (i - p)) (by omega)]; simp
        · rw [hlast q (by omega) (by omega)]; simp)] at e2
      rw [show p + (i - p) = i by omega] at e2
      rcases Int.mul_eq_zero.mp e2 with r | r
      · exact absurd r hcp
      · exact r
end SM
end
section
namespace SM
theorem sm_append (a b : Nat) (f : Nat → Int) : sm (a + b) f = sm a f + sm b (fun i => f (a + i)) := by
  induction b with
  | zero => simp [sm]
  | succ b ih =>
    show sm (a + b) f + f (a + b) = sm a f + (sm b (fun i => f (a + i)) + f (a + b))
    rw [ih]; omega
/-! ### the figures come round -/
def nxt (m i : Nat) : Nat := if i + 1 = (rnd m).1 + (rnd m).2 then (rnd m).1 else i + 1
def posn (m : Nat) : Nat → Nat
  | 0 => 0
  | d + 1 => nxt m (posn m d)
theorem uOk_parts {m : Nat} (h1 : 1 ≤ m) (h2 : m ≤ 12) : 0 < (rnd m).2 ∧ uu m ((rnd m).1 + (rnd m).2) = uu m (rnd m).1 := by
  have h := uOk_of h1 h2
  unfold uOk at h
  simp only [Bool.and_eq_true, decide_eq_true_eq] at h
  exact ⟨h.1.1.2, h.1.2⟩
theorem posn_lt {m : Nat} (h1 : 1 ≤ m) (h2 : m ≤ 12) : ∀ d, posn m d < (rnd m).1 + (rnd m).2
  | 0 => by have := (uOk_parts h1 h2).1; show 0 < _; omega
  | d + 1 => by
    have := (uOk_parts h1 h2).1
    have := posn_lt h1 h2 d
    show nxt m (posn m d) < _
    unfold nxt; split <;> omega
theorem posn_rem {m : Nat} (h1 : 1 ≤ m) (h2 : m ≤ 12) : ∀ d, rem m (posn m d) = rem m d
  | 0 => rfl
  | d + 1 => by
    have e := (uOk_parts h1 h2).2
    have e2 : rem m ((rnd m).1 + (rnd m).2) = rem m (rnd m).1 := by rw [← uu_rem, ← uu_rem, e]
    have ih := posn_rem h1 h2 d
    show rem m (nxt m (posn m d)) = _
    rw [rem_succ d, ← ih, ← rem_succ]
    unfold nxt
    split
    · rename_i q; rw [q, e2]
    · rfl
theorem dig_of_rem {m : Nat} (h1 : 1 ≤ m) {a b : Nat} (h : rem m a = rem m b) : dig m (a + 1) = dig m (b + 1) := by
  have e1 := rem_dig (m := m) (by omega) a
  have e2 := rem_dig (m := m) (by omega) b
  rw [rem_succ] at e1 e2
  rw [h] at e1
  have : (m : Int) * dig m (a + 1) = m * dig m (b + 1) := by omega
  exact Int.eq_of_mul_eq_mul_left (by omega) this
theorem posn_dig {m : Nat} (h1 : 1 ≤ m) (h2 : m ≤ 12) (d : Nat) : dig m (posn m d + 1) = dig m (d + 1) := dig_of_rem h1 (posn_rem h1 h2 d)
/-- leaves by the figures so far as the sums reach: for ever -/
theorem leaves_ever {m : Nat} {T : Tree} (h1 : 1 ≤ m) (h2 : m ≤ 12) (N : Nat) (hN : T.length + ((rnd m).1 + (rnd m).2) + 1 ≤ N) (h : ∀ D x, D ≤ N → x < m → Lv T D x = dig m D) : ∀ D x, x < m → Lv T D x = dig m D := by
  intro D x hx
  cases D with
  | zero => exact h 0 x (by omega) hx
  | succ D =>
    let n := T.length
    let r := (rnd m).1 + (rnd m).2
    let z : Nat → Nat → Int := fun i j => if j < n then Wv T i j else ind (posn m i = j - n)
    let F : Nat → Nat → Int := fun k j => if k < n then (if j < n then ind (tl T j = (k : Int)) + ind (tr T j = (k : Int)) else 0) else (if j < n then 0 else ind (nxt m (j - n) = k - n))
    let o : Nat → Int := fun j => if j < n then ind (tl T j = -1 - (x : Int)) + ind (tr T j = -1 - (x : Int)) else - dig m (j - n + 1)
    have hF : ∀ i k, k < n + r → z (i + 1) k = sm (n + r) (fun j => F k j * z i j) := fun i k hk => by
      rw [sm_append]
      by_cases q : k < n
      · have e1 : sm n (fun j => F k j * z i j) = Wv T (i + 1) k := by
          show _ = sm n (fun j => Wv T i j * (ind (tl T j = (k : Int)) + ind (tr T j = (k : Int))))
          refine sm_congr fun j hj => ?_
          show (if k < n then (if j < n then _ else _) else _) * (if j < n then _ else _) = _
          rw [if_pos q, if_pos hj, if_pos hj, Int.mul_comm]
        have e2 : sm r (fun j => F k (n + j) * z i (n + j)) = 0 := sm_zero fun j _ => by
          show (if k < n then (if n + j < n then _ else _) else _) * _ = (0 : Int)
          rw [if_pos q, if_neg (by omega)]; simp
        rw [e1, e2]
        show (if k < n then _ else _) = _
        rw [if_pos q]; omega
      · have e1 : sm n (fun j => F k j * z i j) = 0 := sm_zero fun j hj => by
          show (if k < n then _ else (if j < n then _ else _)) * _ = (0 : Int)
          rw [if_neg q, if_pos hj]; simp
        have e2 : sm r (fun j => F k (n + j) * z i (n + j)) = sm r (fun j => ind (nxt m j = k - n) * ind (posn m i = j)) := sm_congr fun j _ => by
          show (if k < n then _ else (if n + j < n then _ else ind (nxt m (n + j - n) = k - n))) * (if n + j < n then _ else ind (posn m i = n + j - n)) = _
          rw [if_neg q, if_neg (by omega), if_neg (by omega), Nat.add_sub_cancel_left]
        rw [e1, e2, sm_one (posn_lt h1 h2 i) (fun j _ hn => by rw [ind_f (p := posn m i = j) (fun e => hn e.symm)]; simp), ind_t (p := posn m i = posn m i) rfl]
        show (if k < n then _ else ind (nxt m (posn m i) = k - n)) = _
        rw [if_neg q]; omega
    have out : ∀ i, sm (n + r) (fun j => o j * z i j) = Lv T (i + 1) x - dig m (i + 1) := fun i => by
      rw [sm_append]
      have e1 : sm n (fun j => o j * z i j) = Lv T (i + 1) x := by
        show _ = sm n (fun j => Wv T i j * (ind (tl T j = -1 - (x : Int)) + ind (tr T j = -1 - (x : Int))))
        refine sm_congr fun j hj => ?_
        show (if j < n then _ else _) * (if j < n then _ else _) = _
        rw [if_pos hj, if_pos hj, Int.mul_comm]
      have e2 : sm r (fun j => o (n + j) * z i (n + j)) = - dig m (i + 1) := by
        have e3 : sm r (fun j => o (n + j) * z i (n + j)) = sm r (fun j => - dig m (j + 1) * ind (posn m i = j)) := sm_congr fun j _ => by
          show (if n + j < n then _ else - dig m (n + j - n + 1)) * (if n + j < n then _ else ind (posn m i = n + j - n)) = _
          rw [if_neg (by omega), if_neg (by omega), Nat.add_sub_cancel_left]
        rw [e3, sm_one (posn_lt h1 h2 i) (fun j _ hn => mind_f _ (fun e => hn e.symm)), mind_t _ rfl, posn_dig h1 h2]
      rw [e1, e2]; omega
    have fe := for_ever (n := n + r) z F hF o (fun i hi => by
      rw [out i, h (i + 1) x (by omega) hx]; omega) D
    rw [out D] at fe
    omega
/-! ### what the law asks of an even tree -/
structure Even (m : Nat) (T : Tree) : Prop where
  ok : Ok m T
  live : ∀ t, t < T.length → Live T t
  same : ∀ x, x < m → shF m T 0 x = shF m T 0 0
theorem Even.parts {m : Nat} {T : Tree} (E : Even m T) (hm : 0 < m) : ∃ e, dT m T = m * e ∧ 0 < e ∧ ∀ x, x < m → ee (cc m T) T.length 0 (T.length + x) = e := by
  have hd := dT_pos (m := m) E.live
  have s := sol_cc E.ok E.live
  have eq : ∀ x, x < m → ee (cc m T) T.length 0 (T.length + x) = ee (cc m T) T.length 0 (T.length + 0) := fun x hx => by
    have h := fr_inj hd hd (E.same x hx)
    exact Int.eq_of_mul_eq_mul_right (by omega) h
  have tot := s.total E.ok E.live 0 E.ok.pos
  rw [sm_congr (g := fun _ => ee (cc m T) T.length 0 (T.length + 0)) eq, sm_const] at tot
  refine ⟨_, tot.symm, ?_, eq⟩
  refine Decidable.byContradiction fun q => ?_
  have := Int.mul_le_mul_of_nonneg_left (show ee (cc m T) T.length 0 (T.length + 0) ≤ 0 by omega) (show (0 : Int) ≤ m by omega)
  omega
theorem bst_fr {m : Nat} (h1 : 1 ≤ m) (h2 : m ≤ 12) : bst m = fr (bst m).1 (bst m).2 := by
  have hc := (uOk_parts h1 h2).1
  have p : (0 : Int) < 2 ^ (rnd m).1 * (2 ^ (rnd m).2 - 1) := by
    have a : (0 : Int) < 2 ^ (rnd m).1 := Int.pow_pos (by omega)
    have b := two_pow_gt (rnd m).2
    exact Int.mul_pos a (by omega)
  exact (fr_fr p).symm
theorem mean_iff {m : Nat} {T : Tree} (h1 : 1 ≤ m) (h2 : m ≤ 12) (hL : ∀ t, t < T.length → Live T t) : mnF m T 0 = bst m ↔ ee (cc m T) T.length 0 (T.length + m) * (bst m).2 = (bst m).1 * dT m T := by
  rw [bst_fr h1 h2]
  have e : (fr (bst m).1 (bst m).2) = bst m := (bst_fr h1 h2).symm
  rw [e]
  conv => lhs; rhs; rw [bst_fr h1 h2]
  exact fr_iff (dT_pos hL) (bst_pos h1 h2)
theorem Even.leaves {m : Nat} {T : Tree} (E : Even m T) (h1 : 1 ≤ m) (h2 : m ≤ 12) (h : mnF m T 0 = bst m) (D x : Nat) (hx : x < m) : Lv T D x = dig m D := by
  obtain ⟨e, he, e0, h0⟩ := E.parts (by omega)
  have hd := dT_pos (m := m) E.live
  have s := sol_cc E.ok E.live
  have w := ky_fwd E.ok h1 h2 hd E.live s he e0 h0 ((mean_iff h1 h2 E.live).mp h)
  exact leaves_of_Wt E.ok (by omega) hd E.live s he e0 h0 w D x hx
theorem Even.mean {m : Nat} {T : Tree} (E : Even m T) (h1 : 1 ≤ m) (h2 : m ≤ 12) (N : Nat) (hN : T.length + ((rnd m).1 + (rnd m).2) + 1 ≤ N) (h : ∀ D x, D ≤ N → x < m → Lv T D x = dig m D) : mnF m T 0 = bst m := by
  have hd := dT_pos (m := m) E.live
  have s := sol_cc E.ok E.live
  have l := leaves_ever h1 h2 N hN h
  exact (mean_iff h1 h2 E.live).mpr (ky_bwd E.ok h1 h2 hd E.live s (Wt_of_leaves E.ok (by omega) l))
end SM
end
section
set_option maxRecDepth 100000
set_option maxHeartbeats 4000000
namespace Ser
open PySem L2
def top (i : Nat) : Stmt := PySem.Challenge.pw_serialhouse_k46_whole_even_and_least_tre.main.body.getD i (.Pass ⟨0, 0, 0, 0⟩)
abbrev FnP (K : PySem.W.Frag) (x : Str) (st : Stmt) (f : Addr) (fd : FuncData) : Prop := FunD K x x (defArgs st) (defBody st) (defScope st) [] [] f fd
/-! ### data of tuples: it stands while tuples stand -/
def TupEx (H H' : Hp) : Prop := ∀ a xs, (H a = some (.tup xs) → H' a = some (.tup xs)) ∧ ∀ o, H a = some (.frz o (.tup xs)) → H' a = some (.frz o (.tup xs))
theorem TupEx.of {H H' : Hp} (s : Same H H') : TupEx H H' := fun a xs => ⟨s a _, fun o => s a _⟩
theorem TupEx.trans {H H1 H2 : Hp} (a : TupEx H H1) (b : TupEx H1 H2) : TupEx H H2 := fun c xs => ⟨fun h => (b c xs).1 ((a c xs).1 h), fun o h => (b c xs).2 o ((a c xs).2 o h)⟩
theorem TupEx.sqT {K : PySem.W.Frag} {H H' : Hp} {a : Addr} {xs : List V} (e : TupEx H H') (h : SqT K H a xs) : SqT K H' a xs := by
  rcases h with (h | ⟨o, h⟩) | h
  · exact .inl (.inl ((e _ _).1 h))
  · exact .inl (.inr ⟨o, (e _ _).2 o h⟩)
  · exact .inr h
theorem Same.new {H : Hp} {p : Addr} {o : HO} (h : H p = none) : Same H (upd H p o) := fun a u e => by rw [upd_ne (ne_of_none e h)]; exact e
/-- what H does not know may change -/
theorem Same.put {H H' : Hp} {p : Addr} {o : HO} (e : Same H H') (h : H p = none) : Same H (upd H' p o) := fun a u q => by rw [upd_ne (ne_of_none q h)]; exact e a u q
theorem Same.sqT {K : PySem.W.Frag} {H H' : Hp} {a : Addr} {xs : List V} (e : Same H H') (h : SqT K H a xs) : SqT K H' a xs := (TupEx.of e).sqT h
/-- a list that is written to keeps the tuples -/
theorem TupEx.put {H : Hp} {p : Addr} {o : HO} (h : ∀ xs, H p ≠ some (.tup xs)) (h2 : ∀ o xs, H p ≠ some (.frz o (.tup xs))) : TupEx H (upd H p o) := fun a xs =>
  ⟨fun e => by rw [upd_ne (fun q => by subst q; exact h _ e)]; exact e, fun u e => by rw [upd_ne (fun q => by subst q; exact h2 _ _ e)]; exact e⟩
theorem TupEx.lst {H : Hp} {p : Addr} {o : HO} {xs : List V} (h : H p = some (.lst xs)) : TupEx H (upd H p o) :=
  .put (fun ys e => by rw [h] at e; cases e) fun o ys e => by rw [h] at e; cases e
theorem TupEx.dK {H : Hp} {p : Addr} {o : HO} {kvs : List (Key × V)} (h : H p = some (.dK kvs)) : TupEx H (upd H p o) :=
  .put (fun ys e => by rw [h] at e; cases e) fun o ys e => by rw [h] at e; cases e
mutual
inductive TD (K : PySem.W.Frag) (H : Hp) : V → PyData → Prop
  | non : TD K H .non .none
  | bl (b : Bool) : TD K H (.bl b) (.bool b)
  | int (i : Int) : TD K H (.int i) (.int i)
  | str (x : Str) : TD K H (.str x) (.str x)
  | tup {a : Addr} {xs : List V} {ds : List PyData} : SqT K H a xs → TDs K H xs ds → TD K H (.ref a) (.tuple ds)
inductive TDs (K : PySem.W.Frag) (H : Hp) : List V → List PyData → Prop
  | nil : TDs K H [] []
  | cons {v : V} {vs : List V} {d : PyData} {ds : List PyData} : TD K H v d → TDs K H vs ds → TDs K H (v :: vs) (d :: ds)
end
section
variable {K : PySem.W.Frag} {H H' : Hp}
mutual
theorem TD.mono (e : TupEx H H') : ∀ {v : V} {d : PyData}, TD K H v d → TD K H' v d
  | _, _, .non => .non
  | _, _, .bl b => .bl b
  | _, _, .int i => .int i
  | _, _, .str x => .str x
  | _, _, .tup h r => .tup (e.sqT h) (TDs.mono e r)
theorem TDs.mono (e : TupEx H H') : ∀ {vs : List V} {ds : List PyData}, TDs K H vs ds → TDs K H' vs ds
  | _, _, .nil => .nil
  | _, _, .cons h r => .cons (TD.mono e h) (TDs.mono e r)
end
mutual
theorem TD.dp : ∀ {v : V} {d : PyData}, TD K H v d → Dp K H v d
  | _, _, .non => .non
  | _, _, .bl b => .bl b
  | _, _, .int i => .int i
  | _, _, .str x => .str x
  | _, _, .tup h r => .tup h (TDs.dp r)
theorem TDs.dp : ∀ {vs : List V} {ds : List PyData}, TDs K H vs ds → DpAll K H vs ds
  | _, _, .nil => .nil
  | _, _, .cons h r => .cons (TD.dp h) (TDs.dp r)
end
theorem TDs.length : ∀ {vs : List V} {ds : List PyData}, TDs K H vs ds → vs.length = ds.length
  | _, _, .nil => rfl
  | _, _, .cons _ r => congrArg (· + 1) (TDs.length r)
theorem TDs.get : ∀ {vs : List V} {ds : List PyData} {i : Nat} {d : PyData}, TDs K H vs ds → ds[i]? = some d → ∃ v, vs[i]? = some v ∧ TD K H v d
  | _, _, _, _, .nil, h => by simp at h
  | _, _, 0, _, .cons h _, e => by simp at e; subst e; exact ⟨_, rfl, h⟩
  | _, _, i + 1, d, .cons _ r, e => by
    obtain ⟨v, h1, h2⟩ := TDs.get (i := i) r (by simpa using e)
    exact ⟨v, by simpa using h1, h2⟩
theorem TDs.at : ∀ {vs : List V} {ds : List PyData} {i : Nat} {v : V}, TDs K H vs ds → vs[i]? = some v → ∃ d, ds[i]? = some d ∧ TD K H v d
  | _, _, _, _, .nil, h => by simp at h
  | _, _, 0, _, .cons h _, e => by simp at e; subst e; exact ⟨_, rfl, h⟩
  | _, _, i + 1, d, .cons _ r, e => by
    obtain ⟨v, h1, h2⟩ := TDs.at (i := i) r (by simpa using e)
    exact ⟨v, by simpa using h1, h2⟩
theorem TDs.append : ∀ {vs ws : List V} {ds es : List PyData}, TDs K H vs ds → TDs K H ws es → TDs K H (vs ++ ws) (ds ++ es)
  | _, _, _, _, .nil, s => s
  | _, _, _, _, .cons h r, s => .cons h (TDs.append r s)
theorem TDs.one {v : V} {d : PyData} (h : TD K H v d) : TDs K H [v] [d] := .cons h .nil
theorem TDs.ints : ∀ (ns : List Int), TDs K H (ns.map V.int) (ns.map PyData.int)
  | [] => .nil
  | n :: ns => .cons (.int n) (TDs.ints ns)
theorem TDs.of_ints : ∀ {ns : List Int} {vs : List V}, TDs K H vs (ns.map PyData.int) → vs = ns.map V.int
  | [], _, .nil => rfl
  | n :: ns, _, .cons (.int _) r => by rw [TDs.of_ints r]; rfl
theorem TD.tuple {v : V} {ds : List PyData} (h : TD K H v (.tuple ds)) : ∃ a xs, v = .ref a ∧ SqT K H a xs ∧ TDs K H xs ds := by
  cases h with
  | tup h r => exact ⟨_, _, rfl, h, r⟩
theorem TD.int_ {v : V} {i : Int} (h : TD K H v (.int i)) : v = .int i := by cases h; rfl
theorem TD.bl_ {v : V} {b : Bool} (h : TD K H v (.bool b)) : v = .bl b := by cases h; rfl
theorem TD.str_ {v : V} {x : Str} (h : TD K H v (.str x)) : v = .str x := by cases h; rfl
theorem TD.non_ {v : V} (h : TD K H v .none) : v = .non := by cases h; rfl
end
/-- a fraction, a tree -/
def frD (x : Int × Int) : PyData := .tuple [.int x.1, .int x.2]
def trD (T : SM.Tree) : PyData := .tuple (T.map frD)
section
variable {K : PySem.W.Frag} {H H' : Hp}
theorem TD.fr {v : V} {x : Int × Int} (h : TD K H v (frD x)) : ∃ a, v = .ref a ∧ SqT K H a [.int x.1, .int x.2] := by
  obtain ⟨a, xs, rfl, h1, h2⟩ := TD.tuple h
  cases h2 with
  | cons q r =>
    cases q
    cases r with
    | cons q r =>
      cases q
      cases r
      exact ⟨a, rfl, h1⟩
theorem TD.fr_mk {a : Addr} {x : Int × Int} (h : SqT K H a [.int x.1, .int x.2]) : TD K H (.ref a) (frD x) := .tup h (.cons (.int _) (.cons (.int _) .nil))
theorem SqT.mk {a : Addr} {xs : List V} (h : H a = some (.tup xs)) : SqT K H a xs := .inl (.inl h)
theorem SqL.mk {a : Addr} {xs : List V} (h : H a = some (.lst xs)) : SqL K H a xs := .inl (.inl h)
end
theorem eqv_ints : ∀ {xs ys : List Int}, PyData.eqvAll (xs.map PyData.int) (ys.map PyData.int) = decide (xs = ys)
  | [], [] => rfl
  | [], _ :: _ => rfl
  | _ :: _, [] => rfl
  | x :: xs, y :: ys => by
    show (x == y && PyData.eqvAll (xs.map PyData.int) (ys.map PyData.int)) = _
    rw [eqv_ints]
    by_cases e : x = y <;> simp [e]
theorem eqv_fr {x y : Int × Int} : PyData.eqv (frD x) (frD y) = decide (x = y) := by
  have h := eqv_ints (xs := [x.1, x.2]) (ys := [y.1, y.2])
  show PyData.eqvAll _ _ = _
  refine h.trans ?_
  obtain ⟨a, b⟩ := x
  obtain ⟨c, d⟩ := y
  simp
theorem shaped_fr {x : Int × Int} : SeqAt.shaped (frD x) = true := rfl
/-! ### a def that stands -/
structure Def (P : Program) (w : World) (K : PySem.W.Frag) (mg : Str → Option Value) (base : Heap) (CX : CXT) (x : Str) (k : Nat) (ps : List Str) (sp : Sp) (f : Addr) (fd : FuncData) : Prop where
  ok : FnOk P w K mg base CX k f fd ps sp
  gl : mg x = some (.ref f)
  kp : PySem.W.keepIn K (.ref f) = true
  bi : Binds K fd ps []
theorem dcall {X : Cx} {x : Str} {p pos : Pos} {e : Expr} {es : List Expr} {t : TA} {k : Nat} {ps : List Str} {sp : Sp} {f : Addr} {fd : FuncData} (G : Def X.prog X.w X.K X.mg X.base CX0 x k ps sp f fd) (hr : Room k X.A) (ha : PA X (e :: es) t)
    (hg : Gl X x := by rfl) (he : starEach (e :: es) X.env = (false, eval e X.env) :: starEach es X.env := by rfl) (hpl : (backTo pos (starEach es X.env)).any (·.1) = false := by rfl) (hd : (x == ("__debug__" : Str)) = false := by decide) :
    PE X (.Call (.Name x p) (e :: es) [] pos) (tCall sp [] E0 t) := by
  first
  | exact pe_call G.ok hr hg G.gl G.kp G.bi .nil pass0 ha
  | exact pe_call G.ok hr hg G.gl G.kp G.bi .nil pass0 ha hd he hpl
  | exact pe_call G.ok hr hg G.gl G.kp G.bi .nil pass0 ha he hpl

theorem pe_gs {X : Cx} {x z : Str} {pos : Pos} (h : ∃ t, X.mg x = some (.str z t)) (hg : Gl X x := by rfl) (hd : (x == ("__debug__" : Str)) = false := by decide) : PE X (.Name x pos) (tC (.str z)) := by
  obtain ⟨t, h⟩ := h
  exact pe_glob hg h ⟨t, rfl⟩ hd
def locB (sc : Scope) (x : Str) : Bool := match sc.names.lookup x with
  | some .local => true
  | some .cell => true
  | _ => false
theorem lc_ {sc : Scope} {x : Str} (h : locB sc x = true) : Loc sc x := by
  unfold locB at h
  split at h
  · rename_i e; exact Or.inl e
  · rename_i e; exact Or.inr e
  · cases h
/-- what the module's names stand for: built-ins, constants -/
structure Tx (K : PySem.W.Frag) (mg : Str → Option Value) (aN aW : Addr) : Prop where
  abs_ : mg "abs" = none
  len_ : mg "len" = none
  range_ : mg "range" = none
  zip_ : mg "zip" = none
  enumerate_ : mg "enumerate" = none
  list_ : mg "list" = none
  tuple_ : mg "tuple" = none
  int_ : mg "int" = none
  any_ : mg "any" = none
  all_ : mg "all" = none
  min_ : mg "min" = none
  sum_ : mg "sum" = none
  set_ : mg "set" = none
  repr_ : mg "repr" = none
  isinstance_ : mg "isinstance" = none
  str_ : mg "str" = none
  bool_ : mg "bool" = none
  super_ : mg "super" = none
  ends : ∃ t, mg "ENDS" = some (.str "ends" t)
  endless : ∃ t, mg "ENDLESS" = some (.str "endless" t)
  nought : mg "NOUGHT" = some (.ref aN)
  whole : mg "WHOLE" = some (.ref aW)
  nought_at : ∀ H, SqT K H aN [.int 0, .int 1]
  whole_at : ∀ H, SqT K H aW [.int 1, .int 1]
end Ser
end
section
set_option maxRecDepth 100000
set_option maxHeartbeats 4000000
namespace Ser
open PySem L2
section
variable {P : Program} {w : World} {K : PySem.W.Frag} {mg : Str → Option Value} {base : Heap} {aN aW : Addr}
/-! ### common_part -/
abbrev sCommon : Stmt := top 7
theorem scCommon : FnScope ["one", "other"] ["one", "other"] (defScope sCommon) := ⟨rfl, rfl, rfl, by decide +kernel, rfl, by decide +kernel, by decide +kernel⟩
def spCommon : Sp := fun vs H Q _ => ∃ a b : Int, vs = [.int a, .int b] ∧ Q (.int (Int.gcd a b)) H
theorem abs_nat (a : Int) : (if a < 0 then -a else a) = (a.natAbs : Int) := by split <;> omega
theorem ok_common {f : Addr} {fd : FuncData} (F : FnP K "common_part" sCommon f fd) (T : Tx K mg aN aW) : FnOk P w K mg base CX0 1 f fd ["one", "other"] spCommon := by
  refine F.ok scCommon (fun vs H Q E h => ?_) (fun cdv A outer s H vs Q E hr h => ?_)
  · obtain ⟨a, b, rfl, _⟩ := h
    rfl
  · obtain ⟨a, b, rfl, k⟩ := h
    refine ⟨_, PSs.nox <| pss_cons (ps_par (i := 0) (j := 1) rfl scCommon.nd rfl rfl (by decide) rfl rfl (pa_cons (pe_callB call_abs (by rfl) T.abs_ (by decide +kernel) (pa_cons (pv 0) pa_nil)) (pa_cons (pe_callB call_abs (by rfl) T.abs_ (by decide +kernel) (pa_cons (pv 1) pa_nil)) pa_nil)) (by rfl))
      (pss_cons (ps_while PassesOwn.never (pt_cmpR op_gt (pv 1) pe_int (nomark _)) (pss_one (ps_par (i := 0) (j := 1) rfl scCommon.nd rfl rfl (by decide) rfl rfl (pa_cons (pv 1) (pa_cons (pe_op op_mod (pv 0) (pv 1)) pa_nil)) (by rfl))))
      (pss_one (ps_ret (pv 0)))), ?_⟩
    refine ⟨_, rfl, _, rfl, _, rfl, _, rfl, _, _, rfl, ?_⟩
    refine ⟨fun m σ H' => ∃ x y : Nat, σ = [some (.int x), some (.int y)] ∧ H' = H ∧ m = y ∧ Nat.gcd x y = Int.gcd a b, ⟨_, a.natAbs, b.natAbs, ?_, rfl, rfl, rfl⟩, ?_⟩
    · rw [abs_nat, abs_nat]; rfl
    · rintro m σ H' ⟨x, y, rfl, rfl, rfl, e⟩
      refine ⟨_, rfl, _, _, rfl, rfl, _, rfl, ite2 (fun c => ?_) (fun c => ?_)⟩
      · have c' : 0 < m := by have := of_decide_eq_true c; omega
        refine ⟨fun σ' H'' => ∃ m', m' < m ∧ (∃ x y : Nat, σ' = [some (.int x), some (.int y)] ∧ H'' = H' ∧ m' = y ∧ Nat.gcd x y = Int.gcd a b), fun σ' H'' h => h, ?_⟩
        refine ⟨_, rfl, _, rfl, _, rfl, _, _, rfl, rfl, (by omega), _, _, rfl, ?_⟩
        refine ⟨x % m, Nat.mod_lt _ c', m, x % m, rfl, rfl, rfl, ?_⟩
        rw [← e, Nat.gcd_comm m, ← Nat.gcd_rec, Nat.gcd_comm]
      · have c' : m = 0 := by have := of_decide_eq_false (by simpa using c : decide ((0 : Int) < m) = false); omega
        subst c'
        rw [Nat.gcd_zero_right] at e
        refine ⟨_, rfl, ?_⟩
        show Q (.int x) H'
        rw [e]; exact k
/-! ### fraction -/
abbrev sFraction : Stmt := top 8
def NFraction : List Str := ["top", "bottom", "part"]
theorem scFraction : FnScope NFraction ["top", "bottom"] (defScope sFraction) := ⟨rfl, rfl, rfl, by decide +kernel, rfl, by decide +kernel, by decide +kernel⟩
/-- Sz n i: a whole number of less than so many bits -/
def Sz (n : Nat) (i : Int) : Prop := i.natAbs < 2 ^ n
def spFraction (K : PySem.W.Frag) : Sp := fun vs H Q _ => ∃ t b : Int, vs = [.int t, .int b] ∧ 0 < b ∧ Sz 8000 b ∧ ∀ v H', Same H H' → TD K H' v (frD (SM.fr t b)) → Q v H'
theorem ok_fraction {f f1 : Addr} {fd fd1 : FuncData} (F : FnP K "fraction" sFraction f fd) (T : Tx K mg aN aW) (G_common_part : Def P w K mg base CX0 "common_part" 1 ["one", "other"] spCommon f1 fd1) : FnOk P w K mg base CX0 2 f fd ["top", "bottom"] (spFraction K) := by
  refine F.ok scFraction (fun vs H Q E h => ?_) (fun cdv A outer s H vs Q E hr h => ?_)
  · obtain ⟨a, b, rfl, _⟩ := h
    rfl
  · obtain ⟨t, b, rfl, hb, hs, k⟩ := h
    refine ⟨_, PSs.nox <| (pss_cons (ps_set (i := 2) scFraction.nd rfl (lc_ rfl) (dcall G_common_part (hr.mono (by decide)) (pa_cons (pv 0) (pa_cons (pv 1) pa_nil))))
      (pss_cons (ps_if (pt_cmp (pc_lt (pv 1) pe_int)) (pss_one (ps_set (i := 2) scFraction.nd rfl (lc_ rfl) (pe_un un_neg (pv 2)))) pss_nil)
      (pss_one (ps_ret (pe_tup (pa_cons (pe_op op_fdivW (pv 0) (pv 2)) (pa_cons (pe_op op_fdivW (pv 1) (pv 2)) pa_nil))))))), ?_⟩
    have g := SM.gcd_pos' (p := t) hb
    have gs : Sz 8000 (Int.gcd t b : Int) := by
      have d : (Int.gcd t b : Int) ∣ b := Int.gcd_dvd_right ..
      have := Int.le_of_dvd hb d
      unfold Sz at *
      omega
    refine ⟨_, rfl, _, rfl, t, b, rfl, _, rfl, _, _, rfl, rfl, _, rfl, ite2 (fun c => absurd (of_decide_eq_true c) (by omega)) (fun _ => ?_)⟩
    refine ⟨_, rfl, _, rfl, _, _, rfl, rfl, wide_div g gs (by decide) (by decide), _, rfl, _, rfl, _, _, rfl, rfl, wide_div g gs (by decide) (by decide), (by show 2 ≤ sizeLine; decide), fun p hp => ?_⟩
    exact k _ _ (Same.new hp) (TD.fr_mk (SqT.mk upd_same))
/-! ### minus -/
abbrev sMinus : Stmt := top 9
def NMinus : List Str := ["one", "other"]
theorem scMinus : FnScope NMinus ["one", "other"] (defScope sMinus) := ⟨rfl, rfl, rfl, by decide +kernel, rfl, by decide +kernel, by decide +kernel⟩
def mns (x y : Int × Int) : Int × Int := SM.fr (x.1 * y.2 - y.1 * x.2) (x.2 * y.2)
def spMinus (K : PySem.W.Frag) : Sp := fun vs H Q _ => ∃ (u v : V) (x y : Int × Int), vs = [u, v] ∧ TD K H u (frD x) ∧ TD K H v (frD y) ∧ 0 < x.2 ∧ 0 < y.2 ∧ Sz 2000 x.1 ∧ Sz 2000 x.2 ∧ Sz 2000 y.1 ∧ Sz 2000 y.2 ∧ ∀ v H', Same H H' → TD K H' v (frD (mns x y)) → Q v H'
theorem Sz.mul {a b : Nat} {i j : Int} (h : Sz a i) (h' : Sz b j) : Sz (a + b) (i * j) := wide_lt h h'
theorem Sz.mono {a b : Nat} {i : Int} (h : Sz a i) (hab : a ≤ b) : Sz b i := Nat.lt_of_lt_of_le h (Nat.pow_le_pow_right (by decide) hab)
theorem Sz.sub {a : Nat} {i j : Int} (h : Sz a i) (h' : Sz a j) : Sz (a + 1) (i - j) := by
  unfold Sz at *
  rw [Nat.pow_succ]
  omega
theorem Sz.add {a : Nat} {i j : Int} (h : Sz a i) (h' : Sz a j) : Sz (a + 1) (i + j) := by
  unfold Sz at *
  rw [Nat.pow_succ]
  omega
theorem ok_minus {f f1 : Addr} {fd fd1 : FuncData} (F : FnP K "minus" sMinus f fd) (T : Tx K mg aN aW) (G_fraction : Def P w K mg base CX0 "fraction" 2 ["top", "bottom"] (spFraction K) f1 fd1) : FnOk P w K mg base CX0 3 f fd ["one", "other"] (spMinus K) := by
  refine F.ok scMinus (fun vs H Q E h => ?_) (fun cdv A outer s H vs Q E hr h => ?_)
  · obtain ⟨_, _, _, _, rfl, _⟩ := h
    rfl
  · obtain ⟨u, v, x, y, rfl, hu, hv, px, py, s1, s2, s3, s4, k⟩ := h
    refine ⟨_, PSs.nox <| (pss_one (ps_ret (dcall G_fraction (hr.mono (by decide)) (pa_cons (pe_op op_sub (pe_op op_mulW (pe_ix ix_tup (pv 0) pe_int (fun _ _ => rfl)) (pe_ix ix_tup (pv 1) pe_int (fun _ _ => rfl))) (pe_op op_mulW (pe_ix ix_tup (pv 1) pe_int (fun _ _ => rfl)) (pe_ix ix_tup (pv 0) pe_int (fun _ _ => rfl)))) (pa_cons (pe_op op_mulW (pe_ix ix_tup (pv 0) pe_int (fun _ _ => rfl)) (pe_ix ix_tup (pv 1) pe_int (fun _ _ => rfl))) pa_nil))))), ?_⟩
    obtain ⟨a, rfl, ha⟩ := hu.fr
    obtain ⟨b, rfl, hb⟩ := hv.fr
    refine ⟨_, rfl, a, _, 0, _, rfl, rfl, ha, rfl, _, rfl, b, _, 1, _, rfl, rfl, hb, rfl, _, _, rfl, rfl, wide_mul s1 s4 (by decide) (by decide) (by decide), ?_⟩
    refine ⟨_, rfl, b, _, 0, _, rfl, rfl, hb, rfl, _, rfl, a, _, 1, _, rfl, rfl, ha, rfl, _, _, rfl, rfl, wide_mul s3 s2 (by decide) (by decide) (by decide), _, _, rfl, rfl, ?_⟩
    refine ⟨_, rfl, a, _, 1, _, rfl, rfl, ha, rfl, _, rfl, b, _, 1, _, rfl, rfl, hb, rfl, _, _, rfl, rfl, wide_mul s2 s4 (by decide) (by decide) (by decide), ?_⟩
    exact ⟨_, _, rfl, Int.mul_pos px py, (s2.mul s4).mono (by decide), k⟩
/-! ### power -/
abbrev sPower : Stmt := top 10
def NPower : List Str := ["base", "exponent", "found", "turn"]
theorem scPower : FnScope NPower ["base", "exponent"] (defScope sPower) := ⟨rfl, rfl, rfl, by decide +kernel, rfl, by decide +kernel, by decide +kernel⟩
/-- powers of 2 alone are asked for -/
def spPower : Sp := fun vs H Q _ => ∃ n : Nat, vs = [.int 2, .int n] ∧ n ≤ 1000 ∧ Q (.int (2 ^ n)) H
theorem ip_mulC {X : Cx} : PIp X .Mult (rI CMul fun i j => .int (i * j)) := iop_mul
theorem ok_power {f : Addr} {fd : FuncData} (F : FnP K "power" sPower f fd) (T : Tx K mg aN aW) : FnOk P w K mg base CX0 1 f fd ["base", "exponent"] spPower := by
  refine F.ok scPower (fun vs H Q E h => ?_) (fun cdv A outer s H vs Q E hr h => ?_)
  · obtain ⟨_, rfl, _⟩ := h
    rfl
  · obtain ⟨n, rfl, hn, k⟩ := h
    refine ⟨_, PSs.nox <| (pss_cons (ps_set (i := 2) scPower.nd rfl (lc_ rfl) pe_int)
      (pss_cons (ps_for PassesOwn.never rfl (pi_range1 (by rfl) T.range_ (pa_cons (pv 1) pa_nil)) (pg_name (i := 3) scPower.nd rfl (lc_ rfl)) (pss_one (ps_aug (i := 2) scPower.nd rfl (lc_ rfl) (pv 0) ip_mulC)))
      (pss_one (ps_ret (pv 2))))), ?_⟩
    refine ⟨_, rfl, n, rfl, by omega, by omega, for_range (lo := 0) (n := n) (fun i σ H' => ∃ v, σ = [some (.int 2), some (.int n), some (.int (2 ^ i)), v] ∧ H' = H) ⟨none, rfl, rfl⟩ ?_ ?_⟩
    · rintro i σ H' hi ⟨v, rfl, rfl⟩
      refine ⟨_, rfl, _, rfl, _, _, rfl, rfl, .inr ⟨by decide, by decide⟩, some (.int (0 + (i : Int))), ?_, rfl⟩
      rw [Int.pow_succ]; rfl
    · rintro σ H' ⟨v, rfl, rfl⟩
      exact ⟨_, rfl, k⟩
end
end Ser
end
section
set_option maxRecDepth 100000
set_option maxHeartbeats 4000000
namespace Ser
open PySem L2
theorem iteB {b : Bool} {A B : Prop} (hb : b = true) (h : A) : if b = true then A else B := by rw [if_pos hb]; exact h
theorem iteBF {b : Bool} {A B : Prop} (hb : b = false) (h : B) : if b = true then A else B := by rw [hb, if_neg Bool.false_ne_true]; exact h
theorem iteB2 {b : Bool} {A B : Prop} (h : b = true → A) (h' : b = false → B) : if b = true then A else B := by
  cases b with
  | true => rw [if_pos rfl]; exact h rfl
  | false => rw [if_neg Bool.false_ne_true]; exact h' rfl
/-! ### places in the text -/
def nthS (b : List Stmt) (i : Nat) : Stmt := b.getD i (.Pass ⟨0, 0, 0, 0⟩)
def noE : Expr := .Name "" ⟨0, 0, 0, 0⟩
def valE : Stmt → Expr
  | .Return (some e) _ => e
  | .Assign _ e _ => e
  | .Expr e _ => e
  | .If e _ _ _ => e
  | _ => noE
def bodyS : Stmt → List Stmt
  | .For _ _ b _ _ => b
  | .While _ b _ _ => b
  | .If _ b _ _ => b
  | _ => []
def elseS : Stmt → List Stmt
  | .If _ _ b _ => b
  | _ => []
def lcSc : Expr → Scope
  | .ListComp _ _ sc _ => sc
  | _ => { kind := .function, names := [], isGenerator := false, isCoroutine := false }
def lcElt : Expr → Expr
  | .ListComp e _ _ _ => e
  | _ => noE
def lcIf : Expr → Expr
  | .ListComp _ [g] _ _ => g.ifs.getD 0 noE
  | _ => noE
def argE : Expr → Nat → Expr
  | .Call _ es _ _, i => es.getD i noE
  | _, _ => noE
def unE : Expr → Expr
  | .UnaryOp _ e _ => e
  | _ => noE
def elseE : Expr → Expr
  | .IfExp _ _ e _ => e
  | _ => noE
/-! ### comprehensions -/
/-- all but D stands -/
def ExD (D : Addr) (H H' : Hp) : Prop := ∀ a o, H a = some o → a ≠ D → H' a = some o
inductive All2 (R : Nat → V → Hp → Prop) (H : Hp) : List Nat → List V → Prop
  | nil : All2 R H [] []
  | cons {i : Nat} {y : V} {is : List Nat} {ys : List V} : R i y H → All2 R H is ys → All2 R H (i :: is) (y :: ys)
theorem All2.append {R : Nat → V → Hp → Prop} {H : Hp} : ∀ {is js : List Nat} {ys zs : List V}, All2 R H is ys → All2 R H js zs → All2 R H (is ++ js) (ys ++ zs)
  | _, _, _, _, .nil, b => b
  | _, _, _, _, .cons h r, b => .cons h (All2.append r b)
theorem All2.imp {R R' : Nat → V → Hp → Prop} {H H' : Hp} : ∀ {is : List Nat} {ys : List V}, (∀ i ∈ is, ∀ y, R i y H → R' i y H') → All2 R H is ys → All2 R' H' is ys
  | _, _, _, .nil => .nil
  | i :: is, y :: ys, h, .cons a r => .cons (h i List.mem_cons_self y a) (All2.imp (fun j hj => h j (List.mem_cons_of_mem _ hj)) r)
theorem All2.len {R : Nat → V → Hp → Prop} {H : Hp} : ∀ {is : List Nat} {ys : List V}, All2 R H is ys → is.length = ys.length
  | _, _, .nil => rfl
  | _, _, .cons _ r => congrArg (· + 1) (All2.len r)
theorem All2.get {R : Nat → V → Hp → Prop} {H : Hp} : ∀ {is : List Nat} {ys : List V} {j i : Nat}, All2 R H is ys → is[j]? = some i → ∃ y, ys[j]? = some y ∧ R i y H
  | _, _, _, _, .nil, e => by simp at e
  | _, _, 0, _, .cons a _, e => by simp at e; subst e; exact ⟨_, rfl, a⟩
  | _, _, j + 1, i, .cons _ r, e => by
    obtain ⟨y, h1, h2⟩ := All2.get (j := j) r (by simpa using e)
    exact ⟨y, by simpa using h1, h2⟩
theorem filter_range_succ (f : Nat → Bool) (i : Nat) : (List.range (i + 1)).filter f = (List.range i).filter f ++ if f i then [i] else [] := by
  rw [List.range_succ, List.filter_append]
  congr 1
  cases h : f i <;> simp [h]
theorem filter_range_le (f : Nat → Bool) (i : Nat) : ((List.range i).filter f).length ≤ i := by
  have h := List.length_filter_le f (List.range i)
  rw [List.length_range] at h
  exact h
/-- [elt for target in iter if test]: f tells which turns give, R what each of them gives; the new list is at D -/
theorem lc_gen {J : It} {n : Nat} {G : Hp → Prop} {Y : Nat → Hp → V → Hp → Prop} (w : Walk J n G Y) {g : TG} {tt : TT} {te : TE} {vs : List Nat} {σ : L2.St} {H1 : Hp} {D : Addr} {Qd : Hp → Prop} (f : Nat → Bool) (R : Nat → V → Hp → Prop) (hD : H1 D = none) (hn : n < 100000)
    (hG : ∀ H, Same H1 H → G H)
    (st : ∀ i y H H' xs, i < n → R i y H → Same H1 H → H D = some (.lst xs) → ExD D H H' → R i y H')
    (hs : ∀ i x H H' (k : V → Hp → Prop) (els : Hp → Prop), i < n → Same H1 H → (∃ xs, H D = some (.lst xs)) → Y i H x H' → (f i = true → ∀ y H4, Same H H4 → R i y H4 → k y H4) → (f i = false → ∀ H4, Same H H4 → els H4) →
      g x (wipe σ vs) H' fun σ2 H2 => wipe σ2 vs = wipe σ vs ∧ tt σ2 H2 fun b H3 => if b = true then te σ2 H3 k else els H3)
    (hd : ∀ ys H, Same H1 H → H D = some (.lst ys) → All2 R H ((List.range n).filter f) ys → Qd H) :
    ∃ W : Nat → Nat → Hp → Prop, (∃ m, W 0 m (upd H1 D (.lst []))) ∧ ∀ i m H, W i m H →
      (J.stop i H ∧ Qd H) ∨ (J.go i H ∧ ∃ Nx : Hp → Prop, (∀ H', Nx H' → ∃ m', m' < m ∧ W (i + 1) m' H') ∧ ∀ x H', J.yld i H x H' → g x (wipe σ vs) H' fun σ2 H2 => wipe σ2 vs = wipe σ vs ∧ tt σ2 H2 fun b H3 =>
        if b = true then te σ2 H3 fun y H4 => ∃ acc, H4 D = some (.lst acc) ∧ acc.length < sizeLine ∧ Nx (upd H4 D (.lst (acc ++ [y]))) else Nx H3) := by
  refine lc_it w (fun i H => Same H1 H ∧ ∃ ys, H D = some (.lst ys) ∧ i ≤ n ∧ All2 R H ((List.range i).filter f) ys) ⟨Same.new hD, [], upd_same, Nat.zero_le _, .nil⟩ (fun i H _ p => hG H p.1) ?_ (fun H p => ?_)
  · rintro i x H H' hi ⟨s, ys, hy, _, a⟩ y
    have keep : ∀ H4, Same H H4 → All2 R H4 ((List.range i).filter f) ys := fun H4 s4 => All2.imp (fun j hj y r => by
      have hj' : j < i := List.mem_range.mp (List.mem_filter.mp hj).1
      exact st j y H H4 ys (by omega) r s hy fun a o e _ => s4 a o e) a
    refine hs i x H H' _ _ hi s ⟨ys, hy⟩ y (fun hf y H4 s4 r => ⟨ys, s4 D _ hy, ?_, Ser.Same.put (s.trans s4) hD, ys ++ [y], upd_same, hi, ?_⟩) (fun hf H4 s4 => ⟨s.trans s4, ys, s4 D _ hy, hi, ?_⟩)
    · rw [← All2.len a]
      have := filter_range_le f i
      have q : (100000 : Nat) ≤ sizeLine := by decide
      omega
    · rw [filter_range_succ, hf, if_pos rfl]
      have ex : ExD D H4 (upd H4 D (.lst (ys ++ [y]))) := fun a o e hne => by rw [upd_ne hne]; exact e
      refine All2.append (All2.imp (fun j hj z r' => ?_) (keep H4 s4)) (.cons (st i y H4 _ ys hi r (s.trans s4) (s4 D _ hy) ex) .nil)
      have hj' : j < i := List.mem_range.mp (List.mem_filter.mp hj).1
      exact st j z H4 _ ys (by omega) r' (s.trans s4) (s4 D _ hy) ex
    · rw [filter_range_succ, hf, if_neg Bool.false_ne_true, List.append_nil]
      exact keep H4 s4
  · obtain ⟨s, ys, hy, _, a⟩ := p
    exact hd ys H s hy a
/-- all of data of tuples -/
theorem td_st {K : PySem.W.Frag} {d : Nat → PyData} {n : Nat} {H1 : Hp} {D : Addr} : ∀ i y H H' xs, i < n → TD K H y (d i) → Same H1 H → H D = some (.lst xs) → ExD D H H' → TD K H' y (d i) := fun i y H H' xs _ t _ hD e =>
  t.mono fun a zs => ⟨fun q => e a _ q (fun z => by subst z; rw [hD] at q; cases q), fun o q => e a _ q (fun z => by subst z; rw [hD] at q; cases q)⟩
theorem All2.tds {K : PySem.W.Frag} {d : Nat → PyData} {H : Hp} : ∀ {is : List Nat} {ys : List V}, All2 (fun i y H => TD K H y (d i)) H is ys → TDs K H ys (is.map d)
  | _, _, .nil => .nil
  | _, _, .cons a r => .cons a (All2.tds r)
theorem filter_all (n : Nat) : (List.range n).filter (fun _ => true) = List.range n := List.filter_eq_self.mpr fun _ _ => rfl
/-- .. each turn gives data of tuples -/
theorem lc_td {K : PySem.W.Frag} {J : It} {n : Nat} {G : Hp → Prop} {Y : Nat → Hp → V → Hp → Prop} (w : Walk J n G Y) {g : TG} {tt : TT} {te : TE} {vs : List Nat} {σ : L2.St} {H1 : Hp} {D : Addr} {Qd : Hp → Prop} (d : Nat → PyData) (hD : H1 D = none) (hn : n < 100000)
    (hG : ∀ H, Same H1 H → G H)
    (hs : ∀ i x H H' (k : V → Hp → Prop) (els : Hp → Prop), i < n → Same H1 H → (∃ xs, H D = some (.lst xs)) → Y i H x H' → (∀ y H4, Same H H4 → TD K H4 y (d i) → k y H4) →
      g x (wipe σ vs) H' fun σ2 H2 => wipe σ2 vs = wipe σ vs ∧ tt σ2 H2 fun b H3 => if b = true then te σ2 H3 k else els H3)
    (hd : ∀ ys H, Same H1 H → H D = some (.lst ys) → TDs K H ys ((List.range n).map d) → Qd H) :
    ∃ W : Nat → Nat → Hp → Prop, (∃ m, W 0 m (upd H1 D (.lst []))) ∧ ∀ i m H, W i m H →
      (J.stop i H ∧ Qd H) ∨ (J.go i H ∧ ∃ Nx : Hp → Prop, (∀ H', Nx H' → ∃ m', m' < m ∧ W (i + 1) m' H') ∧ ∀ x H', J.yld i H x H' → g x (wipe σ vs) H' fun σ2 H2 => wipe σ2 vs = wipe σ vs ∧ tt σ2 H2 fun b H3 =>
        if b = true then te σ2 H3 fun y H4 => ∃ acc, H4 D = some (.lst acc) ∧ acc.length < sizeLine ∧ Nx (upd H4 D (.lst (acc ++ [y]))) else Nx H3) :=
  lc_gen w (fun _ => true) (fun i y H => TD K H y (d i)) hD hn hG td_st (fun i x H H' k els hi s hx y h1 _ => hs i x H H' k els hi s hx y (h1 rfl)) fun ys H s hy a => by
    rw [filter_all] at a
    exact hd ys H s hy a.tds
/-- .. without a test -/
theorem lc_genY {J : It} {n : Nat} {G : Hp → Prop} {Y : Nat → Hp → V → Hp → Prop} (w : Walk J n G Y) {g : TG} {te : TE} {vs : List Nat} {σ : L2.St} {H1 : Hp} {D : Addr} {Qd : Hp → Prop} (R : Nat → V → Hp → Prop) (hD : H1 D = none) (hn : n < 100000)
    (hG : ∀ H, Same H1 H → G H)
    (st : ∀ i y H H' xs, i < n → R i y H → Same H1 H → H D = some (.lst xs) → ExD D H H' → R i y H')
    (hs : ∀ i x H H' (k : V → Hp → Prop), i < n → Same H1 H → (∃ xs, H D = some (.lst xs)) → Y i H x H' → (∀ y H4, Same H H4 → R i y H4 → k y H4) → g x (wipe σ vs) H' fun σ2 H2 => wipe σ2 vs = wipe σ vs ∧ te σ2 H2 k)
    (hd : ∀ ys H, Same H1 H → H D = some (.lst ys) → All2 R H (List.range n) ys → Qd H) :
    ∃ W : Nat → Nat → Hp → Prop, (∃ m, W 0 m (upd H1 D (.lst []))) ∧ ∀ i m H, W i m H →
      (J.stop i H ∧ Qd H) ∨ (J.go i H ∧ ∃ Nx : Hp → Prop, (∀ H', Nx H' → ∃ m', m' < m ∧ W (i + 1) m' H') ∧ ∀ x H', J.yld i H x H' → g x (wipe σ vs) H' fun σ2 H2 => wipe σ2 vs = wipe σ vs ∧ tYes σ2 H2 fun b H3 =>
        if b = true then te σ2 H3 fun y H4 => ∃ acc, H4 D = some (.lst acc) ∧ acc.length < sizeLine ∧ Nx (upd H4 D (.lst (acc ++ [y]))) else Nx H3) :=
  lc_gen (tt := tYes) w (fun _ => true) R hD hn hG st (fun i x H H' k els hi s hx y h1 _ => hs i x H H' k hi s hx y (h1 rfl)) fun ys H s hy a => hd ys H s hy (by rw [filter_all] at a; exact a)
theorem lc_tdY {K : PySem.W.Frag} {J : It} {n : Nat} {G : Hp → Prop} {Y : Nat → Hp → V → Hp → Prop} (w : Walk J n G Y) {g : TG} {te : TE} {vs : List Nat} {σ : L2.St} {H1 : Hp} {D : Addr} {Qd : Hp → Prop} (d : Nat → PyData) (hD : H1 D = none) (hn : n < 100000)
    (hG : ∀ H, Same H1 H → G H)
    (hs : ∀ i x H H' (k : V → Hp → Prop), i < n → Same H1 H → (∃ xs, H D = some (.lst xs)) → Y i H x H' → (∀ y H4, Same H H4 → TD K H4 y (d i) → k y H4) → g x (wipe σ vs) H' fun σ2 H2 => wipe σ2 vs = wipe σ vs ∧ te σ2 H2 k)
    (hd : ∀ ys H, Same H1 H → H D = some (.lst ys) → TDs K H ys ((List.range n).map d) → Qd H) :
    ∃ W : Nat → Nat → Hp → Prop, (∃ m, W 0 m (upd H1 D (.lst []))) ∧ ∀ i m H, W i m H →
      (J.stop i H ∧ Qd H) ∨ (J.go i H ∧ ∃ Nx : Hp → Prop, (∀ H', Nx H' → ∃ m', m' < m ∧ W (i + 1) m' H') ∧ ∀ x H', J.yld i H x H' → g x (wipe σ vs) H' fun σ2 H2 => wipe σ2 vs = wipe σ vs ∧ tYes σ2 H2 fun b H3 =>
        if b = true then te σ2 H3 fun y H4 => ∃ acc, H4 D = some (.lst acc) ∧ acc.length < sizeLine ∧ Nx (upd H4 D (.lst (acc ++ [y]))) else Nx H3) :=
  lc_genY w (fun i y H => TD K H y (d i)) hD hn hG td_st hs fun ys H s hy a => hd ys H s hy a.tds
end Ser
end
section
set_option maxRecDepth 100000
set_option maxHeartbeats 4000000
/-! the rules that speak of the written part, with it named: within a comprehension it must be known ahead -/
namespace Ser
open PySem L2 RZ
section
variable {X : Cx} (K : PySem.W.Frag)
theorem ixL (e : X.K = K := by rfl) : IxR X (rIxL K) := by subst e; exact ix_list
theorem ixT (e : X.K = K := by rfl) : IxR X (rIxT K) := by subst e; exact ix_tup
theorem slL (e : X.K = K := by rfl) : SlR X (rSlL K) := by subst e; exact sl_list
def rLen (K : PySem.W.Frag) : List V → Hp → VK → Prop := fun xs H Q => ∃ p ys, xs = [.ref p] ∧ (SqL K H p ys ∨ SqT K H p ys) ∧ Q (.int ys.length) H
theorem cLen (e : X.K = K := by rfl) : CallR X (.builtin "len") (rLen K) := by subst e; exact call_len_seq
def rList (K : PySem.W.Frag) : List V → Hp → VK → Prop := fun xs H Q => ∃ p ys, xs = [.ref p] ∧ (SqL K H p ys ∨ SqT K H p ys) ∧ ∀ l, H l = none → Q (.ref l) (upd H l (.lst ys))
theorem cList (e : X.K = K := by rfl) : CallR X (.type "list") (rList K) := by subst e; exact call_list_of
def rTuple (K : PySem.W.Frag) : List V → Hp → VK → Prop := fun xs H Q => ∃ p ys, xs = [.ref p] ∧ ((SqL K H p ys ∧ ∀ l, H l = none → Q (.ref l) (upd H l (.tup ys))) ∨ (SqT K H p ys ∧ Q (.ref p) H))
theorem cTuple (e : X.K = K := by rfl) : CallR X (.type "tuple") (rTuple K) := by subst e; exact call_tuple_of
theorem cSum (hc : X.calm = true := by rfl) (e : X.K = K := by rfl) : CallR X (.builtin "sum") (rSum K) := by subst e; exact cr_sum hc
theorem cAny (hc : X.calm = true := by rfl) (e : X.K = K := by rfl) : CallR X (.builtin "any") (rAny K) := by subst e; exact cr_any hc
theorem cAll (hc : X.calm = true := by rfl) (e : X.K = K := by rfl) : CallR X (.builtin "all") (rAll K) := by subst e; exact cr_all hc
theorem oIn (e : X.K = K := by rfl) : OpR X (compareOp .In) (rIn K false) := by subst e; exact op_in_seq
theorem oNotIn (e : X.K = K := by rfl) : OpR X (compareOp .NotIn) (rIn K true) := by subst e; exact op_notIn_seq
theorem oEqD (hu : X.A.units + 64 < cLine) (e : X.K = K := by rfl) : OpR X (compareOp .Eq) (rEqD K) := by subst e; exact op_eqD hu
theorem oNeD (hu : X.A.units + 64 < cLine) (e : X.K = K := by rfl) : OpR X (compareOp .NotEq) (rNeD K) := by subst e; exact op_neD hu
theorem oIsi (e : X.K = K := by rfl) : CallR X (.builtin "isinstance") (rIsi K) := by subst e; exact call_isi
theorem gTup' {es : List Expr} {k : Nat} {pos : Pos} {t : TGs} {n : Nat} (h : PGs X es t) (e : X.K = K := by rfl) (hc : X.calm = true := by rfl) (hn : (assignEach es X.env).length = n := by rfl) (hst : (assignEach es X.env).findIdx? (·.1) = none := by rfl) :
    PG X (.Tuple es k pos) (gTup K n t) := by subst e; exact pg_tup hc h hn hst
theorem gUnl' {es : List Expr} {k : Nat} {pos : Pos} {t : TGs} {n : Nat} (h : PGs X es t) (e : X.K = K := by rfl) (hc : X.calm = true := by rfl) (hn : (assignEach es X.env).length = n := by rfl) (hst : (assignEach es X.env).findIdx? (·.1) = none := by rfl) :
    PG X (.Tuple es k pos) (gUnl K n t) := by subst e; exact pg_unl hc h hn hst
theorem piL {tg l : Expr} {tl : TE} (hl : PE X l tl) (e : X.K = K := by rfl) : PI X tg l (iList K tl) := by subst e; exact pi_list hl
theorem piT {tg l : Expr} {tl : TE} (hl : PE X l tl) (e : X.K = K := by rfl) : PI X tg l (iTup K tl) := by subst e; exact pi_tup hl
theorem piEnum {e : Expr} {ta : TA} {p pos tpos : Pos} {elts : List Expr} {kk : Nat} (hg : Gl X "enumerate") (hm : X.mg "enumerate" = none) (ha : PA X [e] ta) (h : X.K = K := by rfl) (hs : starEach [e] X.env = [(false, eval e X.env)] := by rfl) :
    PI X (.Tuple elts kk tpos) (.Call (.Name "enumerate" p) [e] [] pos) (iEnum K ta) := by subst h; exact pi_enum hg hm ha hs
theorem piZip {e e2 : Expr} {ta : TA} {p pos tpos : Pos} {elts : List Expr} {kk : Nat} (hg : Gl X "zip") (hm : X.mg "zip" = none) (ha : PA X [e, e2] ta) (h : X.K = K := by rfl)
    (hs : starEach [e, e2] X.env = (false, eval e X.env) :: starEach [e2] X.env := by rfl) (hpl : (backTo pos (starEach [e2] X.env)).any (·.1) = false := by rfl) :
    PI X (.Tuple elts kk tpos) (.Call (.Name "zip" p) [e, e2] [] pos) (iZip K ta) := by subst h; exact pi_zip hg hm ha hs hpl
theorem piZipA {e e2 : Expr} {ta : TA} {p pos tpos : Pos} {elts : List Expr} {kk : Nat} (hg : Gl X "zip") (hm : X.mg "zip" = none) (ha : PA X [e, e2] ta) (h : X.K = K := by rfl)
    (hs : starEach [e, e2] X.env = (false, eval e X.env) :: starEach [e2] X.env := by rfl) (hpl : (backTo pos (starEach [e2] X.env)).any (·.1) = false := by rfl) :
    PI X (.Tuple elts kk tpos) (.Call (.Name "zip" p) [e, e2] [] pos) (iZipA K ta) := by subst h; exact pi_zipA hg hm ha hs hpl
theorem pRevL {e : Expr} {te : TE} {k : Nat} {p1 p2 p3 pos : Pos} (he : PE X e te) (h : X.K = K := by rfl) : PE X (.Subscript e (.Slice none none (some (.UnaryOp .USub (.Constant (.int 1) k p1) p2)) p3) pos) (tRevL K te) := by subst h; exact pe_revL he
/-- a method of a list -/
theorem pBm {o x : Expr} {name : Str} {T id : String} {r : V → List V → Hp → VK → Prop} {to : TE} {ta : TA} {apos cpos : Pos} (pa : PlainAttrs T) (slot : Slot T name id) (hty : typeOf (.builtin id) = pure (.type "method_descriptor")) (hm : MtR X id r) (ho : PE X o to) (ha : PA X [x] ta)
    (h : X.K = K := by rfl) (h1 : attributeBase o name X.env (eval o X.env) = eval o X.env := by rfl)
    (h2 : ((backTo cpos (starEach [x] X.env)).all (fun y => !y.1) && (backToKw cpos (keywordEach [] X.env)).all (fun y => y.1.isSome) && decide (([x] : List Expr).length + ([] : List Keyword).length + (if ([] : List Keyword).isEmpty then 0 else 1) < 30)) = true := by rfl)
    (h3 : (apos.endLine == cpos.line) = true := by rfl) (h4 : starEach [x] X.env = (false, eval x X.env) :: starEach [] X.env := by rfl) (h5 : (backTo cpos (starEach [] X.env)).any (·.1) = false := by rfl) :
    PE X (.Call (.Attribute o name apos) [x] [] cpos) (tBM K T r to ta) := by
  subst h
  exact pe_bm pa slot hty hm ho ha h1 h2 h3 h4 h5
theorem mIndex (e : X.K = K := by rfl) : MtR X "list.index" (rIndex K) := by subst e; exact mt_index
end
end Ser
end
section
namespace SM
/-! ### the table as it is worked on -/
def entry (c : Nat → Col) (k i j : Nat) : Int := if i < k then ee c k i j else mm c k i j
theorem entry_zero (c : Nat → Col) (i j : Nat) : entry c 0 i j = c j i := by
  unfold entry mm
  simp [D, sm]
theorem entry_pivot (c : Nat → Col) (k : Nat) : entry c k k k = D (k + 1) c := by
  unfold entry
  rw [if_neg (by omega), mm_pivot]
theorem entry_same (c : Nat → Col) (k j : Nat) : entry c k k j = entry c (k + 1) k j := by
  unfold entry
  rw [if_neg (by omega), if_pos (by omega), ee_last]
theorem entry_step {c : Nat → Col} {k : Nat} (S : Star c k) (hd : D k c ≠ 0) {i : Nat} (hi : i ≠ k) (j : Nat) :
    (entry c k k k * entry c k i j - entry c k i k * entry c k k j) / D k c = entry c (k + 1) i j := by
  have e : entry c k k k * entry c k i j - entry c k i k * entry c k k j = D k c * entry c (k + 1) i j := by
    rw [entry_pivot]
    unfold entry
    rw [if_neg (by omega : ¬ k < k)]
    by_cases h : i < k
    · rw [if_pos h, if_pos h, if_pos (by omega), claim1 S h]
    · rw [if_neg h, if_neg h, if_neg (by omega), claim3 S]
  rw [e, Int.mul_ediv_cancel_left _ hd]
theorem entry_end (c : Nat → Col) {n i : Nat} (hi : i < n) (j : Nat) : entry c n i j = ee c n i j := if_pos hi
/-! ### how great its numbers are -/
theorem sm_abs {n : Nat} {f : Nat → Int} {b : Nat} (h : ∀ i, i < n → (f i).natAbs ≤ b) : (sm n f).natAbs ≤ n * b := by
  induction n with
  | zero => simp [sm]
  | succ n ih =>
    simp only [sm]
    have h1 := ih fun i hi => h i (by omega)
    have h2 := h n (by omega)
    have h3 := Int.natAbs_add_le (sm n f) (f n)
    have : (n + 1) * b = n * b + b := by rw [Nat.add_mul, Nat.one_mul]
    omega
theorem D_abs : ∀ {k : Nat} {c : Nat → Col}, k ≤ 60 → (∀ j t, j < k → t < k → (c j t).natAbs ≤ 4) → (D k c).natAbs ≤ 240 ^ k
  | 0, _, _, _ => by simp [D]
  | k + 1, c, hk, h => by
    simp only [D]
    have h1 : (D k c).natAbs ≤ 240 ^ k := D_abs (by omega) fun j t hj ht => h j t (by omega) (by omega)
    have h2 : ∀ l, l < k → (c l k * D k (st c l (c k))).natAbs ≤ 4 * 240 ^ k := fun l hl => by
      rw [Int.natAbs_mul]
      refine Nat.mul_le_mul (h l k (by omega) (by omega)) (D_abs (by omega) fun j t hj ht => ?_)
      by_cases e : j = l
      · rw [e, st_same]; exact h k t (by omega) (by omega)
      · rw [st_ne _ _ e]; exact h j t (by omega) (by omega)
    have h3 := sm_abs h2
    have h4 : (c k k * D k c).natAbs ≤ 4 * 240 ^ k := by
      rw [Int.natAbs_mul]
      exact Nat.mul_le_mul (h k k (by omega) (by omega)) h1
    have h5 := Int.natAbs_sub_le (c k k * D k c) (sm k fun l => c l k * D k (st c l (c k)))
    have h6 : k * (4 * 240 ^ k) + 4 * 240 ^ k ≤ 240 ^ (k + 1) := by
      have : k * (4 * 240 ^ k) + 4 * 240 ^ k = (4 * (k + 1)) * 240 ^ k := by grind
      rw [this, Nat.pow_succ, Nat.mul_comm (240 ^ k)]
      exact Nat.mul_le_mul_right _ (by omega)
    omega
theorem ee_abs {c : Nat → Col} {k : Nat} (hk : k ≤ 60) (h : ∀ j t, (c j t).natAbs ≤ 4) (i j : Nat) : (ee c k i j).natAbs ≤ 240 ^ k := by
  unfold ee
  refine D_abs hk fun q t _ _ => ?_
  by_cases e : q = i
  · rw [e, st_same]; exact h _ _
  · rw [st_ne _ _ e]; exact h _ _
theorem mm_abs {c : Nat → Col} {k : Nat} (hk : k + 1 ≤ 60) (h : ∀ j t, (c j t).natAbs ≤ 4) (i j : Nat) : (mm c k i j).natAbs ≤ 240 ^ (k + 1) := by
  unfold mm
  have h1 : (D k c).natAbs ≤ 240 ^ k := D_abs (by omega) fun j t _ _ => h j t
  have h2 : ∀ l, l < k → (c l i * ee c k l j).natAbs ≤ 4 * 240 ^ k := fun l _ => by
    rw [Int.natAbs_mul]
    exact Nat.mul_le_mul (h _ _) (ee_abs (by omega) h l j)
  have h3 := sm_abs h2
  have h4 : (D k c * c j i).natAbs ≤ 4 * 240 ^ k := by
    rw [Int.natAbs_mul, Nat.mul_comm]
    exact Nat.mul_le_mul (h _ _) h1
  have h5 := Int.natAbs_sub_le (D k c * c j i) (sm k fun l => c l i * ee c k l j)
  have h6 : k * (4 * 240 ^ k) + 4 * 240 ^ k ≤ 240 ^ (k + 1) := by
    have : k * (4 * 240 ^ k) + 4 * 240 ^ k = (4 * (k + 1)) * 240 ^ k := by grind
    rw [this, Nat.pow_succ, Nat.mul_comm (240 ^ k)]
    exact Nat.mul_le_mul_right _ (by omega)
  omega
theorem small_of {x : Int} {k : Nat} (hk : k ≤ 60) (h : x.natAbs ≤ 240 ^ k) : x.natAbs < 2 ^ 500 := by
  have h1 : (240 : Nat) ^ k ≤ 240 ^ 60 := Nat.pow_le_pow_right (by decide) hk
  have h2 : (240 : Nat) ^ 60 < 2 ^ 500 := by decide +kernel
  omega
theorem entry_small {c : Nat → Col} {k n : Nat} (hk : k ≤ n) (hn : n ≤ 60) (h : ∀ j t, (c j t).natAbs ≤ 4) {i : Nat} (hi : i < n) (j : Nat) : (entry c k i j).natAbs < 2 ^ 500 := by
  unfold entry
  split
  · exact small_of (by omega) (ee_abs (by omega) h i j)
  · exact small_of (k := k + 1) (by omega) (mm_abs (by omega) h i j)
theorem D_small {c : Nat → Col} {k : Nat} (hk : k ≤ 60) (h : ∀ j t, (c j t).natAbs ≤ 4) : (D k c).natAbs < 2 ^ 500 := small_of hk (D_abs hk fun j t _ _ => h j t)
theorem cc_abs (m : Nat) (T : Tree) (j t : Nat) : (cc m T j t).natAbs ≤ 4 := by
  have a : ∀ (p : Prop) [Decidable p], 0 ≤ ind p ∧ ind p ≤ 1 := fun p _ => ⟨ind_nonneg p, ind_le p⟩
  unfold cc
  split
  · have h1 := a (t = j); have h2 := a (tl T t = (j : Int)); have h3 := a (tr T t = (j : Int))
    omega
  · split
    · have h2 := a (tl T t = -1 - ((j : Int) - T.length)); have h3 := a (tr T t = -1 - ((j : Int) - T.length))
      omega
    · decide
end SM
end
section
set_option maxRecDepth 100000
set_option maxHeartbeats 4000000
namespace Ser
open PySem L2
section
variable {P : Program} {w : World} {K : PySem.W.Frag} {mg : Str → Option Value} {base : Heap} {aN aW : Addr}
/-! ### swapped: the row of the place has no 0 there; nothing is exchanged -/
abbrev sSwapped : Stmt := top 11
def NSwapped : List Str := ["table", "place", "row"]
theorem scSwapped : FnScope NSwapped ["table", "place"] (defScope sSwapped) := ⟨rfl, rfl, rfl, by decide +kernel, rfl, by decide +kernel, by decide +kernel⟩
def spSwapped (K : PySem.W.Frag) : Sp := fun vs H Q _ => ∃ (a r : Addr) (p : Nat) (xs row : List V) (n : Int), vs = [.ref a, .int p] ∧ H a = some (.lst xs) ∧ xs[p]? = some (.ref r) ∧ xs.length ≤ 1000 ∧ SqL K H r row ∧ row[p]? = some (.int n) ∧ n ≠ 0 ∧ ∀ H', Same H H' → Q (.bl true) H'
theorem set_same {α : Type} : ∀ {xs : List α} {p : Nat} {x : α}, xs[p]? = some x → xs.set p x = xs
  | [], _, _, h => by simp at h
  | y :: ys, 0, x, h => by simp at h; subst h; rfl
  | y :: ys, p + 1, x, h => by
    show y :: ys.set p x = y :: ys
    rw [set_same (by simpa using h)]
theorem ixN_nat {n j : Nat} (h : j < n) : ixN n (j : Int) = some j := by
  unfold ixN
  rw [if_pos (by omega), if_pos (by omega)]
  simp
theorem upd_back {H : Hp} {a : Addr} {o : HO} (h : H a = some o) : upd H a o = H := by
  funext b
  unfold upd
  split
  · rename_i e; rw [e, h]
  · rfl
theorem ok_swapped {f : Addr} {fd : FuncData} (F : FnP K "swapped" sSwapped f fd) (T : Tx K mg aN aW) : FnOk P w K mg base CX0 1 f fd ["table", "place"] (spSwapped K) := by
  refine F.ok scSwapped (fun vs H Q E h => ?_) (fun cdv A outer s H vs Q E hr h => ?_)
  · obtain ⟨_, _, _, _, _, _, rfl, _⟩ := h
    rfl
  · obtain ⟨a, r, p, xs, row, n, rfl, ha, hp, hl, hrow, hn, n0, k⟩ := h
    refine ⟨_, PSs.nox <| (pss_cons (ps_for PassesOwn.never rfl (pi_range2 (by rfl) T.range_ (pa_cons (pv 1) (pa_cons (pe_callB (cLen K) (by rfl) T.len_ (by decide +kernel) (pa_cons (pv 0) pa_nil)) pa_nil))) (pg_name (i := 2) scSwapped.nd rfl (lc_ rfl)) (pss_one (ps_if (pt_cmp (pc_neI (pe_ix (ixL K) (pe_ix (ixL K) (pv 0) (pv 2) (fun _ _ => rfl)) (pv 1) (fun _ _ => rfl)) pe_int)) (pss_cons (ps_asg (pe_tup (pa_cons (pe_ix (ixL K) (pv 0) (pv 2) (fun _ _ => rfl)) (pa_cons (pe_ix (ixL K) (pv 0) (pv 1) (fun _ _ => rfl)) pa_nil))) (gTup' K (pgs_cons (pg_sub (pv 0) (pv 1) set_list) (pgs_cons (pg_sub (pv 0) (pv 2) set_list) pgs_nil))))
      (pss_one (ps_ret pe_bl))) pss_nil)))
      (pss_one (ps_ret pe_bl))), ?_⟩
    have hpl : p < xs.length := (List.getElem?_eq_some_iff.mp hp).1
    refine ⟨_, rfl, _, rfl, a, xs, rfl, .inl (SqL.mk ha), _, _, rfl, ⟨by omega, by omega, by omega, by omega⟩, ?_⟩
    have hz : ((xs.length : Int) - (p : Int)).toNat = xs.length - p := by omega
    rw [hz]
    refine for_range (lo := p) (n := xs.length - p) (fun i σ H' => i = 0 ∧ σ = [some (.ref a), some (.int p), none] ∧ H' = H) ⟨rfl, rfl, rfl⟩ ?_ ?_
    · rintro i σ H' hi ⟨rfl, rfl, rfl⟩
      have e0 : (p : Int) + ((0 : Nat) : Int) = p := by omega
      rw [e0]
      refine ⟨_, rfl, _, rfl, a, xs, p, .ref r, rfl, rfl, SqL.mk ha, atI_nat hp, _, rfl, r, row, p, .int n, rfl, rfl, hrow, atI_nat hn, n, 0, rfl, rfl, _, rfl, ?_⟩
      refine iteB (by simp [n0]) ?_
      refine ⟨_, rfl, _, rfl, a, xs, p, .ref r, rfl, rfl, SqL.mk ha, atI_nat hp, _, rfl, _, rfl, a, xs, p, .ref r, rfl, rfl, SqL.mk ha, atI_nat hp, (by show 2 ≤ sizeLine; decide), fun t ht => ?_⟩
      have ta : a ≠ t := ne_of_none ha ht
      have ha1 : upd H' t (.tup [.ref r, .ref r]) a = some (.lst xs) := by rw [upd_ne ta]; exact ha
      refine ⟨t, _, rfl, SqT.mk upd_same, rfl, _, _, rfl, _, rfl, _, rfl, a, xs, p, p, rfl, rfl, ha1, ixN_nat hpl, ?_⟩
      rw [set_same hp, upd_back ha1]
      refine ⟨_, _, rfl, _, rfl, _, rfl, a, xs, p, p, rfl, rfl, ha1, ixN_nat hpl, rfl, ?_⟩
      rw [set_same hp, upd_back ha1]
      exact k _ (Same.new ht)
    · rintro σ H' ⟨h0, _, _⟩
      omega
/-! ### lessened -/
abbrev sLessened : Stmt := top 12
def NLessened : List Str := ["row", "head", "place", "last", "one", "other"]
theorem scLessened : FnScope NLessened ["row", "head", "place", "last"] (defScope sLessened) := ⟨rfl, rfl, rfl, by decide +kernel, rfl, by decide +kernel, by decide +kernel⟩
/-- the rows told by their places -/
def rowV (M : Nat) (f : Nat → Int) : List V := (List.range M).map fun j => V.int (f j)
theorem rowV_len (M : Nat) (f : Nat → Int) : (rowV M f).length = M := by unfold rowV; simp
theorem rowV_get {M : Nat} {f : Nat → Int} {j : Nat} (h : j < M) : (rowV M f)[j]? = some (.int (f j)) := by unfold rowV; simp [h]
theorem rowV_at {M : Nat} {f : Nat → Int} {j : Nat} {v : V} (h : (rowV M f)[j]? = some v) : j < M ∧ v = .int (f j) := by
  have hj : j < M := by have := (List.getElem?_eq_some_iff.mp h).1; rw [rowV_len] at this; exact this
  rw [rowV_get hj] at h
  exact ⟨hj, (Option.some.inj h).symm⟩
def spLessened (K : PySem.W.Frag) : Sp := fun vs H Q _ => ∃ (a b : Addr) (M p : Nat) (f g : Nat → Int) (l : Int), vs = [.ref a, .ref b, .int p, .int l] ∧ SqL K H a (rowV M f) ∧ SqL K H b (rowV M g) ∧ p < M ∧ M ≤ 1000 ∧ 0 < l ∧ Sz 500 l ∧ (∀ j, Sz 500 (f j)) ∧ (∀ j, Sz 500 (g j)) ∧
  ∀ q H', H q = none → Same H H' → H' q = some (.lst (rowV M fun j => (g p * f j - f p * g j) / l)) → Q (.ref q) H'
theorem ok_lessened {f : Addr} {fd : FuncData} (F : FnP K "lessened" sLessened f fd) (T : Tx K mg aN aW) : FnOk P w K mg base CX0 1 f fd ["row", "head", "place", "last"] (spLessened K) := by
  refine F.ok scLessened (fun vs H Q E h => ?_) (fun cdv A outer s H vs Q E hr h => ?_)
  · obtain ⟨_, _, _, _, _, _, _, rfl, _⟩ := h
    rfl
  · obtain ⟨a, b, M, p, f, g, l, rfl, ha, hb, hp, hM, l0, sl, sf, sg, k⟩ := h
    refine ⟨_, PSs.nox <| (pss_one (ps_ret (pe_lc (own := [("one", 4), ("other", 5)]) (g := (gTup K 2 (gCons (gName 4) (gCons (gName 5) gNil)))) (tt := tYes) (by rfl) scLessened.nd (piZip K (by rfl) T.zip_ (pa_cons (pv 0) (pa_cons (pv 1) pa_nil))) (blkOk_by (N := NLessened) (sc := defScope sLessened) (by decide +kernel)) (fun _ _ _ _ _ => (gTup' K (pgs_cons (pg_name (i := 4) scLessened.nd rfl (lc_ rfl)) (pgs_cons (pg_name (i := 5) scLessened.nd rfl (lc_ rfl)) pgs_nil)))) (fun _ _ _ _ _ => pts_nil) (fun _ _ _ _ _ => (pe_op op_fdivW (pe_op op_sub (pe_op op_mulW (pe_ix (ixL K) (pv 1) (pv 2) (fun _ _ => rfl)) (pv 4)) (pe_op op_mulW (pe_ix (ixL K) (pv 0) (pv 2) (fun _ _ => rfl)) (pv 5))) (pv 3)))))), ?_⟩
    refine ⟨_, rfl, _, rfl, a, b, _, _, rfl, ha, hb, fun D hD => ?_⟩
    refine lc_tdY (K := K) (walk_zip (n := M) (xs := rowV M f) (ys := rowV M g) (by rw [rowV_len, rowV_len]; omega)) (fun j => .int ((g p * f j - f p * g j) / l)) hD (by omega) (fun H' s => ⟨s.seq ha, s.seq hb⟩) ?_ ?_
    · rintro i x H' H'' k2 hi s ⟨xs, hxs⟩ ⟨t, u, v, rfl, ht, rfl, hu, hv⟩ kk
      obtain ⟨_, rfl⟩ := rowV_at hu
      obtain ⟨_, rfl⟩ := rowV_at hv
      refine ⟨t, _, rfl, SqT.mk upd_same, rfl, _, _, rfl, _, _, rfl, rfl, rfl, ?_⟩
      have ha' := (s.trans (Same.new (o := .tup [.int (f i), .int (g i)]) ht)).seq ha
      have hb' := (s.trans (Same.new (o := .tup [.int (f i), .int (g i)]) ht)).seq hb
      refine ⟨_, rfl, _, rfl, b, _, p, _, rfl, rfl, hb', atI_nat (rowV_get hp), _, rfl, _, _, rfl, rfl, wide_mul (sg p) (sf i) (by decide) (by decide) (by decide), ?_⟩
      refine ⟨_, rfl, _, rfl, a, _, p, _, rfl, rfl, ha', atI_nat (rowV_get hp), _, rfl, _, _, rfl, rfl, wide_mul (sf p) (sg i) (by decide) (by decide) (by decide), _, _, rfl, rfl, ?_⟩
      refine ⟨_, rfl, _, _, rfl, rfl, wide_div l0 sl (by decide) (by decide), ?_⟩
      exact kk _ _ (Same.new ht) (.int _)
    · intro ys H' s hy t
      have e : ys = rowV M fun j => (g p * f j - f p * g j) / l := by
        have : (List.range M).map (fun j => PyData.int ((g p * f j - f p * g j) / l)) = ((List.range M).map fun j => (g p * f j - f p * g j) / l).map PyData.int := by simp
        rw [this] at t
        rw [TDs.of_ints t]
        unfold rowV
        simp
      subst e
      exact k D H' hD s hy
end
end Ser
end
section
set_option maxRecDepth 100000
set_option maxHeartbeats 4000000
namespace Ser
open PySem L2
section
variable {P : Program} {w : World} {K : PySem.W.Frag} {mg : Str → Option Value} {base : Heap} {aN aW : Addr}
/-! ### solved -/
abbrev sSolved : Stmt := top 13
def NSolved : List Str := ["table", "rows", "many", "last", "row", "place", "head", "number", "side"]
theorem scSolved : FnScope NSolved ["table"] (defScope sSolved) := ⟨rfl, rfl, rfl, by decide +kernel, rfl, by decide +kernel, by decide +kernel⟩
def solD (c : Nat → SM.Col) (n r : Nat) : List PyData := (List.range n).map fun i => .tuple ((List.range r).map fun x => frD (SM.fr (SM.ee c n i (n + x)) (SM.D n c)))
def spSolved (K : PySem.W.Frag) : Sp := fun vs H Q _ => ∃ (a : Addr) (as : List Addr) (n r : Nat) (c : Nat → SM.Col), vs = [.ref a] ∧ SqL K H a (as.map V.ref) ∧ as.length = n ∧ n ≤ 60 ∧ r ≤ 20 ∧ (∀ i b, as[i]? = some b → SqL K H b (rowV (n + r) fun j => c j i)) ∧
  (∀ j t, (c j t).natAbs ≤ 4) ∧ (∀ k, k ≤ n → 0 < SM.D k c) ∧ ∀ D xs H', H D = none → Same H H' → H' D = some (.lst xs) → TDs K H' xs (solD c n r) → Q (.ref D) H'
/-- the lists of a list, by their places -/
def Rows (H : Hp) (M : Nat) (f : Nat → Nat → Int) (qs : List Addr) : Prop := ∀ i q, qs[i]? = some q → H q = some (.lst (rowV M (f i)))
theorem rows_all {M : Nat} {f : Nat → Nat → Int} {D : Addr} {H : Hp} : ∀ {is : List Nat} {ys : List V}, All2 (fun i y H => ∃ q, y = V.ref q ∧ q ≠ D ∧ H q = some (.lst (rowV M (f i)))) H is ys →
    ∃ qs : List Addr, ys = qs.map V.ref ∧ qs.length = is.length ∧ ∀ (j i : Nat) (q : Addr), is[j]? = some i → qs[j]? = some q → H q = some (.lst (rowV M (f i)))
  | _, _, .nil => ⟨[], rfl, rfl, fun j i q h => by simp at h⟩
  | i :: is, _, .cons h r => by
    obtain ⟨q, rfl, _, hq⟩ := h
    obtain ⟨qs, rfl, l, hh⟩ := rows_all r
    refine ⟨q :: qs, rfl, congrArg (· + 1) l, fun j i' q' h1 h2 => ?_⟩
    cases j with
    | zero =>
      have e1 : i = i' := by simpa using h1
      have e2 : q = q' := by simpa using h2
      subst e1 e2
      exact hq
    | succ j => exact hh j i' q' (by simpa using h1) (by simpa using h2)
theorem rows_of {M n : Nat} {f : Nat → Nat → Int} {D : Addr} {H : Hp} {ys : List V} (a : All2 (fun i y H => ∃ q, y = V.ref q ∧ q ≠ D ∧ H q = some (.lst (rowV M (f i)))) H (List.range n) ys) : ∃ qs : List Addr, ys = qs.map V.ref ∧ qs.length = n ∧ Rows H M f qs := by
  obtain ⟨qs, e, l, h⟩ := rows_all a
  rw [List.length_range] at l
  refine ⟨qs, e, l, fun i q hq => ?_⟩
  have hi : i < n := by have := (List.getElem?_eq_some_iff.mp hq).1; omega
  exact h i i q (by simp [hi]) hq
theorem rows_st {M n : Nat} {f : Nat → Nat → Int} {D : Addr} {H1 : Hp} : ∀ i y H H' xs, i < n → (∃ q, y = V.ref q ∧ q ≠ D ∧ H q = some (.lst (rowV M (f i)))) → Same H1 H → H D = some (.lst xs) → ExD D H H' → ∃ q, y = V.ref q ∧ q ≠ D ∧ H' q = some (.lst (rowV M (f i))) :=
  fun i y H H' xs _ ⟨q, e, h, h2⟩ _ _ ex => ⟨q, e, h, ex q _ h2 h⟩
theorem ref_at {qs : List Addr} {i : Nat} {v : V} (h : (qs.map V.ref)[i]? = some v) : ∃ q, qs[i]? = some q ∧ v = .ref q := by
  rw [List.getElem?_map] at h
  cases e : qs[i]? with
  | none => rw [e] at h; cases h
  | some q => rw [e] at h; exact ⟨q, rfl, (Option.some.inj h).symm⟩
theorem ref_get {qs : List Addr} {i : Nat} {q : Addr} (h : qs[i]? = some q) : (qs.map V.ref)[i]? = some (.ref q) := by rw [List.getElem?_map, h]; rfl
theorem rows_get {qs : List Addr} {i n : Nat} (h : qs.length = n) (hi : i < n) : ∃ q, qs[i]? = some q := ⟨qs[i]'(by omega), by simp [h, hi]⟩
theorem sIx_nat {n d i : Nat} (h : i ≤ n) : HT.sIx n d (some (i : Int)) = i := by
  rw [HT.sIx_nat]
  exact Nat.min_eq_left h
theorem cut_drop {xs : List V} {n : Nat} (h : n ≤ xs.length) : cutV xs (some (n : Int)) none = xs.drop n := by
  unfold cutV
  rw [sIx_nat h]
  show (xs.drop n).take (xs.length - n) = _
  rw [List.take_of_length_le (by rw [List.length_drop]; exact Nat.le_refl _)]
theorem cut_take {xs : List V} {n : Nat} (h : n ≤ xs.length) : cutV xs none (some (n : Int)) = xs.take n := by
  unfold cutV
  rw [sIx_nat h]
  show (xs.drop 0).take (n - 0) = _
  rw [List.drop_zero, Nat.sub_zero]
theorem cut_from (n M : Nat) (f : Nat → Int) : cutV (rowV (n + M) f) (some (n : Int)) none = rowV M fun x => f (n + x) := by
  rw [cut_drop (by rw [rowV_len]; omega)]
  refine List.ext_getElem? fun i => ?_
  rw [List.getElem?_drop]
  by_cases h : i < M
  · rw [rowV_get (by omega), rowV_get h]
  · rw [List.getElem?_eq_none (by rw [rowV_len]; omega), List.getElem?_eq_none (by rw [rowV_len]; omega)]
theorem ok_solved {f f1 f2 f3 : Addr} {fd fd1 fd2 fd3 : FuncData} (F : FnP K "solved" sSolved f fd) (T : Tx K mg aN aW) (G_swapped : Def P w K mg base CX0 "swapped" 1 ["table", "place"] (spSwapped K) f1 fd1)
    (G_lessened : Def P w K mg base CX0 "lessened" 1 ["row", "head", "place", "last"] (spLessened K) f2 fd2) (G_fraction : Def P w K mg base CX0 "fraction" 2 ["top", "bottom"] (spFraction K) f3 fd3) : FnOk P w K mg base CX0 3 f fd ["table"] (spSolved K) := by
  refine F.ok scSolved (fun vs H Q E h => ?_) (fun cdv A outer s H vs Q E hr h => ?_)
  · obtain ⟨_, _, _, _, _, rfl, _⟩ := h
    rfl
  · obtain ⟨a, as, n, r, c, rfl, ha, hn, hn60, hr20, hrow, hc, hd, k⟩ := h
    refine ⟨_, PSs.nox <| (pss_cons (ps_asg (pe_tup (pa_cons (pe_lc (own := [("row", 4)]) (g := (gName 4)) (tt := tYes) (by rfl) scSolved.nd (piL K (pv 0)) (blkOk_by (N := NSolved) (sc := defScope sSolved) (by decide +kernel)) (fun _ _ _ _ _ => (pg_name (i := 4) scSolved.nd rfl (lc_ rfl))) (fun _ _ _ _ _ => pts_nil) (fun _ _ _ _ _ => (pe_callTy (cList K) (by rfl) T.list_ (by decide +kernel) (pa_cons (pv 4) pa_nil)))) (pa_cons (pe_callB (cLen K) (by rfl) T.len_ (by decide +kernel) (pa_cons (pv 0) pa_nil)) (pa_cons pe_int pa_nil)))) (gTup' K (pgs_cons (pg_name (i := 1) scSolved.nd rfl (lc_ rfl)) (pgs_cons (pg_name (i := 2) scSolved.nd rfl (lc_ rfl)) (pgs_cons (pg_name (i := 3) scSolved.nd rfl (lc_ rfl)) pgs_nil)))))
      (pss_cons (ps_for PassesOwn.never rfl (pi_range1 (by rfl) T.range_ (pa_cons (pv 2) pa_nil)) (pg_name (i := 5) scSolved.nd rfl (lc_ rfl)) (pss_cons (ps_expr (dcall G_swapped (hr.mono (by decide)) (pa_cons (pv 1) (pa_cons (pv 5) pa_nil))))
      (pss_cons (ps_set (i := 6) scSolved.nd rfl (lc_ rfl) (pe_ix (ixL K) (pv 1) (pv 5) (fun _ _ => rfl)))
      (pss_cons (ps_setLc (i := 1) (own := [("number", 7), ("row", 4)]) (g := (gTup K 2 (gCons (gName 7) (gCons (gName 4) gNil)))) (tt := tYes) (by rfl) scSolved.nd rfl rfl (sw_true rfl rfl rfl (by decide +kernel)) (piEnum K (by rfl) T.enumerate_ (pa_cons (pv 1) pa_nil)) (blkOk_by (N := NSolved) (sc := defScope sSolved) (by decide +kernel)) (fun _ _ _ _ _ => (gTup' K (pgs_cons (pg_name (i := 7) scSolved.nd rfl (lc_ rfl)) (pgs_cons (pg_name (i := 4) scSolved.nd rfl (lc_ rfl)) pgs_nil)))) (fun _ _ _ _ _ => pts_nil) (fun _ _ _ _ _ => (pe_ifExp (pt_cmp (pc_eqI (pv 7) (pv 5))) (pv 4) (dcall G_lessened (hr.mono (by decide)) (pa_cons (pv 4) (pa_cons (pv 6) (pa_cons (pv 5) (pa_cons (pv 3) pa_nil))))))))
      (pss_one (ps_set (i := 3) scSolved.nd rfl (lc_ rfl) (pe_ix (ixL K) (pv 6) (pv 5) (fun _ _ => rfl))))))))
      (pss_one (ps_ret (pe_lc (own := [("number", 7), ("row", 4)]) (g := (gTup K 2 (gCons (gName 7) (gCons (gName 4) gNil)))) (tt := tYes) (by rfl) scSolved.nd (piEnum K (by rfl) T.enumerate_ (pa_cons (pv 1) pa_nil)) (blkOk_by (N := NSolved) (sc := defScope sSolved) (by decide +kernel)) (fun _ _ _ _ _ => (gTup' K (pgs_cons (pg_name (i := 7) scSolved.nd rfl (lc_ rfl)) (pgs_cons (pg_name (i := 4) scSolved.nd rfl (lc_ rfl)) pgs_nil)))) (fun _ _ _ _ _ => pts_nil) (fun _ _ _ _ _ => (pe_callTy (cTuple K) (by rfl) T.tuple_ (by decide +kernel) (pa_cons (pe_lc (own := [("side", 8)]) (g := (gName 8)) (tt := tYes) (by rfl) scSolved.nd (piL K (pe_slice (slL K) (pv 4) (po_some (pv 2)) po_none)) (blkOk_by (N := NSolved) (sc := (relS (lcSc (valE (nthS (defBody sSolved) 2))) (defScope sSolved))) (by decide +kernel)) (fun _ _ _ _ _ => (pg_name (i := 8) scSolved.nd rfl (lc_ rfl))) (fun _ _ _ _ _ => pts_nil) (fun _ _ _ _ _ => (dcall G_fraction (hr.mono (by decide)) (pa_cons (pv 8) (pa_cons (pe_ix (ixL K) (pv 4) (pv 7) (fun _ _ => rfl)) pa_nil))))) pa_nil)))))))), ?_⟩
    -- rows, many, last
    refine ⟨_, rfl, a, rfl, ⟨_, ha⟩, fun D hD => ?_⟩
    refine lc_genY (walk_list (xs := as.map V.ref)) (fun i y H => ∃ q, y = V.ref q ∧ q ≠ D ∧ H q = some (.lst (rowV (n + r) fun j => c j i))) hD (by rw [List.length_map]; omega) (fun H' s => s.seq ha) rows_st ?_ ?_
    · rintro i x H' H'' k2 hi s0 ⟨xs, hxs⟩ ⟨rfl, hx⟩ kk
      obtain ⟨b, hb, rfl⟩ := ref_at hx
      refine ⟨rfl, _, rfl, b, _, rfl, .inl (s0.seq (hrow i b hb)), fun q hq => kk _ _ (Same.new hq) ⟨q, rfl, (ne_of_none hxs hq).symm, upd_same⟩⟩
    intro ys H1 s1 hy1 a1
    rw [List.length_map, hn] at a1
    obtain ⟨qs, rfl, ql, hq⟩ := rows_of a1
    refine ⟨_, rfl, a, _, rfl, .inl (s1.seq ha), (by show 3 ≤ sizeLine; decide), fun t ht => ?_⟩
    have s2 : Same H1 (upd H1 t (.tup [.ref D, .int (as.map V.ref).length, .int 1])) := Same.new ht
    refine ⟨t, _, rfl, SqT.mk upd_same, rfl, _, _, rfl, _, _, rfl, _, _, rfl, rfl, ?_⟩
    -- for place in range(many)
    refine ⟨_, rfl, n, (by rw [List.length_map, hn]), by omega, by omega, for_range (lo := 0) (n := n) (fun i σ H' => ∃ (R : Addr) (qs : List Addr) (v5 v6 : Option V), σ = [some (.ref a), some (.ref R), some (.int n), some (.int (SM.D i c)), none, v5, v6, none, none] ∧ Same H H' ∧ H' R = some (.lst (qs.map V.ref)) ∧ qs.length = n ∧ Rows H' (n + r) (SM.entry c i) qs)
      ⟨D, qs, none, none, ?_, s1.trans s2, s2 _ _ hy1, ql, fun i q e => ?_⟩ ?_ ?_⟩
    · rw [List.length_map, hn]; rfl
    · have e2 : SM.entry c 0 i = fun j => c j i := by funext j; exact SM.entry_zero c i j
      rw [e2]
      exact s2 _ _ (hq i q e)
    · rintro i σ H' hi ⟨R, qs, v5, v6, rfl, s3, hR, ql, hq⟩
      have e0 : (0 : Int) + (i : Int) = i := by omega
      rw [e0]
      obtain ⟨b, hb⟩ := rows_get ql hi
      have hbL := hq i b hb
      have piv : SM.entry c i i i = SM.D (i + 1) c := SM.entry_pivot c i
      have pp := hd (i + 1) (by omega)
      -- swapped(rows, place)
      refine ⟨_, rfl, _, rfl, R, b, i, _, _, _, rfl, hR, ref_get hb, by rw [List.length_map]; omega, SqL.mk hbL, rowV_get (by omega), (by rw [piv]; omega), fun H4 s4 => ?_⟩
      -- head = rows[place]
      refine ⟨_, rfl, _, rfl, R, _, i, _, rfl, rfl, SqL.mk (s4 _ _ hR), atI_nat (ref_get hb), ?_⟩
      -- rows = [..]
      refine ⟨_, rfl, R, _, rfl, SqL.mk (s4 _ _ hR), fun D4 hD4 => ?_⟩
      refine lc_genY (walk_enum (xs := qs.map V.ref)) (fun j y H => ∃ q, y = V.ref q ∧ q ≠ D4 ∧ H q = some (.lst (rowV (n + r) (SM.entry c (i + 1) j)))) hD4 (by rw [List.length_map]; omega) (fun H' s => s.seq (SqL.mk (s4 _ _ hR))) rows_st ?_ ?_
      · rintro j x H5 H6 k2 hj s5 ⟨xs, hxs⟩ ⟨t, x1, x2, rfl, ht, rfl, hx1, hx2⟩ kk
        cases hx1
        obtain ⟨q, hqj, rfl⟩ := ref_at hx2
        have s6 : Same H4 (upd H5 t (.tup [.int j, .ref q])) := s5.trans (Same.new ht)
        have hq6 : upd H5 t (.tup [.int j, .ref q]) q = some (.lst (rowV (n + r) (SM.entry c i j))) := s6 _ _ (s4 _ _ (hq j q hqj))
        have hb6 : upd H5 t (.tup [.int j, .ref q]) b = some (.lst (rowV (n + r) (SM.entry c i i))) := s6 _ _ (s4 _ _ hbL)
        have ne : ∀ p o, H4 p = some o → p ≠ D4 := fun p o e => ne_of_none e hD4
        refine ⟨t, _, rfl, SqT.mk upd_same, rfl, _, _, rfl, _, _, rfl, rfl, rfl, _, rfl, _, rfl, _, _, rfl, rfl, _, rfl, iteB2 (fun hji => ?_) (fun hji => ?_)⟩
        · have hji : (j : Int) = i := of_decide_eq_true hji
          have hji : j = i := by omega
          subst hji
          refine ⟨_, rfl, kk _ _ (Same.new ht) ⟨q, rfl, ne q _ (s4 _ _ (hq j q hqj)), ?_⟩⟩
          rw [hq6]
          have e : SM.entry c j j = SM.entry c (j + 1) j := by funext x; exact SM.entry_same c j x
          rw [e]
        · have hji : ¬ (j : Int) = i := of_decide_eq_false hji
          refine ⟨_, rfl, _, rfl, _, rfl, _, rfl, q, b, n + r, i, _, _, _, rfl, SqL.mk hq6, SqL.mk hb6, by omega, by omega, hd i (by omega), SM.D_small (by omega) hc, fun x => SM.entry_small (n := n) (by omega) hn60 hc (by rw [List.length_map] at hj; omega) x, fun x => SM.entry_small (n := n) (by omega) hn60 hc hi x, fun p H7 hp s7 h7 => ?_⟩
          refine kk _ _ ((Same.new ht).trans s7) ⟨p, rfl, ?_, ?_⟩
          · intro z
            subst z
            have := (Same.new ht : Same H5 (upd H5 t (.tup [.int j, .ref q]))) _ _ hxs
            rw [hp] at this
            cases this
          · rw [h7]
            have S := SM.star_all (c := c) (n := i) (fun l hl => by have := hd l (by omega); omega) i (Nat.le_refl _)
            have d0 := hd i (by omega)
            have e : (fun x => (SM.entry c i i i * SM.entry c i j x - SM.entry c i j i * SM.entry c i i x) / SM.D i c) = SM.entry c (i + 1) j := by
              funext x
              exact SM.entry_step S (by omega) (by omega) x
            rw [e]
      · intro ys H5 s5 hy5 a5
        rw [List.length_map, ql] at a5
        obtain ⟨ps, rfl, pl, hp⟩ := rows_of a5
        -- last = head[place]
        refine ⟨_, rfl, _, rfl, b, _, i, _, rfl, rfl, SqL.mk (s5 _ _ (s4 _ _ hbL)), atI_nat (rowV_get (by omega)), D4, ps, some (.int i), some (.ref b), ?_, (s3.trans s4).trans s5, hy5, pl, hp⟩
        rw [piv]
        rfl
    · rintro σ H' ⟨R, qs, v5, v6, rfl, s3, hR, ql, hq⟩
      refine ⟨_, rfl, R, _, rfl, SqL.mk hR, fun D4 hD4 => ?_⟩
      refine lc_tdY (K := K) (walk_enum (xs := qs.map V.ref)) (fun i => .tuple ((List.range r).map fun x => frD (SM.fr (SM.ee c n i (n + x)) (SM.D n c)))) hD4 (by rw [List.length_map]; omega) (fun H' s => s.seq (SqL.mk hR)) ?_ ?_
      · rintro j x H5 H6 k2 hj s5 ⟨xs, hxs⟩ ⟨t, x1, x2, rfl, ht, rfl, hx1, hx2⟩ kk
        cases hx1
        obtain ⟨q, hqj, rfl⟩ := ref_at hx2
        have hj' : j < n := by rw [List.length_map] at hj; omega
        have s6 : Same H' (upd H5 t (.tup [.int j, .ref q])) := s5.trans (Same.new ht)
        have hq6 : upd H5 t (.tup [.int j, .ref q]) q = some (.lst (rowV (n + r) (SM.entry c n j))) := s6 _ _ (hq j q hqj)
        refine ⟨t, _, rfl, SqT.mk upd_same, rfl, _, _, rfl, _, _, rfl, rfl, rfl, ?_⟩
        -- row[many:]
        refine ⟨_, rfl, _, rfl, _, rfl, q, _, rfl, SqL.mk hq6, fun p hp => ?_⟩
        rw [cut_from]
        refine ⟨p, rfl, ⟨_, SqL.mk upd_same⟩, fun D5 hD5 => ?_⟩
        have s7 : Same (upd H5 t (.tup [.int j, .ref q])) (upd (upd H5 t (.tup [.int j, .ref q])) p (.lst (rowV r fun x => SM.entry c n j (n + x)))) := Same.new hp
        refine lc_tdY (K := K) (walk_list (xs := rowV r fun x => SM.entry c n j (n + x))) (fun x => frD (SM.fr (SM.ee c n j (n + x)) (SM.D n c))) hD5 (by rw [rowV_len]; omega) (fun H' s => s.seq (SqL.mk upd_same)) ?_ ?_
        · rintro x y H7 H8 k3 hx s8 ⟨zs, hzs⟩ ⟨rfl, hy⟩ kk2
          obtain ⟨hxr, rfl⟩ := rowV_at hy
          have d0 := hd n (Nat.le_refl _)
          have en : SM.entry c n j j = SM.D n c := by rw [SM.entry_end c hj', SM.ee_diag]
          refine ⟨rfl, _, rfl, _, rfl, _, rfl, q, _, j, _, rfl, rfl, SqL.mk (s8 _ _ (s7 _ _ hq6)), atI_nat (rowV_get (by omega)), ?_⟩
          refine ⟨_, _, rfl, ?_, ?_, fun v H9 s9 tv => ?_⟩
          · rw [en]; exact d0
          · rw [en]; exact (show Sz 500 _ from SM.D_small hn60 hc).mono (by decide)
          · rw [en, SM.entry_end c hj'] at tv
            exact kk2 v H9 s9 tv
        · intro zs H7 s8 hz tz
          rw [rowV_len] at tz
          refine ⟨D5, zs, rfl, .inl ⟨SqL.mk hz, fun l hl => ?_⟩⟩
          refine kk _ _ (((Same.new ht).trans s7).trans (s8.trans (Same.new hl))) (.tup (SqT.mk upd_same) (tz.mono (TupEx.of (Same.new hl))))
      · intro ys H5 s5 hy5 t5
        rw [List.length_map, ql] at t5
        exact k D4 ys H5 (s3.free hD4) (s3.trans s5) hy5 t5
end
end Ser
end
section
set_option maxRecDepth 100000
set_option maxHeartbeats 4000000
namespace Ser
open PySem L2
section
variable {P : Program} {w : World} {K : PySem.W.Frag} {mg : Str → Option Value} {base : Heap} {aN aW : Addr}
theorem rowV_succ (M : Nat) (f : Nat → Int) : rowV (M + 1) f = rowV M f ++ [.int (f M)] := by
  unfold rowV
  rw [List.range_succ, List.map_append]
  rfl
theorem rowV_congr {M : Nat} {f g : Nat → Int} (h : ∀ i, i < M → f i = g i) : rowV M f = rowV M g := by
  unfold rowV
  exact List.map_congr_left fun i hi => by rw [h i (List.mem_range.mp hi)]
/-! ### opens_to -/
abbrev sOpensTo : Stmt := top 15
def NOpensTo : List Str := ["many", "depth", "found", "turn"]
theorem scOpensTo : FnScope NOpensTo ["many", "depth"] (defScope sOpensTo) := ⟨rfl, rfl, rfl, by decide +kernel, rfl, by decide +kernel, by decide +kernel⟩
def spOpens : Sp := fun vs H Q _ => ∃ m d : Nat, vs = [.int m, .int d] ∧ 0 < m ∧ d ≤ 1000 ∧ ∀ D H', H D = none → Same H H' → H' D = some (.lst (rowV (d + 1) (SM.rem m))) → Q (.ref D) H'
theorem ok_opens {f : Addr} {fd : FuncData} (F : FnP K "opens_to" sOpensTo f fd) (T : Tx K mg aN aW) : FnOk P w K mg base CX0 1 f fd ["many", "depth"] spOpens := by
  refine F.ok scOpensTo (fun vs H Q E h => ?_) (fun cdv A outer s H vs Q E hr h => ?_)
  · obtain ⟨_, _, rfl, _⟩ := h
    rfl
  · obtain ⟨m, d, rfl, hm, hd, k⟩ := h
    refine ⟨_, PSs.nox <| (pss_cons (ps_set (i := 2) scOpensTo.nd rfl (lc_ rfl) (pe_lst (pa_cons (pe_op op_mod pe_int (pv 0)) pa_nil)))
      (pss_cons (ps_for PassesOwn.never rfl (pi_range1 (by rfl) T.range_ (pa_cons (pv 1) pa_nil)) (pg_name (i := 3) scOpensTo.nd rfl (lc_ rfl)) (pss_one (ps_expr (pBm K PySem.F.plainAttrs_list PySem.F.slot_list_append PySem.F.type_list_append mt_append (pv 2) (pa_cons (pe_op op_mod (pe_op op_mul pe_int (pe_ix (ixL K) (pv 2) (pe_un un_neg pe_int) (fun _ _ => rfl))) (pv 0)) pa_nil)))))
      (pss_one (ps_ret (pv 2))))), ?_⟩
    refine ⟨_, rfl, _, _, rfl, rfl, (by omega), (by show 1 ≤ sizeLine; decide), fun D hD => ?_⟩
    have e0 : V.int (1 % (m : Int)) = V.int (SM.rem m 0) := by
      unfold SM.rem
      push_cast
      rfl
    refine ⟨_, rfl, d, rfl, by omega, by omega, for_range (lo := 0) (n := d) (fun i σ H' => ∃ v, σ = [some (.int m), some (.int d), some (.ref D), v] ∧ Same H H' ∧ H' D = some (.lst (rowV (i + 1) (SM.rem m)))) ⟨none, rfl, Same.new hD, ?_⟩ ?_ ?_⟩
    · refine upd_same.trans ?_
      show some (HO.lst [V.int (1 % (m : Int))]) = _
      rw [e0]
      rfl
    · rintro i σ H' hi ⟨v, rfl, s1, h1⟩
      refine ⟨_, rfl, .inl ⟨rfl, _, SqL.mk h1⟩, _, rfl, _, rfl, D, _, -1, .int (SM.rem m i), rfl, rfl, SqL.mk h1, ?_, _, _, rfl, rfl, .inl ⟨by decide, by decide⟩, _, rfl, _, _, rfl, rfl, (by omega), D, _, _, rfl, rfl, h1, ?_, ?_⟩
      · rw [rowV_succ]
        exact atI_last _ _
      · rw [rowV_len]
        have q : (100000 : Nat) ≤ sizeLine := by decide
        omega
      · refine ⟨some (.int (0 + (i : Int))), rfl, Same.put s1 hD, ?_⟩
        rw [upd_same, rowV_succ (i + 1), SM.rem_succ]
    · rintro σ H' ⟨v, rfl, s1, h1⟩
      exact ⟨_, rfl, k D H' hD s1 h1⟩
/-! ### leaves_to -/
abbrev sLeavesTo : Stmt := top 16
def NLeavesTo : List Str := ["many", "depth", "opens", "ahead", "here"]
theorem scLeavesTo : FnScope NLeavesTo ["many", "depth"] (defScope sLeavesTo) := ⟨rfl, rfl, rfl, by decide +kernel, rfl, by decide +kernel, by decide +kernel⟩
def lvs (m i : Nat) : Int := m * SM.dig m i
theorem lvs_zero {m : Nat} (hm : 0 < m) : lvs m 0 = if decide ((m : Int) = 1) = true then 1 else 0 := by
  unfold lvs SM.dig
  by_cases h : m = 1
  · subst h
    rfl
  · have : 2 ^ 0 / m = 0 := Nat.div_eq_of_lt (by omega)
    rw [this, if_neg (by simp; omega)]
    simp
theorem lvs_succ {m : Nat} (hm : 0 < m) (i : Nat) : lvs m (i + 1) = 2 * SM.rem m i - SM.rem m (i + 1) := by
  unfold lvs
  rw [SM.rem_dig hm i]
  omega
def spLeaves : Sp := fun vs H Q _ => ∃ m d : Nat, vs = [.int m, .int d] ∧ 0 < m ∧ d ≤ 1000 ∧ ∀ D H', H D = none → Same H H' → H' D = some (.lst (rowV (d + 1) (lvs m))) → Q (.ref D) H'
theorem rowV_drop1 (M : Nat) (f : Nat → Int) : cutV (rowV (M + 1) f) (some 1) none = rowV M fun i => f (i + 1) := by
  have := cut_from 1 M f
  rw [Nat.add_comm 1 M] at this
  refine (show cutV (rowV (M + 1) f) (some ((1 : Nat) : Int)) none = _ from this).trans (rowV_congr fun i _ => by rw [Nat.add_comm])
theorem ints_of {ys : List V} {K : PySem.W.Frag} {H : Hp} {n : Nat} {f : Nat → Int} (t : TDs K H ys ((List.range n).map fun i => PyData.int (f i))) : ys = rowV n f := by
  have : (List.range n).map (fun i => PyData.int (f i)) = ((List.range n).map f).map PyData.int := by simp
  rw [this] at t
  rw [TDs.of_ints t]
  unfold rowV
  simp
theorem ok_leaves {f f1 : Addr} {fd fd1 : FuncData} (F : FnP K "leaves_to" sLeavesTo f fd) (T : Tx K mg aN aW) (G_opens_to : Def P w K mg base CX0 "opens_to" 1 ["many", "depth"] spOpens f1 fd1) : FnOk P w K mg base CX0 2 f fd ["many", "depth"] spLeaves := by
  refine F.ok scLeavesTo (fun vs H Q E h => ?_) (fun cdv A outer s H vs Q E hr h => ?_)
  · obtain ⟨_, _, rfl, _⟩ := h
    rfl
  · obtain ⟨m, d, rfl, hm, hd, k⟩ := h
    refine ⟨_, PSs.nox <| (pss_cons (ps_set (i := 2) scLeavesTo.nd rfl (lc_ rfl) (dcall G_opens_to (hr.mono (by decide)) (pa_cons (pv 0) (pa_cons (pv 1) pa_nil))))
      (pss_one (ps_ret (pe_op op_cat (pe_lst (pa_cons (pe_callTy call_int1 (by rfl) T.int_ (by decide +kernel) (pa_cons (pe_cmp (pc_eqI (pv 0) pe_int)) pa_nil)) pa_nil)) (pe_lc (own := [("ahead", 3), ("here", 4)]) (g := (gTup K 2 (gCons (gName 3) (gCons (gName 4) gNil)))) (tt := tYes) (by rfl) scLeavesTo.nd (piZip K (by rfl) T.zip_ (pa_cons (pv 2) (pa_cons (pe_slice (slL K) (pv 2) (po_some pe_int) po_none) pa_nil))) (blkOk_by (N := NLeavesTo) (sc := defScope sLeavesTo) (by decide +kernel)) (fun _ _ _ _ _ => (gTup' K (pgs_cons (pg_name (i := 3) scLeavesTo.nd rfl (lc_ rfl)) (pgs_cons (pg_name (i := 4) scLeavesTo.nd rfl (lc_ rfl)) pgs_nil)))) (fun _ _ _ _ _ => pts_nil) (fun _ _ _ _ _ => (pe_op op_sub (pe_op op_mul pe_int (pv 3)) (pv 4)))))))), ?_⟩
    refine ⟨_, rfl, _, rfl, m, d, rfl, hm, hd, fun D H1 hD s1 h1 => ?_⟩
    refine ⟨_, rfl, _, _, rfl, rfl, .inr ⟨_, rfl, (by show 1 ≤ sizeLine; decide), fun l hl => ?_⟩⟩
    have s2 : Same H1 (upd H1 l (.lst [.int (if decide ((m : Int) = 1) = true then 1 else 0)])) := Same.new hl
    refine ⟨_, rfl, _, rfl, _, rfl, D, _, rfl, SqL.mk (s2 _ _ h1), fun p hp => ?_⟩
    rw [rowV_drop1]
    have s3 := Same.new (o := .lst (rowV d fun i => SM.rem m (i + 1))) hp
    refine ⟨D, p, _, _, rfl, SqL.mk (s3 _ _ (s2 _ _ h1)), SqL.mk upd_same, fun D2 hD2 => ?_⟩
    refine lc_tdY (K := K) (walk_zip (n := d) (xs := rowV (d + 1) (SM.rem m)) (ys := rowV d fun i => SM.rem m (i + 1)) (by rw [rowV_len, rowV_len]; omega)) (fun i => .int (lvs m (i + 1))) hD2 (by omega) (fun H' s => ⟨SqL.mk (s _ _ (s3 _ _ (s2 _ _ h1))), SqL.mk (s _ _ upd_same)⟩) ?_ ?_
    · rintro i x H' H'' k2 hi s4 ⟨xs, hxs⟩ ⟨t, u, v, rfl, ht, rfl, hu, hv⟩ kk
      obtain ⟨_, rfl⟩ := rowV_at hu
      obtain ⟨_, rfl⟩ := rowV_at hv
      refine ⟨t, _, rfl, SqT.mk upd_same, rfl, _, _, rfl, _, _, rfl, rfl, rfl, _, rfl, _, _, rfl, rfl, .inl ⟨by decide, by decide⟩, _, rfl, _, _, rfl, rfl, kk _ _ (Same.new ht) ?_⟩
      rw [lvs_succ hm]
      exact .int _
    · intro ys H4 s4 hy t
      rw [ints_of t] at hy
      refine ⟨l, D2, _, _, rfl, rfl, s4 _ _ (s3 _ _ upd_same), hy, ?_, fun q hq => ?_⟩
      · rw [rowV_len]
        have q : (100000 : Nat) ≤ sizeLine := by decide
        show 1 + d ≤ sizeLine
        omega
      · refine k q _ (((s1.trans s2).trans (s3.trans s4)).free hq) (((s1.trans s2).trans (s3.trans s4)).trans (Same.new hq)) ?_
        rw [upd_same, ← lvs_zero hm]
        congr 2
        refine List.ext_getElem? fun i => ?_
        cases i with
        | zero => rw [rowV_get (by omega)]; rfl
        | succ i =>
          show (rowV d fun i => lvs m (i + 1))[i]? = _
          by_cases h : i < d
          · rw [rowV_get h, rowV_get (by omega)]
          · rw [List.getElem?_eq_none (by rw [rowV_len]; omega), List.getElem?_eq_none (by rw [rowV_len]; omega)]
/-! ### leaves_at -/
abbrev sLeavesAt : Stmt := top 17
def NLeavesAt : List Str := ["many", "depth"]
theorem scLeavesAt : FnScope NLeavesAt ["many", "depth"] (defScope sLeavesAt) := ⟨rfl, rfl, rfl, by decide +kernel, rfl, by decide +kernel, by decide +kernel⟩
def spLeavesAt : Sp := fun vs H Q _ => ∃ m d : Nat, vs = [.int m, .int d] ∧ 0 < m ∧ d ≤ 1000 ∧ ∀ H', Same H H' → Q (.int (lvs m d)) H'
theorem ok_leaves_at {f f1 : Addr} {fd fd1 : FuncData} (F : FnP K "leaves_at" sLeavesAt f fd) (G_leaves_to : Def P w K mg base CX0 "leaves_to" 2 ["many", "depth"] spLeaves f1 fd1) : FnOk P w K mg base CX0 3 f fd ["many", "depth"] spLeavesAt := by
  refine F.ok scLeavesAt (fun vs H Q E h => ?_) (fun cdv A outer s H vs Q E hr h => ?_)
  · obtain ⟨_, _, rfl, _⟩ := h
    rfl
  · obtain ⟨m, d, rfl, hm, hd, k⟩ := h
    refine ⟨_, PSs.nox <| (pss_one (ps_ret (pe_ix (ixL K) (dcall G_leaves_to (hr.mono (by decide)) (pa_cons (pv 0) (pa_cons (pv 1) pa_nil))) (pv 1) (fun _ _ => rfl)))), ?_⟩
    refine ⟨_, rfl, _, rfl, m, d, rfl, hm, hd, fun D H1 hD s1 h1 => ?_⟩
    exact ⟨_, rfl, D, _, d, _, rfl, rfl, SqL.mk h1, atI_nat (rowV_get (by omega)), k _ s1⟩
/-! ### open_round -/
abbrev sOpenRound : Stmt := top 18
def NOpenRound : List Str := ["many", "known", "rest"]
theorem scOpenRound : FnScope NOpenRound ["many"] (defScope sOpenRound) := ⟨rfl, rfl, rfl, by decide +kernel, rfl, by decide +kernel, by decide +kernel⟩
def kn (m i : Nat) : List (Key × V) := (List.range i).map fun j => (Sum.inl (SM.rem m j), V.int j)
def roundOk (m : Nat) : Bool := ((List.range ((SM.rnd m).1 + (SM.rnd m).2)).all fun i => decide (valV (kn m i) (Sum.inl (SM.rem m i)) = none)) && decide (valV (kn m ((SM.rnd m).1 + (SM.rnd m).2)) (Sum.inl (SM.rem m ((SM.rnd m).1 + (SM.rnd m).2))) = some (.int (SM.rnd m).1))
theorem roundOk_all : ((List.range 13).all fun m => m == 0 || roundOk m) = true := by decide +kernel
theorem roundOk_of {m : Nat} (h1 : 1 ≤ m) (h2 : m ≤ 12) : (∀ i, i < (SM.rnd m).1 + (SM.rnd m).2 → valV (kn m i) (Sum.inl (SM.rem m i)) = none) ∧ valV (kn m ((SM.rnd m).1 + (SM.rnd m).2)) (Sum.inl (SM.rem m ((SM.rnd m).1 + (SM.rnd m).2))) = some (.int (SM.rnd m).1) := by
  have h := List.all_eq_true.mp roundOk_all m (List.mem_range.mpr (by omega))
  have e : (m == 0) = false := by simp; omega
  rw [e, Bool.false_or] at h
  unfold roundOk at h
  simp only [Bool.and_eq_true, List.all_eq_true, List.mem_range, decide_eq_true_eq] at h
  exact h
def spRound (K : PySem.W.Frag) : Sp := fun vs H Q _ => ∃ m : Nat, vs = [.int m] ∧ 1 ≤ m ∧ m ≤ 12 ∧ ∀ v H', Same H H' → TD K H' v (frD ((SM.rnd m).1, (SM.rnd m).2)) → Q v H'
theorem kn_succ (m i : Nat) : kn m (i + 1) = kn m i ++ [(Sum.inl (SM.rem m i), V.int i)] := by
  unfold kn
  rw [List.range_succ, List.map_append]
  rfl
theorem kn_len (m i : Nat) : (kn m i).length = i := by unfold kn; simp
theorem ok_round {f : Addr} {fd : FuncData} (F : FnP K "open_round" sOpenRound f fd) (T : Tx K mg aN aW) : FnOk P w K mg base CX0 1 f fd ["many"] (spRound K) := by
  refine F.ok scOpenRound (fun vs H Q E h => ?_) (fun cdv A outer s H vs Q E hr h => ?_)
  · obtain ⟨_, rfl, _⟩ := h
    rfl
  · obtain ⟨m, rfl, h1, h2, k⟩ := h
    have hu := hu_of hr
    obtain ⟨new, back⟩ := roundOk_of h1 h2
    refine ⟨_, PSs.nox <| (pss_cons (ps_par (i := 1) (j := 2) rfl scOpenRound.nd rfl rfl (by decide) rfl rfl (pa_cons pe_dnewK (pa_cons (pe_op op_mod pe_int (pv 0)) pa_nil)) (by rfl))
      (pss_cons (ps_while PassesOwn.never (pt_cmp (pc_dnotin hu (pv 2) (pv 1))) (pss_cons (ps_dput hu (pv 1) (pv 2) (pe_callB call_lenD (by rfl) T.len_ PySem.boot_len (pa_cons (pv 1) pa_nil)) rfl)
      (pss_one (ps_set (i := 2) scOpenRound.nd rfl (lc_ rfl) (pe_op op_mod (pe_op op_mul pe_int (pv 2)) (pv 0))))))
      (pss_one (ps_ret (pe_tup (pa_cons (pe_dget hu (pv 1) (pv 2) (fun _ _ => rfl)) (pa_cons (pe_op op_sub (pe_callB call_lenD (by rfl) T.len_ PySem.boot_len (pa_cons (pv 1) pa_nil)) (pe_dget hu (pv 1) (pv 2) (fun _ _ => rfl))) pa_nil))))))), ?_⟩
    refine fun d hd => ⟨_, rfl, _, _, rfl, rfl, (by omega), _, _, rfl, ?_⟩
    have e0 : V.int (1 % (m : Int)) = V.int (SM.rem m 0) := by
      unfold SM.rem
      push_cast
      rfl
    refine ⟨fun μ σ H' => ∃ i, i ≤ (SM.rnd m).1 + (SM.rnd m).2 ∧ μ = (SM.rnd m).1 + (SM.rnd m).2 - i ∧ σ = [some (.int m), some (.ref d), some (.int (SM.rem m i))] ∧ Same H H' ∧ H' d = some (.dK (kn m i)), ⟨_, 0, Nat.zero_le _, rfl, ?_, Same.new hd, upd_same⟩, ?_⟩
    · rw [← e0]; rfl
    · rintro μ σ H' ⟨i, hi, rfl, rfl, s1, hk⟩
      refine ⟨_, rfl, _, rfl, d, _, rfl, DGet.k (k := Sum.inl (SM.rem m i)) hk, _, rfl, ?_⟩
      by_cases q : i < (SM.rnd m).1 + (SM.rnd m).2
      · rw [new i q]
        refine iteB rfl ⟨fun σ' H'' => ∃ m', m' < (SM.rnd m).1 + (SM.rnd m).2 - i ∧ ∃ i, i ≤ (SM.rnd m).1 + (SM.rnd m).2 ∧ m' = (SM.rnd m).1 + (SM.rnd m).2 - i ∧ σ' = [some (.int m), some (.ref d), some (.int (SM.rem m i))] ∧ Same H H'' ∧ H'' d = some (.dK (kn m i)), fun _ _ h => h, ?_⟩
        refine ⟨_, rfl, d, _, rfl, hk, _, rfl, _, rfl, d, _, rfl, DPut.k (k := Sum.inl (SM.rem m i)) hk ?_, ?_⟩
        · rw [kn_len]
          have : (SM.rnd m).1 + (SM.rnd m).2 ≤ 20 := by
            have : ∀ m, m ≤ 12 → (SM.rnd m).1 + (SM.rnd m).2 ≤ 20 := by decide
            exact this m h2
          have q : (100000 : Nat) ≤ sizeLine := by decide
          omega
        · refine ⟨_, rfl, _, _, rfl, rfl, .inl ⟨by decide, by decide⟩, _, rfl, _, _, rfl, rfl, (by omega), _, (by omega : (SM.rnd m).1 + (SM.rnd m).2 - (i + 1) < _), i + 1, q, rfl, ?_, Same.put s1 hd, ?_⟩
          · rw [SM.rem_succ]; rfl
          · rw [upd_same, kn_succ, putK_new _ (new i q), kn_len]
      · have hi' : i = (SM.rnd m).1 + (SM.rnd m).2 := by omega
        rw [hi'] at hk ⊢
        rw [back]
        refine iteBF rfl ?_
        have g : DGet H' d (kV (Sum.inl (SM.rem m ((SM.rnd m).1 + (SM.rnd m).2)))) (some (.int (SM.rnd m).1)) := by
          rw [← back]
          exact DGet.k hk
        refine ⟨_, rfl, _, rfl, d, _, rfl, g, _, rfl, d, _, rfl, hk, _, rfl, _, rfl, d, _, rfl, g, _, _, rfl, rfl, (by show 2 ≤ sizeLine; decide), fun t ht => k _ _ (s1.trans (Same.new ht)) (TD.fr_mk (SqT.mk ?_))⟩
        rw [upd_same, kn_len]
        have e : ((((SM.rnd m).1 + (SM.rnd m).2 : Nat) : Int) - ((SM.rnd m).1 : Int)) = (SM.rnd m).2 := by omega
        show some (HO.tup [V.int ((SM.rnd m).1 : Int), V.int ((((SM.rnd m).1 + (SM.rnd m).2 : Nat) : Int) - ((SM.rnd m).1 : Int))]) = _
        rw [e]
end
end Ser
end
section
set_option maxRecDepth 100000
set_option maxHeartbeats 4000000
namespace Ser
open PySem L2
section
variable {P : Program} {w : World} {K : PySem.W.Frag} {mg : Str → Option Value} {base : Heap} {aN aW : Addr}
/-! ### by_twos -/
abbrev sByTwos : Stmt := top 19
def NByTwos : List Str := ["numbers", "found", "number"]
theorem scByTwos : FnScope NByTwos ["numbers"] (defScope sByTwos) := ⟨rfl, rfl, rfl, by decide +kernel, rfl, by decide +kernel, by decide +kernel⟩
def spTwos (K : PySem.W.Frag) : Sp := fun vs H Q _ => ∃ (a : Addr) (ns : List Int), vs = [.ref a] ∧ SqL K H a (ns.map V.int) ∧ Q (.int (SM.byTwos ns)) H
theorem int_at {ns : List Int} {i : Nat} {v : V} (h : (ns.map V.int)[i]? = some v) : ∃ n, ns[i]? = some n ∧ v = .int n := by
  rw [List.getElem?_map] at h
  cases e : ns[i]? with
  | none => rw [e] at h; cases h
  | some q => rw [e] at h; exact ⟨q, rfl, (Option.some.inj h).symm⟩
theorem take_succ' {α : Type} {l : List α} {i : Nat} {x : α} (h : l[i]? = some x) : l.take (i + 1) = l.take i ++ [x] := by
  rw [List.take_succ, h]; rfl
theorem ok_twos {f : Addr} {fd : FuncData} (F : FnP K "by_twos" sByTwos f fd) : FnOk P w K mg base CX0 1 f fd ["numbers"] (spTwos K) := by
  refine F.ok scByTwos (fun vs H Q E h => ?_) (fun cdv A outer s H vs Q E hr h => ?_)
  · obtain ⟨_, _, rfl, _⟩ := h
    rfl
  · obtain ⟨a, ns, rfl, ha, k⟩ := h
    refine ⟨_, PSs.nox <| (pss_cons (ps_set (i := 1) scByTwos.nd rfl (lc_ rfl) pe_int)
      (pss_cons (ps_for PassesOwn.never rfl (piL K (pv 0)) (pg_name (i := 2) scByTwos.nd rfl (lc_ rfl)) (pss_one (ps_set (i := 1) scByTwos.nd rfl (lc_ rfl) (pe_op op_add (pe_op op_mul pe_int (pv 1)) (pv 2)))))
      (pss_one (ps_ret (pv 1))))), ?_⟩
    refine ⟨_, rfl, a, rfl, ⟨_, ha⟩, for_list (K := K) (a := a) (xs := ns.map V.int) (fun i σ H' => ∃ v, σ = [some (.ref a), some (.int (SM.byTwos (ns.take i))), v] ∧ H' = H) ⟨none, rfl, rfl⟩ (fun i σ H' _ ⟨v, _, e⟩ => by rw [e]; exact ha) ?_ ?_⟩
    · rintro i x σ H' hx ⟨v, rfl, rfl⟩
      obtain ⟨n, hn, rfl⟩ := int_at hx
      refine ⟨_, rfl, _, _, rfl, rfl, .inl ⟨by decide, by decide⟩, _, rfl, _, _, rfl, rfl, some (.int n), ?_, rfl⟩
      rw [take_succ' hn]
      unfold SM.byTwos
      rw [List.foldl_append]
      rfl
    · rintro σ H' ⟨v, rfl, rfl⟩
      refine ⟨_, rfl, ?_⟩
      rw [List.length_map, List.take_length]
      exact k
/-! ### mean_of -/
abbrev sMeanOf : Stmt := top 20
def NMeanOf : List Str := ["places", "first", "count", "ahead", "around", "less"]
theorem scMeanOf : FnScope NMeanOf ["places", "first", "count"] (defScope sMeanOf) := ⟨rfl, rfl, rfl, by decide +kernel, rfl, by decide +kernel, by decide +kernel⟩
def spMeanOf (K : PySem.W.Frag) : Sp := fun vs H Q _ => ∃ (a : Addr) (ns : List Int) (f c : Nat), vs = [.ref a, .int f, .int c] ∧ SqL K H a (ns.map V.int) ∧ f ≤ ns.length ∧ f ≤ 20 ∧ 1 ≤ c ∧ c ≤ 20 ∧ ∀ v H', Same H H' → TD K H' v (frD (SM.meanOf ns f c)) → Q v H'
theorem pow_bound {c : Nat} (h : c ≤ 20) : (2 : Int) ^ c ≤ 1048576 := by
  have : (2 : Nat) ^ c ≤ 2 ^ 20 := Nat.pow_le_pow_right (by decide) h
  have e : (2 : Nat) ^ 20 = 1048576 := by decide
  have : ((2 ^ c : Nat) : Int) ≤ 1048576 := by omega
  simpa using this
theorem ok_mean_of {f f1 f2 f3 : Addr} {fd fd1 fd2 fd3 : FuncData} (F : FnP K "mean_of" sMeanOf f fd) (G_by_twos : Def P w K mg base CX0 "by_twos" 1 ["numbers"] (spTwos K) f1 fd1) (G_power : Def P w K mg base CX0 "power" 1 ["base", "exponent"] spPower f2 fd2) (G_fraction : Def P w K mg base CX0 "fraction" 2 ["top", "bottom"] (spFraction K) f3 fd3) :
    FnOk P w K mg base CX0 3 f fd ["places", "first", "count"] (spMeanOf K) := by
  refine F.ok scMeanOf (fun vs H Q E h => ?_) (fun cdv A outer s H vs Q E hr h => ?_)
  · obtain ⟨_, _, _, _, rfl, _⟩ := h
    rfl
  · obtain ⟨a, ns, ff, c, rfl, ha, hf, hf20, hc1, hc20, k⟩ := h
    refine ⟨_, PSs.nox <| (pss_cons (ps_par (i := 3) (j := 4) rfl scMeanOf.nd rfl rfl (by decide) rfl rfl (pa_cons (dcall G_by_twos (hr.mono (by decide)) (pa_cons (pe_slice (slL K) (pv 0) po_none (po_some (pv 1))) pa_nil)) (pa_cons (dcall G_by_twos (hr.mono (by decide)) (pa_cons (pe_slice (slL K) (pv 0) (po_some (pv 1)) po_none) pa_nil)) pa_nil)) (by rfl))
      (pss_cons (ps_set (i := 5) scMeanOf.nd rfl (lc_ rfl) (pe_op op_sub (dcall G_power (hr.mono (by decide)) (pa_cons pe_int (pa_cons (pv 2) pa_nil))) pe_int))
      (pss_one (ps_ret (dcall G_fraction (hr.mono (by decide)) (pa_cons (pe_op op_mul pe_int (pe_op op_add (pe_op op_mul (pv 3) (pv 5)) (pv 4))) (pa_cons (pe_op op_mul (dcall G_power (hr.mono (by decide)) (pa_cons pe_int (pa_cons (pv 1) pa_nil))) (pv 5)) pa_nil))))))), ?_⟩
    refine ⟨_, rfl, _, rfl, _, rfl, a, _, rfl, ha, fun p hp => ?_⟩
    have s1 : Same H (upd H p (.lst (cutV (ns.map V.int) none (some (ff : Int))))) := Same.new hp
    have e1 : cutV (ns.map V.int) none (some (ff : Int)) = (ns.take ff).map V.int := by
      rw [cut_take (by rw [List.length_map]; exact hf), List.map_take]
    rw [e1] at s1 ⊢
    refine ⟨p, ns.take ff, rfl, SqL.mk upd_same, ?_⟩
    refine ⟨_, rfl, _, rfl, _, rfl, a, _, rfl, s1.seq ha, fun q hq => ?_⟩
    have s2 : Same _ (upd (upd H p (.lst ((ns.take ff).map V.int))) q (.lst (cutV (ns.map V.int) (some (ff : Int)) none))) := Same.new hq
    have e2 : cutV (ns.map V.int) (some (ff : Int)) none = (ns.drop ff).map V.int := by
      rw [cut_drop (by rw [List.length_map]; exact hf), List.map_drop]
    rw [e2] at s2 ⊢
    refine ⟨q, ns.drop ff, rfl, SqL.mk upd_same, _, _, rfl, ?_⟩
    have b1 := pow_bound hc20
    have b2 := SM.two_pow_gt c
    have b3 := pow_bound hf20
    have b4 := SM.two_pow_gt ff
    refine ⟨_, rfl, c, rfl, by omega, _, _, rfl, rfl, ?_⟩
    refine ⟨_, rfl, _, rfl, _, _, rfl, rfl, .inr ⟨by omega, by omega⟩, _, rfl, _, _, rfl, rfl, _, _, rfl, rfl, .inl ⟨by decide, by decide⟩, ?_⟩
    refine ⟨_, rfl, ff, rfl, by omega, _, rfl, _, _, rfl, rfl, .inr ⟨by omega, by omega⟩, ?_⟩
    refine ⟨_, _, rfl, Int.mul_pos (by omega) (by omega), ?_, fun v H' s3 t => k v H' ((s1.trans s2).trans s3) t⟩
    have z1 : Sz 30 ((2 : Int) ^ ff) := by unfold Sz; omega
    have z2 : Sz 30 ((2 : Int) ^ c - 1) := by unfold Sz; omega
    exact (z1.mul z2).mono (by decide)
/-! ### mean -/
abbrev sMean : Stmt := top 21
def NMean : List Str := ["many", "first", "count"]
theorem scMean : FnScope NMean ["many"] (defScope sMean) := ⟨rfl, rfl, rfl, by decide +kernel, rfl, by decide +kernel, by decide +kernel⟩
def spMean (K : PySem.W.Frag) : Sp := fun vs H Q _ => ∃ m : Nat, vs = [.int m] ∧ 1 ≤ m ∧ m ≤ 12 ∧ ∀ v H', Same H H' → TD K H' v (frD (SM.bst m)) → Q v H'
theorem rnd_small {m : Nat} (h : m ≤ 12) : (SM.rnd m).1 ≤ 20 ∧ (SM.rnd m).2 ≤ 20 := by
  have : ∀ m, m ≤ 12 → (SM.rnd m).1 ≤ 20 ∧ (SM.rnd m).2 ≤ 20 := by decide
  exact this m h
theorem ok_mean {f f1 f2 f3 : Addr} {fd fd1 fd2 fd3 : FuncData} (F : FnP K "mean" sMean f fd) (G_open_round : Def P w K mg base CX0 "open_round" 1 ["many"] (spRound K) f1 fd1) (G_mean_of : Def P w K mg base CX0 "mean_of" 3 ["places", "first", "count"] (spMeanOf K) f2 fd2) (G_opens_to : Def P w K mg base CX0 "opens_to" 1 ["many", "depth"] spOpens f3 fd3) :
    FnOk P w K mg base CX0 4 f fd ["many"] (spMean K) := by
  refine F.ok scMean (fun vs H Q E h => ?_) (fun cdv A outer s H vs Q E hr h => ?_)
  · obtain ⟨_, rfl, _⟩ := h
    rfl
  · obtain ⟨m, rfl, h1, h2, k⟩ := h
    refine ⟨_, PSs.nox <| (pss_cons (ps_asg (dcall G_open_round (hr.mono (by decide)) (pa_cons (pv 0) pa_nil)) (gTup' K (pgs_cons (pg_name (i := 1) scMean.nd rfl (lc_ rfl)) (pgs_cons (pg_name (i := 2) scMean.nd rfl (lc_ rfl)) pgs_nil))))
      (pss_one (ps_ret (dcall G_mean_of (hr.mono (by decide)) (pa_cons (dcall G_opens_to (hr.mono (by decide)) (pa_cons (pv 0) (pa_cons (pe_op op_sub (pe_op op_add (pv 1) (pv 2)) pe_int) pa_nil))) (pa_cons (pv 1) (pa_cons (pv 2) pa_nil))))))), ?_⟩
    obtain ⟨r1, r2⟩ := rnd_small h2
    have r3 := (SM.uOk_parts h1 h2).1
    refine ⟨_, rfl, m, rfl, h1, h2, fun v H1 s1 t1 => ?_⟩
    obtain ⟨b, rfl, hb⟩ := t1.fr
    refine ⟨b, _, rfl, hb, rfl, _, _, rfl, _, _, rfl, rfl, ?_⟩
    have e0 : ((SM.rnd m).1 : Int) + ((SM.rnd m).2 : Int) - 1 = (((SM.rnd m).1 + (SM.rnd m).2 - 1 : Nat) : Int) := by omega
    refine ⟨_, rfl, _, rfl, _, rfl, _, _, rfl, rfl, _, _, rfl, rfl, m, (SM.rnd m).1 + (SM.rnd m).2 - 1, ?_, by omega, by omega, fun D H2 hD s2 h2' => ?_⟩
    · show [V.int m, V.int (((SM.rnd m).1 : Int) + ((SM.rnd m).2 : Int) - 1)] = _
      rw [e0]
    · rw [show (SM.rnd m).1 + (SM.rnd m).2 - 1 + 1 = (SM.rnd m).1 + (SM.rnd m).2 by omega] at h2'
      have e1 : rowV ((SM.rnd m).1 + (SM.rnd m).2) (SM.rem m) = (SM.opens m ((SM.rnd m).1 + (SM.rnd m).2)).map V.int := by
        unfold rowV SM.opens
        rw [List.map_map]
        rfl
      rw [e1] at h2'
      refine ⟨_, rfl, _, rfl, D, _, (SM.rnd m).1, (SM.rnd m).2, rfl, SqL.mk h2', ?_, by omega, by omega, by omega, fun v H3 s3 t => k v H3 ((s1.trans s2).trans s3) t⟩
      unfold SM.opens
      simp
end
end Ser
end
section
set_option maxRecDepth 100000
set_option maxHeartbeats 4000000
/-! walks that give new pairs: enumerate of tuples and texts, zip of a text and a tuple -/
namespace Ser
open PySem L2
/-- n new pairs while G stands; the i-th is of f i and g i -/
def ItPr (n : Nat) (G : Hp → Prop) (f g : Nat → Option V) : It :=
  ⟨fun i H => G H ∧ i < n, fun i H v H' => ∃ T x y, v = .ref T ∧ H T = none ∧ H' = upd H T (.tup [x, y]) ∧ f i = some x ∧ g i = some y, fun i H => G H ∧ i = n⟩
theorem walk_pr {n : Nat} {G : Hp → Prop} {f g : Nat → Option V} : Walk (ItPr n G f g) n G (YPair f g) :=
  ⟨fun i H hi h => ⟨h, hi⟩, fun H h => ⟨h, rfl⟩, fun i H x H' hi h y => y⟩
theorem turnPr {P : Program} {w : World} {K : PySem.W.Frag} {elts : List Expr} {kk : Nat} {tpos : Pos} {n : Nat} {G : Hp → Prop} {f g : Nat → Option V} {it : Addr} {fp wr : List Addr} {tn : Nat → Heap → Prop} (hsub : ∀ b ∈ wr, b ∈ fp)
    (mem : it ∈ fp) (obj : ∀ i h, tn i h → ∀ b ∈ fp, ∃ o, h.get? b = some o ∧ ∀ v, o.data ≠ .cell v) (keep : ∀ i h h', tn i h → (∀ b ∈ fp, ∀ o, h.get? b = some o → h'.get? b = some o) → tn i h')
    (self : ∀ (A : Around) (i : Nat) (s : Shared) (Q : Value → Shared → Prop) (E : Value → Shared → Prop), tn i s.heap → Q (.ref it) s → wpAny (model P w) A (pyIter (.ref it)) Q E s)
    (src : ∀ (X : Cx), X.prog = P → X.w = w → X.K = K → X.calm = true → ∀ (i : Nat) (pins : List (Addr × Obj)) (s : Shared) (σ : St) (H : Hp), Inv X pins σ H s → (∀ b ∈ fp, FpOk X pins H b) → tn i s.heap → G H →
      ∃ (fpW : List Addr) (Pr : Nat → Array Value → Prop) (Sx : Nat → Heap → Prop) (Mid : Nat → Addr → Heap → Prop), WalksT P w X.A it fpW wr n Pr Sx Mid ∧ Sx i s.heap ∧ (∀ h, Sx (i + 1) h → tn (i + 1) h) ∧
        ∀ vals, i < n → Pr i vals → ∃ x y u1 u2, vals = #[u1, u2] ∧ RelV x u1 ∧ RelV y u2 ∧ f i = some x ∧ g i = some y) :
    Turn P w K (.Tuple elts kk tpos) (ItPr n G f g) fp it tn where
  mem := mem
  obj := obj
  keep := keep
  self := self
  item := by
    intro X hP hw hK hc i pins s σ H E I hf st ⟨hg, hi⟩
    obtain ⟨fpW, Pr, Sx, Mid, W, hS, hT, hv⟩ := src X hP hw hK hc i pins s σ H I hf st hg
    refine W.item i s _ _ hi hS fun T vals h' tk hp hsz hT0 hm hk => ?_
    obtain ⟨x, y, u1, u2, rfl, r1, r2, fx, gy⟩ := hv vals hi hp
    refine ⟨_, rfl, W.go elts kk tpos i T { s with heap := h', toks := tk } _ _ hm fun h'' hS'' hk' => ?_⟩
    obtain ⟨oT, ho, q1, q2, q3⟩ := hT0
    have ho2 := hk' T _ (W.apart i T _ hm) ho
    have new : ObjOk X.prog X.w (upd H T (.tup [x, y])) h'' T (.tup [x, y]) := ⟨by show 2 ≤ sizeLine; decide, [u1, u2], .cons r1 (.cons r2 .nil), ⟨oT, ho2, q1, q2, q3⟩⟩
    have fresh : H T = none := I.hok.fresh hsz
    refine ⟨.ref T, _, I.turnedNew (t' := tk) (ch := wr) (fun b o hb e => hk' b o hb (hk b o hb e)) (fun b hb => hf b (hsub b hb)) hsz new, rfl, ⟨T, x, y, rfl, fresh, rfl, fx, gy⟩, hT _ hS'', fun b hb => ?_⟩
    have hlt : b < s.heap.objs.size := by
      obtain ⟨o, e, _⟩ := obj i _ st b hb
      exact Heap.lt_size e
    rw [upd_ne (Nat.ne_of_lt (Nat.lt_of_lt_of_le hlt hsz))]
    exact (hf b hb).1
  done := by
    intro X hP hw hK hc i pins s σ H E I hf st ⟨hg, hi⟩
    obtain ⟨fpW, Pr, Sx, Mid, W, hS, hT, hv⟩ := src X hP hw hK hc i pins s σ H I hf st hg
    subst hi
    exact W.done s _ _ hS fun h' tk hk => ⟨rfl, I.turnedL (t' := tk) (ch := wr) hk fun b hb => hf b (hsub b hb)⟩
/-! ### enumerate(tuple) -/
def nN (i : Nat) : Option V := some (.int (i : Nat))
def iEnumT (K : PySem.W.Frag) (ta : TA) : TI := fun σ H R => ta σ H fun vs H1 => ∃ a xs, vs = [.ref a] ∧ SqT K H1 a xs ∧ R (ItPr xs.length (fun H => SqT K H a xs) nN (fun i => xs[i]?)) H1
theorem turn_enumT {P : Program} {w : World} {K : PySem.W.Frag} {elts : List Expr} {kk : Nat} {tpos : Pos} {a e it : Addr} {xs : List V} :
    Turn P w K (.Tuple elts kk tpos) (ItPr xs.length (fun H => SqT K H a xs) nN (fun i => xs[i]?)) [e, it] e (fun i h => (∃ old, IsEnum h e it (0 + (i : Int)) old) ∧ h.IsTupleIter it a i ∧ e ≠ it) := by
  refine turnPr (wr := [e, it]) (fun b hb => hb) (by simp) (fun i h st b hb => ?_) (fun i h h' st k => ?_) (fun A i s Q E st h => let ⟨⟨_, he⟩, _⟩ := st; wpAny_pyIter_enum he h) ?_
  · obtain ⟨⟨old, he⟩, ⟨o, ho, hc, hd⟩, _⟩ := st
    have e' : b = e ∨ b = it := by simpa using hb
    rcases e' with z | z
    · rw [z]; exact ⟨_, he, fun v q => nomatch q⟩
    · rw [z]; exact ⟨o, ho, fun v q => by rw [hd] at q; cases q⟩
  · obtain ⟨⟨old, he⟩, hi, hne⟩ := st
    exact ⟨⟨old, k e (by simp) _ he⟩, hi.at fun o q => k it (by simp) o q, hne⟩
  · intro X hP hw hK hc i pins s σ H I hf st hg
    subst hP hw hK
    obtain ⟨⟨old, he⟩, hit, hne⟩ := st
    obtain ⟨its, rv, p, hz⟩ := I.tuple hg
    have hl := rv.length
    have n1 : a ≠ it := fun z => by
      obtain ⟨o, ho, hc, _⟩ := hit
      obtain ⟨o2, ho2, hc2, _⟩ := p
      rw [z, ho] at ho2
      cases ho2
      rw [hc] at hc2
      exact absurd hc2 (by simp)
    have n2 : a ≠ e := fun z => by
      obtain ⟨o2, ho2, hc2, _⟩ := p
      rw [z, he] at ho2
      cases ho2
      exact absurd hc2 (by simp)
    have D := Draws.tuple (prog := X.prog) (w := X.w) (A := X.A.in1) (I.ok.hd hc) it a n1 its.toArray
    have W := WalksT.enumFrom 0 D e hne (by simp; exact ⟨hne, n2.symm⟩) (by simp)
    have hn : its.toArray.size = xs.length := by simp; omega
    rw [hn] at W
    refine ⟨_, _, _, _, W, ⟨⟨old, he⟩, hit, p⟩, fun h st => ⟨st.1, st.2.1, hne⟩, ?_⟩
    rintro vals hi ⟨t, u, hu, rfl⟩
    obtain ⟨x, hx⟩ : ∃ x, xs[i]? = some x := ⟨xs[i], by simp [hi]⟩
    obtain ⟨u', hu', ru⟩ := rv.get hx
    have eu : u' = u := by
      have q : its[i]? = some u := by simpa using hu
      rw [hu'] at q
      exact Option.some.inj q
    subst eu
    refine ⟨.int (i : Nat), x, _, u', rfl, ⟨t, ?_⟩, ru, rfl, hx⟩
    rw [Int.zero_add]
theorem meets_enum1 {v : Value} {o : Obj} {Hb : Heap → Prop} (B : Begins v o Hb) :
    Meets (Builtin.«enumerate.__new__» ⟨[.type "enumerate", v], []⟩) (fun _ R s => Hb s.heap ∧
      R (.ok (.ret (.ref (s.heap.push o).objs.size))) { s with heap := (s.heap.push o).push { cls := .type "enumerate", data := .fields #[.none, .bool false, .ref s.heap.objs.size, rawInt 0, .none, .none] } }) :=
  .of_wp fun prog w A R s h => by
    obtain ⟨hp, g, d, tk, os⟩ := s
    obtain ⟨h1, h⟩ := h
    have hsub := sub_enumerate
    have q1 : ∀ {A' : Around} {E : Value → Shared → Prop} {Q : Value → Shared → Prop}, Q (.ref hp.objs.size) ⟨hp.push o, g, d, tk, os⟩ → wpAny (model prog w) A' (pyIter v) Q E ⟨hp, g, d, tk, os⟩ := fun q => B.iter prog w _ _ ⟨hp, g, d, tk, os⟩ _ h1 q
    wp_walk using q1
    refine wpAny_stack_any fun st => wpAny_pure ?_
    split
    · rename_i c _ _ _ _ _
      cases (c == Value.type "enumerate") <;> (wp_walk using q1; exact ⟨_, rfl, h⟩)
    · wp_walk using q1
      exact ⟨_, rfl, h⟩
theorem call_enum1 {prog : Program} {w : World} {A : Around} {E : Value → Shared → Prop} {s : Shared} {v : Value} {o : Obj} {Hb : Heap → Prop} {Q : Value → Shared → Prop} (B : Begins v o Hb) (h1 : Hb s.heap)
    (h : ∀ h', IsEnum h' (s.heap.objs.size + 1) s.heap.objs.size 0 .none → h'.get? s.heap.objs.size = some o → (∀ b o, s.heap.get? b = some o → h'.get? b = some o) → Q (.ref (s.heap.objs.size + 1)) { s with heap := h' }) :
    wpAny (model prog w) A (call (.type "enumerate") [v]) Q E s := by
  refine callType_new F.called_enumerate (by decide) (F.typeCall_enumerate_1 _) (F.newCall_enumerate_1 _) (fun obj => F.args_object_init_2 obj _) F.entry_enumerate_new (meets_enum1 B) ⟨h1, ?_⟩
  have hz : (s.heap.push o).objs.size = s.heap.objs.size + 1 := Heap.size_push ..
  show _ ∧ _
  rw [hz]
  have he : IsEnum ((s.heap.push o).push { cls := .type "enumerate", data := .fields #[.none, .bool false, .ref s.heap.objs.size, rawInt 0, .none, .none] }) (s.heap.objs.size + 1) s.heap.objs.size 0 .none := by
    have := Heap.get?_push_size (s.heap.push o) (o := { cls := .type "enumerate", data := .fields #[.none, .bool false, .ref s.heap.objs.size, rawInt 0, .none, .none] }) rfl
    rw [hz] at this; exact this
  exact ⟨⟨_, he, rfl⟩, h _ he (Heap.get?_push_of_some _ (Heap.get?_push_size _ B.free)) fun b o x => Heap.get?_push_of_some _ (Heap.get?_push_of_some _ x)⟩
theorem pi_enumT {X : Cx} {e : Expr} {ta : TA} {p pos tpos : Pos} {elts : List Expr} {kk : Nat} (hg : Gl X "enumerate") (hm : X.mg "enumerate" = none) (ha : PA X [e] ta) (hs : starEach [e] X.env = [(false, eval e X.env)] := by rfl) :
    PI X (.Tuple elts kk tpos) (.Call (.Name "enumerate" p) [e] [] pos) (iEnumT X.K ta) := by
  refine ⟨fun pins s σ H R I h => ?_⟩
  refine PyProof.Rows.Call_ (ld_blt I hg hm PyProof.Rows.boot_enumerate (PyProof.Rows.callWith_type1 (thn (ha.run pos pins s σ H _ I h) fun us s1 ⟨vs, H1, I1, r1, q1⟩ => ?_) hs rfl))
  obtain ⟨a, xs, ex, hq, q⟩ := q1
  subst ex
  cases r1 with
  | cons r rr =>
    cases rr
    cases r
    obtain ⟨its, rv, p', hz⟩ := I1.tuple hq
    refine call_enum1 (begins_tuple a its.toArray) p' fun h' he hit hk => wpAny_pyIter_enum he ?_
    have I2 : Inv X pins σ H1 { s1 with heap := h' } := I1.kept (t' := s1.toks) hk
    refine ⟨s1.heap.objs.size + 1, [s1.heap.objs.size + 1, s1.heap.objs.size], _, _, H1, rfl, I2, turn_enumT (a := a) (xs := xs) (e := s1.heap.objs.size + 1) (it := s1.heap.objs.size), ⟨⟨.none, he⟩, ⟨_, hit, rfl, rfl⟩, Nat.succ_ne_self _⟩, fun b hb => ?_, q⟩
    refine (fun l : s1.heap.objs.size ≤ b => I1.fpOk l (I1.hok.fresh l)) ?_
    exact (List.mem_cons.mp hb).elim (fun z => z ▸ Nat.le_succ _) fun z => List.mem_singleton.mp z ▸ Nat.le_refl _
/-! ### enumerate(text) -/
def sign (x : Str) (i : Nat) : Option V := x.cps[i]?.map fun c => V.str ⟨#[c]⟩
def iEnumS (ta : TA) : TI := fun σ H R => ta σ H fun vs H1 => ∃ x, vs = [.str x] ∧ R (ItPr x.cps.size (fun _ => True) nN (sign x)) H1
theorem turn_enumS {P : Program} {w : World} {K : PySem.W.Frag} {elts : List Expr} {kk : Nat} {tpos : Pos} {e it : Addr} {x : Str} {t : Tok} :
    Turn P w K (.Tuple elts kk tpos) (ItPr x.cps.size (fun _ => True) nN (sign x)) [e, it] e (fun i h => (∃ old, IsEnum h e it (0 + (i : Int)) old) ∧ h.IsStrIter it (strIterType x) x t i ∧ e ≠ it) := by
  refine turnPr (wr := [e, it]) (fun b hb => hb) (by simp) (fun i h st b hb => ?_) (fun i h h' st k => ?_) (fun A i s Q E st h => let ⟨⟨_, he⟩, _⟩ := st; wpAny_pyIter_enum he h) ?_
  · obtain ⟨⟨old, he⟩, ⟨o, ho, hc, hd⟩, _⟩ := st
    have e' : b = e ∨ b = it := by simpa using hb
    rcases e' with z | z
    · rw [z]; exact ⟨_, he, fun v q => nomatch q⟩
    · rw [z]; exact ⟨o, ho, fun v q => by rw [hd] at q; cases q⟩
  · obtain ⟨⟨old, he⟩, ⟨o, ho, r⟩, hne⟩ := st
    exact ⟨⟨old, k e (by simp) _ he⟩, ⟨o, k it (by simp) o ho, r⟩, hne⟩
  · intro X hP hw hK hc i pins s σ H I hf st hg
    subst hP hw hK
    obtain ⟨⟨old, he⟩, hit, hne⟩ := st
    have D := Draws.text (prog := X.prog) (w := X.w) (A := X.A.in1) (I.ok.hd hc) it x t
    have W := WalksT.enumFrom 0 D e hne (by simp; exact hne) (by simp)
    refine ⟨_, _, _, _, W, ⟨⟨old, he⟩, hit⟩, fun h st => ⟨st.1, st.2, hne⟩, ?_⟩
    rintro vals hi ⟨t', u, ⟨c, u', hc, rfl⟩, rfl⟩
    refine ⟨.int (i : Nat), .str ⟨#[c]⟩, _, _, rfl, ⟨t', ?_⟩, ⟨u', rfl⟩, rfl, ?_⟩
    · rw [Int.zero_add]
    · unfold sign
      rw [hc]
      rfl
theorem piEnumS {X : Cx} {e : Expr} {ta : TA} {p pos tpos : Pos} {elts : List Expr} {kk : Nat} (hg : Gl X "enumerate") (hm : X.mg "enumerate" = none) (ha : PA X [e] ta) (hs : starEach [e] X.env = [(false, eval e X.env)] := by rfl) :
    PI X (.Tuple elts kk tpos) (.Call (.Name "enumerate" p) [e] [] pos) (iEnumS ta) := by
  refine ⟨fun pins s σ H R I h => ?_⟩
  refine PyProof.Rows.Call_ (ld_blt I hg hm PyProof.Rows.boot_enumerate (PyProof.Rows.callWith_type1 (thn (ha.run pos pins s σ H _ I h) fun us s1 ⟨vs, H1, I1, r1, q1⟩ => ?_) hs rfl))
  obtain ⟨x, ex, q⟩ := q1
  subst ex
  cases r1 with
  | cons r rr =>
    cases rr
    obtain ⟨t, rfl⟩ := r
    refine call_enum1 (begins_text x t) trivial fun h' he hit hk => wpAny_pyIter_enum he ?_
    have I2 : Inv X pins σ H1 { s1 with heap := h' } := I1.kept (t' := s1.toks) hk
    refine ⟨s1.heap.objs.size + 1, [s1.heap.objs.size + 1, s1.heap.objs.size], _, _, H1, rfl, I2, turn_enumS (x := x) (t := t) (e := s1.heap.objs.size + 1) (it := s1.heap.objs.size), ⟨⟨.none, he⟩, ⟨_, hit, rfl, rfl⟩, Nat.succ_ne_self _⟩, fun b hb => ?_, q⟩
    refine (fun l : s1.heap.objs.size ≤ b => I1.fpOk l (I1.hok.fresh l)) ?_
    exact (List.mem_cons.mp hb).elim (fun z => z ▸ Nat.le_succ _) fun z => List.mem_singleton.mp z ▸ Nat.le_refl _
/-! ### zip(text, tuple) -/
def iZipST (K : PySem.W.Frag) (ta : TA) : TI := fun σ H R => ta σ H fun vs H1 => ∃ x b ys, vs = [.str x, .ref b] ∧ SqT K H1 b ys ∧ R (ItPr (min x.cps.size ys.length) (fun H => SqT K H b ys) (sign x) (fun i => ys[i]?)) H1
theorem turn_zipST {P : Program} {w : World} {K : PySem.W.Frag} {elts : List Expr} {kk : Nat} {tpos : Pos} {N b : Addr} {x : Str} {t : Tok} {ys : List V} (hb : b < N) :
    Turn P w K (.Tuple elts kk tpos) (ItPr (min x.cps.size ys.length) (fun H => SqT K H b ys) (sign x) (fun i => ys[i]?)) [N + 4, N + 2, N + 3, N, N + 1] (N + 4)
      (fun i h => IsZip h (N + 4) (N + 2) (N + 3) .none ∧ IsTupOf2 h (N + 2) (.ref N) (.ref (N + 1)) ∧ (∃ a1 a2, IsTupOf2 h (N + 3) a1 a2) ∧ h.IsStrIter N (strIterType x) x t i ∧ h.IsTupleIter (N + 1) b i) := by
  refine turnPr (wr := [N + 4, N + 3, N, N + 1]) (fun c hc => by simp at hc ⊢; rcases hc with z | z | z | z <;> simp [z]) (by simp) (fun i h st c hc => ?_) (fun i h h' st k => ?_) (fun A i s Q E st h => wpAny_pyIter_zip st.1 h) ?_
  · obtain ⟨hz, hTI, ⟨a1, a2, hTO⟩, ⟨o1, e1, _, d1⟩, ⟨o2, e2, _, d2⟩⟩ := st
    refine (show ∀ c ∈ [N + 4, N + 2, N + 3, N, N + 1], ∃ o, h.get? c = some o ∧ ∀ v, o.data ≠ .cell v from List.forall_mem_cons.mpr ⟨⟨_, hz, fun _ => nofun⟩, List.forall_mem_cons.mpr ⟨⟨_, hTI, fun _ => nofun⟩, List.forall_mem_cons.mpr ⟨⟨_, hTO, fun _ => nofun⟩, List.forall_mem_cons.mpr ⟨⟨o1, e1, fun _ z => nomatch d1.symm.trans z⟩, List.forall_mem_singleton.mpr ⟨o2, e2, fun _ z => nomatch d2.symm.trans z⟩⟩⟩⟩⟩) c hc
  · obtain ⟨hz, hTI, ⟨a1, a2, hTO⟩, ⟨o1, e1, r1⟩, h2⟩ := st
    exact ⟨k _ (by simp) _ hz, k _ (by simp) _ hTI, ⟨a1, a2, k _ (by simp) _ hTO⟩, ⟨o1, k _ (by simp) _ e1, r1⟩, h2.at fun o q => k _ (by simp) o q⟩
  · intro X hP hw hK hc i pins s σ H I hf st hg
    subst hP hw hK
    obtain ⟨hz, hTI, hTO, h1, h2⟩ := st
    obtain ⟨its, rv, p, hsz⟩ := I.tuple hg
    have hl := rv.length
    have D1 := Draws.text (prog := X.prog) (w := X.w) (A := X.A.in1) (I.ok.hd hc) N x t
    have D2 := Draws.tuple (prog := X.prog) (w := X.w) (A := X.A.in1) (I.ok.hd hc) (N + 1) b (Nat.ne_of_lt (Nat.lt_succ_of_lt hb)) its.toArray
    have W := WalksT.zipD2 (zip_sep2 (N := N) (fp1 := []) (fp2 := [b]) (by simp) (fun c hc => by simp at hc; rw [hc]; exact hb)) D1 D2
    have hn : its.toArray.size = ys.length := by simp; omega
    rw [hn] at W
    refine ⟨_, _, _, _, W, ⟨hz, hTI, hTO, h1, h2, p⟩, fun h st => ⟨st.1, st.2.1, st.2.2.1, st.2.2.2.1, st.2.2.2.2.1⟩, ?_⟩
    rintro vals hi ⟨u1, u2, ⟨c, u', hc, rfl⟩, hu, rfl⟩
    have hi2 : i < ys.length := by omega
    obtain ⟨y, hy⟩ : ∃ y, ys[i]? = some y := ⟨ys[i], by simp [hi2]⟩
    obtain ⟨u'', hu', ru⟩ := rv.get hy
    have eu : u'' = u2 := by
      have q : its[i]? = some u2 := by simpa using hu
      rw [hu'] at q
      exact Option.some.inj q
    subst eu
    refine ⟨.str ⟨#[c]⟩, y, _, _, rfl, ⟨u', rfl⟩, ru, ?_, hy⟩
    unfold sign
    rw [hc]
    rfl
theorem pi_zipST {X : Cx} {e e2 : Expr} {ta : TA} {p pos tpos : Pos} {elts : List Expr} {kk : Nat} (hg : Gl X "zip") (hm : X.mg "zip" = none) (ha : PA X [e, e2] ta)
    (hs : starEach [e, e2] X.env = (false, eval e X.env) :: starEach [e2] X.env := by rfl) (hpl : (backTo pos (starEach [e2] X.env)).any (·.1) = false := by rfl) :
    PI X (.Tuple elts kk tpos) (.Call (.Name "zip" p) [e, e2] [] pos) (iZipST X.K ta) := by
  refine ⟨fun pins s σ H R I h => ?_⟩
  refine PyProof.Rows.Call_ (ld_blt I hg hm PyProof.Rows.boot_zip (PyProof.Rows.callWith_type1 (thn (ha.run pos pins s σ H _ I h) fun us s1 ⟨vs, H1, I1, r1, q1⟩ => ?_) hs hpl))
  obtain ⟨x, b, ys, ex, hq, q⟩ := q1
  subst ex
  cases r1 with
  | cons r rr =>
    cases rr with
    | cons r' rr =>
      cases rr
      obtain ⟨t, rfl⟩ := r
      cases r'
      obtain ⟨its, rv, p', hz⟩ := I1.tuple hq
      obtain ⟨ob, hob, _⟩ := id p'
      have hlt := Heap.lt_size hob
      refine zip_begins2 (begins_text x t) (begins_tuple b its.toArray) trivial p' fun h' hz hTI hTO g1 g2 hsz hk => wpAny_pyIter_zip hz ?_
      have I2 : Inv X pins σ H1 { s1 with heap := h' } := I1.kept (t' := s1.toks) hk
      refine ⟨s1.heap.objs.size + 4, [s1.heap.objs.size + 4, s1.heap.objs.size + 2, s1.heap.objs.size + 3, s1.heap.objs.size, s1.heap.objs.size + 1], _, _, H1, rfl, I2, turn_zipST (N := s1.heap.objs.size) (b := b) (x := x) (t := t) (ys := ys) hlt, ⟨hz, hTI, ⟨_, _, hTO⟩, ⟨_, g1, rfl, rfl⟩, ⟨_, g2, rfl, rfl⟩⟩, fun c hcm => ?_, q⟩
      have hle : s1.heap.objs.size ≤ c := by
        have e' : c = s1.heap.objs.size + 4 ∨ c = s1.heap.objs.size + 2 ∨ c = s1.heap.objs.size + 3 ∨ c = s1.heap.objs.size ∨ c = s1.heap.objs.size + 1 := by simpa using hcm
        rcases e' with z | z | z | z | z <;> rw [z] <;> first | exact Nat.le_add_right _ _ | exact Nat.le_refl _
      exact I1.fpOk hle (I1.hok.fresh hle)
section
variable {X : Cx} (K : PySem.W.Frag)
theorem piEnumT {e : Expr} {ta : TA} {p pos tpos : Pos} {elts : List Expr} {kk : Nat} (hg : Gl X "enumerate") (hm : X.mg "enumerate" = none) (ha : PA X [e] ta) (h : X.K = K := by rfl) (hs : starEach [e] X.env = [(false, eval e X.env)] := by rfl) :
    PI X (.Tuple elts kk tpos) (.Call (.Name "enumerate" p) [e] [] pos) (iEnumT K ta) := by subst h; exact pi_enumT hg hm ha hs
theorem piZipST {e e2 : Expr} {ta : TA} {p pos tpos : Pos} {elts : List Expr} {kk : Nat} (hg : Gl X "zip") (hm : X.mg "zip" = none) (ha : PA X [e, e2] ta) (h : X.K = K := by rfl)
    (hs : starEach [e, e2] X.env = (false, eval e X.env) :: starEach [e2] X.env := by rfl) (hpl : (backTo pos (starEach [e2] X.env)).any (·.1) = false := by rfl) :
    PI X (.Tuple elts kk tpos) (.Call (.Name "zip" p) [e, e2] [] pos) (iZipST K ta) := by subst h; exact pi_zipST hg hm ha hs hpl
end
end Ser
end
section
set_option maxRecDepth 100000
set_option maxHeartbeats 4000000
namespace Ser
open PySem L2
/-! ### tuple * int, one time as well -/
theorem tuple_mul_once (l : Addr) (items : Array Value) (n : Nat) (dd : Option Addr) (sl : Array (Option Value)) (u : Tok) :
    Meets (Builtin.«tuple.__mul__» ⟨[.ref l, .int 1 u], []⟩) (fun _ R s => s.heap.get? l = some { cls := .type "tuple", dict := dd, data := .seq items n, slots := sl } ∧ R (.ok (.ret (.ref l))) s) :=
  .of_wp fun prog w A R s h => by
    obtain ⟨hp, g, d, tk, os⟩ := s
    obtain ⟨hl, h⟩ := h
    have f1 := AutoSeq1.idx_int
    have c1 : (items.isEmpty || (1 : Int) == 1) = true := by simp
    have c0 : (decide ((1 : Int) < -(2 ^ 63)) || decide ((1 : Int) ≥ 2 ^ 63)) = false := by decide
    wp_walk using wpAny_loadPart' hl
    repeat (first
      | (refine wpAny_ite_false (decide_eq_false (by rw [c0]; exact Bool.false_ne_true)) ?_; wp_walk using wpAny_loadPart' hl)
      | (refine wpAny_ite_true (decide_eq_true c1) ?_; wp_walk using wpAny_loadPart' hl))
    exact ⟨_, rfl, h⟩
def rRepA (K : PySem.W.Frag) : R2 := fun x y H Q => ∃ l k xs, x = .ref l ∧ y = .int k ∧ SqT K H l xs ∧ xs ≠ [] ∧ 1 ≤ k ∧ k ≤ 1000 ∧ xs.length ≤ 1000 ∧ (k = 1 → Q (.ref l) H) ∧ (k ≠ 1 → ∀ p, H p = none → Q (.ref p) (upd H p (.tup (List.replicate k.toNat xs).flatten)))
theorem op_repA {X : Cx} : OpR X (binaryOp .Mult) (rRepA X.K) := by
  intro pins s σ H x y v u Q I rx ry h
  obtain ⟨l, k, xs, rfl, rfl, hT, hne, h1, h2, hz, q1, q2⟩ := h
  by_cases hk : k = 1
  · subst hk
    cases rx
    obtain ⟨t, rfl⟩ := ry
    obtain ⟨its, r, ⟨⟨cls, dd, data, sl⟩, ho, hc, n, hd⟩, hs⟩ := I.tuple hT
    simp only at hc hd
    subst hc hd
    refine wpAny_binaryOp_repeat_ref (T := "tuple") (U := "int") (by decide) ⟨_, ho, rfl⟩ (fun s' => typeIs_int s' 1 t) noFill_tuple_mul PySem.F.fills_int_mul PySem.F.slot_int_rmul repeat_tuple PySem.F.slot_int_index.lookup (call_meets PySem.F.slot_int_rmul (typeIs_int s 1 t) PySem.F.entry_int_rmul (PySem.F.args_int_rmul_2 _ _) (int_rmul_tuple 1 t l its.toArray n dd sl) ⟨ho, rfl, ⟨_, ho, rfl⟩, ?_⟩)
    exact call_meets PySem.F.slot_tuple_mul ⟨_, ho, rfl⟩ PySem.F.entry_tuple_mul (PySem.F.args_tuple_mul_2 _ _) (tuple_mul_once l its.toArray n dd sl t) ⟨ho, ⟨.ref l, H, I, rfl, q1 rfl⟩⟩
  · exact op_repT pins s σ H _ _ v u Q I rx ry ⟨l, k, xs, rfl, rfl, hT, hne, by omega, h2, hz, q2 hk⟩
/-! ### min of a pair of ints -/
def rMinP (K : PySem.W.Frag) : List V → Hp → VK → Prop := fun vs H Q => ∃ (a : Addr) (i j : Int), vs = [V.ref a] ∧ SqT K H a [.int i, .int j] ∧ Q (.int (min i j)) H
theorem cr_minP {X : Cx} (hc : X.calm = true) (hu : X.A.units + 64 < cLine) : CallR X (.builtin "min") (rMinP X.K) := by
  intro pins s σ H vs us Q I r h
  obtain ⟨a, i, j, rfl, hs, q⟩ := h
  obtain ⟨its, rv, pl, hz⟩ := I.tuple hs
  rw [Vals.ref1 r]
  cases rv with
  | cons r1 rr =>
    cases rr with
    | cons r2 rr =>
      cases rr
      obtain ⟨t1, rfl⟩ := r1
      obtain ⟨t2, rfl⟩ := r2
      have rd : ReadsAll s.heap [Value.int i t1, Value.int j t2] (PyData.int i :: [PyData.int j]) ([] ++ ([] ++ [])) := .cons (.int i t1) (.cons (.int j t2) .nil)
      have al : PySem.W.AlikeAll (PyData.int i :: [PyData.int j]) := by
        refine ⟨fun x hx y hy => ?_, fun x hx => ?_⟩
        · simp only [List.mem_cons, List.not_mem_nil, or_false] at hx hy
          rcases hx with rfl | rfl <;> rcases hy with rfl | rfl <;> rfl
        · simp only [List.mem_cons, List.not_mem_nil, or_false] at hx
          rcases hx with rfl | rfl <;> exact fun z => nomatch z
      have dp : PyData.depthAll (PyData.int i :: [PyData.int j]) ≤ 10 := by simp [PyData.depthAll, PyData.depth]
      refine PySem.W.min_tuple_data (I.ok.hd hc) (vs := #[Value.int i t1, Value.int j t2]) pl rd al (by omega) fun n v h' tk bs hv hr hk => ?_
      have e : PySem.W.minD (.int i) [PyData.int j] = .int (min i j) := PySem.W.minD_ints i [j]
      rw [e] at hr
      cases hr with
      | int _ t => exact ⟨.int (min i j), H, I.kept hk, ⟨t, rfl⟩, q⟩
/-! ### o[i] of a list, by values -/
def gL (K : PySem.W.Frag) : V → V → Hp → VK → Prop := fun o i H Q => ∃ p xs k v, o = .ref p ∧ i = .int k ∧ SqL K H p xs ∧ atI xs k = some v ∧ Q v H
theorem get_list' {X : Cx} : PGet X (gL X.K) := by
  intro pins s σ H o i ov iv Q I ro ri h
  obtain ⟨p, xs, k, v, rfl, rfl, hq, he, q⟩ := h
  cases ro
  obtain ⟨t, rfl⟩ := ri
  obtain ⟨its, r, pl, hz⟩ := I.list hq
  obtain ⟨j, h1, h2, h3, h4, h5⟩ := atI_get he
  obtain ⟨u, hu, ru⟩ := r.get h2
  have hl := r.length
  have hn := line63
  have fin : EP X pins σ Q u s := ⟨v, H, I, ru, q⟩
  by_cases h0 : 0 ≤ k
  · have e : k.toNat = j := by
      rw [seqIndex_of h0 h5] at h1
      exact Option.some.inj h1
    exact wpAny_getItem_list pl.isList h0 (by omega) (by rw [e]; simpa using hu) fin
  · have e : (k + (its.toArray.size : Int)).toNat = j := by
      rw [seqIndex_neg (by omega) h4] at h1
      rw [List.size_toArray, ← hl]
      exact Option.some.inj h1
    exact wpAny_getItem_list_neg pl.isList (by omega) (by rw [List.size_toArray] <;> omega) (by omega) (by rw [e]; simpa using hu) fin
/-! ### calls with keywords alone -/
section
variable {X : Cx} {CX : CXT} {k : Nat} {f : Addr} {fd : FuncData} {ps ks : List Str} {sp : Sp} {E : XK} {x : Str} {p pos : Pos} {kws : List Keyword} {tk : TA} {g : List Value → List Value → List Value} {gV : List V → List V → List V}
theorem pe_callK0 (F : FnOk X.prog X.w X.K X.mg X.base CX k f fd ps sp) (hr : Room k X.A) (hg : Gl X x) (hm : X.mg x = some (.ref f)) (hk : PySem.W.keepIn X.K (.ref f) = true) (hb : KBinds X.K fd ps ks g gV) (hx : Passes CX X E) (hkw : PK X kws tk)
    (hall : (backToKw pos (keywordEach kws X.env)).all (·.1.isSome) = true := by rfl) (hks : (backToKw pos (keywordEach kws X.env)).filterMap (·.1) = ks := by rfl) (hdb : (x == ("__debug__" : Str)) = false := by decide)
    (hpl : ((backTo pos (starEach [] X.env)).any (·.1) || (backToKw pos (keywordEach kws X.env)).any (·.1.isNone)) = false := by rfl) : PE X (.Call (.Name x p) [] kws pos) (tCallK sp gV E tNil tk) := by
  refine ⟨fun pins s σ H Q I h => wpAny_Call_Name_kw (ld_glob I hg hm ?_ hdb)⟩
  refine PySem.W.callWith_KW0 (h₀ := X.base) I.ok.mod.kin hk hall ?_ hpl
  refine thn (hkw.run pos pins s σ H _ I h) fun ws s2 ⟨zs, H2, I2, rz, q2⟩ => ⟨I2.kIn, ?_⟩
  rw [hks]
  exact run_fnk (us := []) (vs := []) F hr hb hx I2 .nil rz q2
end
/-- both by name, the second one first -/
def sw2 {α : Type} : List α → List α → List α
  | [], [a, b] => [b, a]
  | _, _ => []
def sw1 {α : Type} : List α → List α → List α
  | [], [a] => [a]
  | _, _ => []
theorem kb_of {K : PySem.W.Frag} {x qual : Str} {params : Arguments} {body : List Stmt} {scope : Scope} {f : Addr} {fd : FuncData} (F : FunD K x qual params body scope [] [] f fd) {p1 p2 : Str}
    (h : ∀ (kV doc pm : Value) (an : Option Addr) (cdv ct : Value) (a b : Value), bindArgs (PySem.W.fnOf x qual params body scope .none kV doc pm an cdv ct) ⟨[], [(p2, a), (p1, b)]⟩ = pure [(p1, b), (p2, a)]) : KBinds K fd [p1, p2] [p2, p1] sw2 sw2 where
  to := by
    intro s us ws _ hl
    obtain ⟨oc, od, dV, kV, doc, pm, an, cdv, ct, osl, rfl, lk, hcd, hD, hK⟩ := F.ex
    rcases hD with ⟨_, rfl⟩ | ⟨e, _⟩
    · match us, ws, hl with
      | [], [a, b], _ => exact .of_eq (h kV doc pm an cdv ct a b)
    · exact absurd rfl e
  rel := by
    intro vs us zs ws r1 r2
    cases r1 with
    | nil =>
      cases r2 with
      | nil => exact .nil
      | cons a r =>
        cases r with
        | nil => exact .nil
        | cons b r =>
          cases r with
          | nil => exact .cons b (.cons a .nil)
          | cons c r => exact .nil
    | cons a r => exact .nil
theorem kb1_of {K : PySem.W.Frag} {x qual : Str} {params : Arguments} {body : List Stmt} {scope : Scope} {f : Addr} {fd : FuncData} (F : FunD K x qual params body scope [] [] f fd) {p1 : Str}
    (h : ∀ (kV doc pm : Value) (an : Option Addr) (cdv ct : Value) (a : Value), bindArgs (PySem.W.fnOf x qual params body scope .none kV doc pm an cdv ct) ⟨[], [(p1, a)]⟩ = pure [(p1, a)]) : KBinds K fd [p1] [p1] sw1 sw1 where
  to := by
    intro s us ws _ hl
    obtain ⟨oc, od, dV, kV, doc, pm, an, cdv, ct, osl, rfl, lk, hcd, hD, hK⟩ := F.ex
    rcases hD with ⟨_, rfl⟩ | ⟨e, _⟩
    · match us, ws, hl with
      | [], [a], _ => exact .of_eq (h kV doc pm an cdv ct a)
    · exact absurd rfl e
  rel := by
    intro vs us zs ws r1 r2
    cases r1 with
    | nil =>
      cases r2 with
      | nil => exact .nil
      | cons a r =>
        cases r with
        | nil => exact .cons a .nil
        | cons b r => exact .nil
    | cons a r => exact .nil
section
variable {X : Cx} (K : PySem.W.Frag)
theorem oRepT (e : X.K = K := by rfl) : OpR X (binaryOp .Mult) (rRepA K) := by subst e; exact op_repA
theorem slT (e : X.K = K := by rfl) : SlR X (rSlA K) := by subst e; exact sl_tupA
theorem cMinT (hu : X.A.units + 64 < cLine) (hc : X.calm = true := by rfl) (e : X.K = K := by rfl) : CallR X (.builtin "min") (rMinP K) := by subst e; exact cr_minP hc hu
theorem get_list (e : X.K = K := by rfl) : PGet X (gL K) := by subst e; exact get_list'
end
end Ser
end
section
set_option maxRecDepth 100000
set_option maxHeartbeats 4000000
namespace Ser
open PySem L2
/-! ### min(list of texts, key=len) -/
theorem str_at {xs : List Str} {i : Nat} {v : V} (h : (xs.map V.str)[i]? = some v) : ∃ n, xs[i]? = some n ∧ v = .str n := by
  rw [List.getElem?_map] at h
  cases e : xs[i]? with
  | none => rw [e] at h; cases h
  | some q => rw [e] at h; exact ⟨q, rfl, (Option.some.inj h).symm⟩
/-- the state s with more in it -/
def Grew (s s' : Shared) : Prop := ∃ h' tk, s' = { s with heap := h', toks := tk } ∧ ∀ b o, s.heap.get? b = some o → h'.get? b = some o
theorem Grew.moved {s s' s'' : Shared} {wr : List Addr} (g : Grew s s') (hw : ∀ b ∈ wr, s.heap.get? b = none) (m : Moved wr (fun a b => b = a) s' s'') : Grew s s'' := by
  obtain ⟨h', tk, rfl, k⟩ := g
  refine ⟨s''.heap, s''.toks, ?_, fun b o e => m.heap b o (fun hb => by rw [hw b hb] at e; cases e) (k b o e)⟩
  obtain ⟨hp, gn, d, tk', os⟩ := s''
  have h1 : gn = s.gens := m.gens
  have h2 : d = s.drawn := m.drawn
  have h3 : os = s.os := m.os
  subst h1 h2 h3
  rfl
def tMinLen (K : PySem.W.Frag) (te : TA) : TE := fun σ H Q => te σ H fun vs H1 => ∃ (a : Addr) (xs : List Str), vs = [V.ref a] ∧ SqL K H1 a (xs.map V.str) ∧ 0 < xs.length ∧ (∀ x ∈ xs, x.length ≤ sizeLine) ∧ ∀ x ∈ xs, (∀ y ∈ xs, x.length ≤ y.length) → Q (.str x) H1
theorem pe_minLen {X : Cx} {e : Expr} {te : TA} {p p2 p3 pos : Pos} (hc : X.calm = true) (hg : Gl X "min") (hm : X.mg "min" = none) (hg2 : Gl X "len") (hm2 : X.mg "len" = none) (ha : PA X [e] te)
    (he : backTo pos (starEach [e] X.env) = (false, eval e X.env) :: backTo pos (starEach [] X.env) := by rfl) (hpl : (backTo pos (starEach [e] X.env)).any (·.1) = false := by rfl) :
    PE X (.Call (.Name "min" p) [e] [⟨some "key", .Name "len" p2, p3⟩] pos) (tMinLen X.K te) := by
  refine ⟨fun pins s σ H Q I h => ?_⟩
  refine wpAny_Call_Name_kw (ld_blt I hg hm PyProof.Rows.boot_min ?_)
  refine PyProof.Rows.callWith_kw (thn (ha.run pos pins s σ H _ I h) fun us s1 ⟨vs, H1, I1, r1, q1⟩ => ?_) he hpl rfl rfl
  show wpAny _ _ (evalAll [do let v ← eval (.Name "len" p2) X.env; standAt pos; pure v]) _ _ s1
  refine wpAny_evalAll_cons (wpAny_bind (ld_blt I1 hg2 hm2 PySem.boot_len (wpAny_bind (wpAny_standAt (wpAny_pure (wpAny_evalAll_nil ?_))))))
  obtain ⟨a, xs, rfl, hs, hne, hsz, q⟩ := q1
  obtain ⟨its, rv, pl, hz⟩ := I1.list hs
  rw [Vals.ref1 r1]
  have hlen : its.length = xs.length := by rw [← rv.length, List.length_map]
  have hh := I1.ok.hd hc
  refine call_min_walkKB (PySem.W.iter_listW (A := X.A.in1) hh pl.isList fun s₂ e2 W st hfp hw hk => ?_)
  have gz : s1.heap.get? s1.heap.objs.size = none := Heap.get?_none_of_le (Nat.le_refl _)
  have g0 : Grew s1 s₂ := ⟨_, s1.toks, e2, by subst e2; exact hk⟩
  have hz2 : s₂.heap.objs.size = s1.heap.objs.size + 1 := by rw [e2]; exact Heap.size_push ..
  have hwr : ∀ b ∈ [s₂.heap.objs.size, s1.heap.objs.size], s1.heap.get? b = none := fun b hb => by
    simp only [List.mem_cons, List.not_mem_nil, or_false] at hb
    rcases hb with rfl | rfl
    · exact Heap.get?_none_of_le (by rw [hz2]; exact Nat.le_succ _)
    · exact gz
  refine ⟨_, _, _, _, _, _, _, Grew s1, fun i k s' => ∃ t, k = .int ((xs.getD i "").length : Nat) t, fun i j => decide ((((xs.getD i "").length : Nat) : Int) < ((xs.getD j "").length : Nat)), rfl, W, st, hfp, by simp; omega, ⟨fun s s' g m => g.moved hwr m, fun i k s s' v m => v, ?_, ?_⟩, g0, ?_⟩
  · intro i v s o Q E hi hP hJ hst hS hQ
    have hP' : its[i]? = some v := by simpa using hP
    have hi' : i < xs.length := by have := (List.getElem?_eq_some_iff.mp hP').1; omega
    obtain ⟨v', hv', rr⟩ := rv.get (show (xs.map V.str)[i]? = some (V.str xs[i]) by simp [hi'])
    rw [hP'] at hv'
    cases hv'
    obtain ⟨t, rfl⟩ := rr
    have eg : xs.getD i "" = xs[i] := by simp [List.getD, hi']
    have hl := hsz xs[i] (List.getElem_mem hi')
    have := line63
    refine PyProof.Rows.len_str (by omega) ?_
    refine hQ _ _ ?_ (W.frame _ _ s.heap _ hst (by omega) fun b hb o e => e) hS ⟨_, by rw [eg]⟩ fun j k' e => e
    obtain ⟨h', tk, rfl, kk⟩ := hJ
    exact ⟨h', _, rfl, kk⟩
  · rintro i j ki kj s Q E hJ ⟨t1, rfl⟩ ⟨t2, rfl⟩ hq
    exact wpAny_lt_int hq
  · intro v s' hP hJ
    obtain ⟨h', tk, rfl, kk⟩ := hJ
    obtain ⟨b1, b2⟩ := argBest_lt (fun i => (((xs.getD i "").length : Nat) : Int)) (its.toArray.size - 1)
    have hn : its.toArray.size - 1 < xs.length := by simp; omega
    have hP' : its[argBest (fun i j => decide ((((xs.getD i "").length : Nat) : Int) < ((xs.getD j "").length : Nat))) (its.toArray.size - 1)]? = some v := by simpa using hP
    generalize argBest (fun i j => decide ((((xs.getD i "").length : Nat) : Int) < ((xs.getD j "").length : Nat))) (its.toArray.size - 1) = m at b1 b2 hP'
    have hm' : m < xs.length := by omega
    obtain ⟨v', hv', rr⟩ := rv.get (show (xs.map V.str)[m]? = some (V.str xs[m]) by simp [hm'])
    rw [hP'] at hv'
    cases hv'
    refine ⟨.str xs[m], H1, I1.kept kk, rr, q _ (List.getElem_mem hm') fun y hy => ?_⟩
    obtain ⟨j, hj, rfl⟩ := List.getElem_of_mem hy
    have h3 := b2 j (by simp; omega)
    have e1 : xs.getD j "" = xs[j] := by simp [List.getD, hj]
    have e2' : xs.getD m "" = xs[m] := by simp [List.getD, hm']
    rw [e1, e2'] at h3
    omega
end Ser
namespace L2
open PySem PySem.Spec PyProof.Rows
abbrev bareSet (w : World) : Obj := { cls := .type "set", dict := none, data := .set #[] 0 (.fresh 0 0 (!w.params.followText "set-order")) }
/-- set(t), t a tuple of tuples of ints -/
theorem set_of_tups {P : Program} {w : World} {A : Around} {E : Value → Shared → Prop} {s : Shared} {tp : Addr} {vs : Array Value} (ks : List (Addr × List Int)) {Q : Value → Shared → Prop} (hh : A.handled = none) (ht : s.heap.IsTuple tp vs) (hv : vs.toList = ks.map fun q => Value.ref q.1)
    (hk : ∀ q ∈ ks, IsT P w s.heap q.2 q.1) (few : ks.length < 64) (un : A.units + 3 < cLine)
    (fin : ∀ (h' : Heap) (tk : Nat) L es ep t, SetTR P w h' s.heap.objs.size L es ep t → Got ks ks.length L → (∀ b o, s.heap.get? b = some o → h'.get? b = some o) → Q (.ref s.heap.objs.size) { s with heap := h', toks := tk }) :
    wpAny (model P w) A (call (.type "set") [.ref tp]) Q E s := by
  have vsz : vs.size = ks.length := by rw [← Array.length_toList, hv, List.length_map]
  obtain ⟨c, tl, hmro⟩ := F.called_set.mro
  have fMade := F.called_set.made
  have fSub := F.called_set.sub
  have fT := F.called_set.notType
  have fC := F.called_set.canCreate
  have fA := F.typeCall_set_1 (.ref tp)
  refine wpAny_call (codeAny_of_tree ?_)
  show wpAny _ _ (callAny (.type "set") _) _ _ s
  refine wpAny_pure ⟨Code.quiet_builtin _ (by decide +kernel), codeAny_builtin F.entry_type_call ?_⟩
  rw [Around.under_plain (weight_type_call_type "set" [.ref tp] []) rfl]
  repeat (any_goals (first | assumption | wp_step))

  refine codeAny_mono (code_set_led1 (.ref tp) (E := E) (Q₁ := fun o1 s₁ => o1 = .ref s.heap.objs.size ∧ s₁ = { s with heap := s.heap.push (bareSet w) }) ⟨rfl, rfl⟩) fun rr s₁ hr => ?_
  cases rr with
  | error e => exact hr
  | ok fl =>
    cases fl with
    | next => exact hr.elim
    | brk => exact hr.elim
    | cont => exact hr.elim
    | ret o1 =>
      obtain ⟨rfl, rfl⟩ := hr
      have gS : (s.heap.push (bareSet w)).get? s.heap.objs.size = some (bareSet w) := Heap.get?_push_size _ rfl
      have tS : Shared.TypeIs { s with heap := s.heap.push (bareSet w) } (.ref s.heap.objs.size) "set" := ⟨_, gS, rfl⟩
      have fL := F.called_set.init.lookup
      have fB := F.called_set.init.bind (.ref s.heap.objs.size)
      repeat (any_goals (first | assumption | wp_step))

      refine codeAny_mono (codeAny_call_builtin (R := wants (fun r s₂ => r = .none ∧ ∃ h' tk L es ep t, s₂ = { s with heap := h', toks := tk } ∧ SetTR P w h' s.heap.objs.size L es ep t ∧ Got ks ks.length L ∧ (∀ b o, s.heap.get? b = some o → h'.get? b = some o)) E) F.called_set.init.plain F.entry_set_init (check_set_init_1 tS ?_)) fun r₂ s₂ hr₂ => ?_
      · obtain ⟨⟨cls, dd, data, sl⟩, ho, hc, n0, hd⟩ := ht
        simp only at hc hd
        subst hc; subst hd
        have g1 : (s.heap.push (bareSet w)).get? tp = some { cls := .type "tuple", dict := dd, data := .seq vs n0, slots := sl } := Heap.get?_push_of_some _ ho
        have fTS := F.sub_tuple_set
        have fTF := F.sub_tuple_frozenset
        have nD : (Value.type "tuple" == Value.type "dict") = false := by decide
        have t1 : (s.heap.push (bareSet w)).IsTuple tp vs := ⟨_, g1, rfl, n0, rfl⟩
        unfold Builtin.«set.__init__» noKeywords Builtin.Frozenset.updateFrom
        generalize hIt : pyIter = It
        wp_walk
        subst hIt
        refine wpAny_pyIter_tuple t1 (wpAny_bind (wpAny_runValue ?_))
        have lt : tp < s.heap.objs.size := Heap.lt_size ho
        have sz : (s.heap.push (bareSet w)).objs.size = s.heap.objs.size + 1 := Heap.size_push ..
        have ne1 : tp ≠ (s.heap.push (bareSet w)).objs.size := by rw [sz]; exact Nat.ne_of_lt (Nat.lt_succ_of_lt lt)
        have out : s.heap.objs.size ∉ [(s.heap.push (bareSet w)).objs.size, tp] := by
          rw [sz]
          simp only [List.mem_cons, List.not_mem_nil, or_false, not_or]
          exact ⟨Nat.ne_of_lt (Nat.lt_succ_self _), Nat.ne_of_gt lt⟩
        have val : ∀ (i : Nat) (v : Value), vs[i]? = some v → ∃ q, ks[i]? = some q ∧ v = .ref q.1 := fun i v e => by
          rw [← Array.getElem?_toList, hv, List.getElem?_map] at e
          obtain ⟨q, e1, e2⟩ := Option.map_eq_some_iff.mp e
          exact ⟨q, e1, e2.symm⟩
        have free : ∀ b, s.heap.objs.size ≤ b → s.heap.get? b = none := fun b hb => Heap.get?_none_of_le hb
        refine set_update_tups ((Walks.tuple (A := A.in1.in1.in1) (by simp [hh]) _ tp ne1 vs).toS) s.heap.objs.size out ks vsz few val s.heap hk (free _ (Nat.le_refl _)) (fun b hb => free b (by rw [List.mem_singleton.mp hb, sz]; exact Nat.le_succ _)) un (vs.size - 0) 0 _ (by omega) (Nat.zero_le _)
          ⟨⟨_, Heap.get?_push_size _ rfl, rfl, rfl⟩, t1.push _⟩ (fun b o e => Heap.get?_push_of_some _ (Heap.get?_push_of_some _ e)) ⟨[], #[], 0, _, setTR_fresh (Heap.get?_push_of_some _ gS), Got.zero ks⟩ ?_
        intro s' L es ep t hm hS' g' hkp
        obtain ⟨h', gn, dr, tk', os'⟩ := s'
        have e1 : gn = s.gens := hm.gens
        have e2 : dr = s.drawn := hm.drawn
        have e3 : os' = s.os := hm.os
        subst e1 e2 e3
        refine wpAny_pure ?_
        show wpAny _ _ (ret Value.none) _ _ _
        rw [vsz] at g'
        exact wpAny_pure ⟨rfl, h', tk', L, es, ep, t, rfl, hS', g', hkp⟩
      · cases r₂ with
        | error e => exact hr₂
        | ok f2 =>
          cases f2 with
          | next => exact hr₂.elim
          | brk => exact hr₂.elim
          | cont => exact hr₂.elim
          | ret r =>
            obtain ⟨rfl, h', tk, L, es, ep, t, rfl, hS', g', hk'⟩ := hr₂
            repeat (any_goals (first | assumption | wp_step))
            exact fin _ _ _ _ _ _ hS' g' hk'
end L2
end
section
set_option maxRecDepth 100000
set_option maxHeartbeats 4000000
namespace Ser
open PySem L2
def tLenSetF (K : PySem.W.Frag) (te : TE) : TE := fun σ H Q => te σ H fun v H1 => ∃ (a : Addr) (xs : List V) (fs : List (Int × Int)), v = .ref a ∧ SqT K H1 a xs ∧ TDs K H1 xs (fs.map frD) ∧ fs.length < 64 ∧ ∀ n : Nat, (n = 1 ↔ fs ≠ [] ∧ ∀ x ∈ fs, ∀ y ∈ fs, x = y) → Q (.int n) H1
theorem tup_keys {X : Cx} {pins : List (Addr × Obj)} {σ : L2.St} {H : Hp} {s : Shared} (I : Inv X pins σ H s) : ∀ {fs : List (Int × Int)} {xs : List V} {us : List Value}, TDs X.K H xs (fs.map frD) → Vals xs us →
    ∃ ks : List (Addr × List Int), us = ks.map (fun q => Value.ref q.1) ∧ ks.map (·.2) = fs.map (fun x => [x.1, x.2]) ∧ ∀ q ∈ ks, IsT X.prog X.w s.heap q.2 q.1
  | [], _, _, .nil, .nil => ⟨[], rfl, rfl, fun q h => nomatch h⟩
  | x :: fs, _, _, .cons t r, .cons ru rr => by
    obtain ⟨ks, e1, e2, h⟩ := tup_keys I r rr
    obtain ⟨a, rfl, ha⟩ := t.fr
    cases ru
    refine ⟨(a, [x.1, x.2]) :: ks, by rw [e1]; rfl, by rw [List.map_cons, e2]; rfl, fun q hq => ?_⟩
    rcases List.mem_cons.mp hq with rfl | hq
    · exact I.isT ha
    · exact h q hq
theorem pe_lenSetF {X : Cx} {a : Expr} {ta : TE} {p p2 q pos : Pos} (hu : X.A.units + 64 < cLine) (hg : Gl X "len") (hm : X.mg "len" = none) (hg2 : Gl X "set") (hm2 : X.mg "set" = none) (ha : PE X a ta) (hc : X.calm = true := by rfl)
    (na : starEach [a] X.env = (false, eval a X.env) :: starEach [] X.env := by rfl) : PE X (.Call (.Name "len" p) [.Call (.Name "set" p2) [a] [] q] [] pos) (tLenSetF X.K ta) := by
  refine ⟨fun pins s σ H Q I h => ?_⟩
  refine PyProof.Rows.Call_ (ld_blt I hg hm PySem.boot_len (PyProof.Rows.callWith_builtin1 (PyProof.Rows.args_cons ?_ rfl) rfl rfl))
  refine PyProof.Rows.Call_ (ld_blt I hg2 hm2 PyProof.Rows.boot_set (PyProof.Rows.callWith_type1 (PyProof.Rows.args_cons (thn (ha.run pins s σ H _ I h) fun v s1 ⟨x, H1, I1, r1, q1⟩ => PyProof.Rows.args_nil ?_) na) na rfl))
  obtain ⟨l, xs, fs, rfl, hT, hds, few, fin⟩ := q1
  cases r1
  obtain ⟨us, rv, pl, hz⟩ := I1.tuple hT
  obtain ⟨ks, e1, e2, hk⟩ := tup_keys I1 hds rv
  have kl : ks.length = fs.length := by
    have := congrArg List.length e2
    rw [List.length_map, List.length_map] at this
    exact this
  refine set_of_tups (P := X.prog) (w := X.w) ks (I1.ok.hd hc) pl (by simpa using e1) hk (by omega) (by omega) fun h' tk L es ep t R g k => ?_
  refine PyProof.Rows.args_nil ?_
  obtain ⟨o, ho, hex, hd⟩ := R.ob
  have fits := SetTR.fits (s := { s1 with heap := h', toks := tk }) R
  have sz := SetTR.size (s := { s1 with heap := h', toks := tk }) R
  have hL := R.few
  refine call_len_set (s := { s1 with heap := h', toks := tk }) ho hex hd fits (by omega) ⟨.int L.length, H1, I1.kept k, ⟨_, by rw [sz]⟩, fin L.length ?_⟩
  have mem : ∀ z, z ∈ ks.map (·.2) ↔ z ∈ L.map (·.2) := fun z => by
    constructor
    · intro hz
      obtain ⟨q, hq, rfl⟩ := List.mem_map.mp hz
      exact g.all q (by rw [List.take_length]; exact hq)
    · intro hz
      obtain ⟨q, hq, rfl⟩ := List.mem_map.mp hz
      exact List.mem_map.mpr ⟨q, List.mem_of_mem_take (g.sub q hq), rfl⟩
  rw [e2] at mem
  have inj : ∀ x y : Int × Int, [x.1, x.2] = [y.1, y.2] → x = y := fun x y e => by
    simp only [List.cons.injEq, and_true] at e
    exact Prod.ext e.1 e.2
  constructor
  · intro h1
    obtain ⟨q, rfl⟩ := List.length_eq_one_iff.mp h1
    refine ⟨fun e => ?_, fun x hx y hy => ?_⟩
    · have := (mem q.2).mpr (by simp)
      rw [e] at this
      cases this
    · have m1 := (mem _).mp (List.mem_map.mpr ⟨x, hx, rfl⟩)
      have m2 := (mem _).mp (List.mem_map.mpr ⟨y, hy, rfl⟩)
      simp only [List.map_cons, List.map_nil, List.mem_singleton] at m1 m2
      exact inj x y (m1.trans m2.symm)
  · rintro ⟨h1, h2⟩
    have nd := R.nd
    obtain ⟨x, fs', rfl⟩ := List.exists_cons_of_ne_nil h1
    have all : ∀ z ∈ L.map (·.2), z = [x.1, x.2] := fun z hz => by
      obtain ⟨y, hy, rfl⟩ := List.mem_map.mp ((mem z).mpr hz)
      rw [h2 y hy x List.mem_cons_self]
    have hx := (mem [x.1, x.2]).mp (List.mem_map.mpr ⟨x, List.mem_cons_self, rfl⟩)
    have lL : L.length = (L.map (·.2)).length := (List.length_map ..).symm
    rw [lL]
    generalize L.map (·.2) = M at nd all hx ⊢
    have lM : M.length = 1 := by
      match M, nd, all, hx with
      | [z], _, _, _ => rfl
      | z1 :: z2 :: M, nd, all, _ =>
        have a1 := all z1 (by simp)
        have a2 := all z2 (by simp)
        rw [a1, a2] at nd
        simp at nd
    exact lM
end Ser
end
section
set_option maxRecDepth 100000
set_option maxHeartbeats 4000000
/-! repr of data, where no repr is under way: what a def knows of the guards -/
namespace Ser
open PySem PySem.Spec PyProof.Rows L2
structure Shw (d : PyData) : Prop where
  sh : d.showable = true
  ls : d.leavesShort 220 = true
  wt : d.weight ≤ 60000
  dp : d.depth ≤ 20
  nd : d.hasDict = false
def rRepr (K : PySem.W.Frag) : List V → Hp → VK → Prop := fun vs H Q => ∃ (a : Addr) (d : PyData), vs = [V.ref a] ∧ Dp K H (.ref a) d ∧ Shw d ∧ Q (.str d.shown) H
theorem cr_repr {X : Cx} (hg : X.A.guards = some []) (hu : X.A.units + 64 < cLine) : CallR X (.builtin "repr") (rRepr X.K) := by
  intro pins s σ H vs us Q I r h
  obtain ⟨a, d, rfl, hd, hs, q⟩ := h
  rw [Vals.ref1 r]
  obtain ⟨as, rd⟩ := Dp.reads I d _ (.ref a) hd (show RelV (.ref a) (.ref a) from rfl)
  have dp := hs.dp
  have wt := hs.wt
  have sz := PyData.shown_le 220 (by decide) d hs.ls
  refine repr_of_reads' rd hs.sh (fun e => by rw [hs.nd] at e; cases e) hg (by omega) (fun _ _ e => e) (fun h' u tk hk => ⟨.str d.shown, H, I.kept hk, ⟨u, rfl⟩, q⟩) ?_
  rw [sizeLine_eq]
  have : (220 + 2) * d.weight ≤ 222 * 60000 := Nat.mul_le_mul (Nat.le_refl _) wt
  omega
theorem cRepr {X : Cx} (K : PySem.W.Frag) (hg : X.A.guards = some []) (hu : X.A.units + 64 < cLine) (e : X.K = K := by rfl) : CallR X (.builtin "repr") (rRepr K) := by subst e; exact cr_repr hg hu
/-- a def's promise where no repr is under way -/
structure FnOkG (P : Program) (w : World) (K : PySem.W.Frag) (mg : Str → Option Value) (base : Heap) (CX : CXT) (k : Nat) (f : Addr) (fd : FuncData) (ps : List Str) (sp : Sp) : Prop where
  len : ∀ vs H Q E, sp vs H Q E → vs.length = ps.length
  run : ∀ (A : Around) (outer : List Env) (s : Shared) (H : Hp) (args : Args) (us : List Value) (vs : List V) (Q : VK) (E : XK), A.guards = some [] → Room k A → Env0 P w K mg base A outer s H → BindsTo s fd args (ps.zip us) → Vals vs us → sp vs H Q E →
    codeAny (model P w) A (.call (.ref f) args) (CR CX outer P w H s Q E) s
theorem deeper_guards {A : Around} {env : Env} (h : A.guards = some []) : (A.deeper env).guards = some [] := by
  simpa [Around.deeper, Code.guards, Code.isGuard, pushGuards] using h
theorem fd_okG {P : Program} {w : World} {K : PySem.W.Frag} {mg : Str → Option Value} {base : Heap} {x qual : Str} {params : Arguments} {body : List Stmt} {scope : Scope} {dvs : List V} {kws : List (Str × V)} {f : Addr} {fd : FuncData} {CX : CXT} {N ps : List Str} {k : Nat} {sp : Sp}
    (F : FunD K x qual params body scope dvs kws f fd) (S : FnScope N ps scope) (len : ∀ vs H Q E, sp vs H Q E → vs.length = ps.length)
    (hbody : ∀ (cdv : Value) (A : Around) (outer : List Env) (s : Shared) (H : Hp) (vs : List V) (Q : VK) (E : XK), (A.deeper (envOfC qual scope s.heap.objs.size f cdv)).guards = some [] → Room k (A.deeper (envOfC qual scope s.heap.objs.size f cdv)) → sp vs H Q E →
      ∃ t, PSs (cxOf CX P w K mg base N qual scope f cdv A outer s H E) body t ∧ t { nx := fun _ H' => Q .non H', rt := Q } (start N vs) H) : FnOkG P w K mg base CX (k + 1) f fd ps sp := by
  obtain ⟨oc, od, dV, kV, doc, pm, an, cdv, ct, osl, rfl, lk, hcd, _, _⟩ := F.ex
  refine ⟨len, fun A outer s H args us vs Q E hg hr e0 hb r hsp => ?_⟩
  have hl := len _ _ _ _ hsp
  have kin : K.In s.heap := e0.mod.kin.keeps fun b o e => (e0.bs b o e).1
  have nol : s.heap.NoLimit := e0.mod.nolimit.keeps fun b o e => (e0.bs b o e).1
  have par : ∀ y ∈ ps.zip us, scope.names.lookup y.1 = some .local ∨ (scope.names.lookup y.1 = some .cell ∧ ((cellsFrom (s.heap.objs.size + 1) scope.names []).lookup y.1).isSome = true) := by
    rintro ⟨n, v⟩ hy
    rcases S.par n (List.of_mem_zip hy).1 with q | q
    · exact .inl q
    · exact .inr ⟨q, PySem.W.cellsFrom_some _ _ _ (.inl q)⟩
  refine codeAny_call_function hr.depth (kin _ _ lk) rfl S.co S.gen rfl (PySem.W.codeRec_of kin hcd) (hb _ _ _ _ ?_)
  refine wpAny_newFunctionEnv_cells S.kind par fun env he s1 x => ?_
  subst he
  refine ⟨nol.keeps x.toInCall.keep, codeAny_func ?_⟩
  obtain ⟨t, ht, hq⟩ := hbody cdv A outer s H vs Q E (deeper_guards hg) (hr.deeper _) hsp
  have I : Inv (cxOf CX P w K mg base N qual scope f cdv A outer s H E) [] (start N vs) H s1 := inv_start S hr.hd e0 hl r x
  refine wpAny_mono (ht.run [] s1 (start N vs) H _ I hq) (fun fl s2 end_ => ?_) fun _ _ z => z
  match fl, end_ with
  | .ret u, ⟨v, _, G, J, rv, q⟩ => exact ⟨v, G, J.os, J.bare, J.base, J.hok, rv, q⟩
  | .next, ⟨_, G, J, q⟩ => exact ⟨.non, G, J.os, J.bare, J.base, J.hok, rfl, q⟩
  | .brk, ⟨_, _, z⟩ => exact z.2.elim
  | .cont, ⟨_, _, z⟩ => exact z.2.elim
theorem pe_callG {X : Cx} {CX : CXT} {k : Nat} {f : Addr} {fd : FuncData} {ps : List Str} {sp : Sp} {E : XK} {x : Str} {p pos : Pos} {e : Expr} {es : List Expr} {t : TA} (G : X.A.guards = some []) (F : FnOkG X.prog X.w X.K X.mg X.base CX k f fd ps sp) (hr : Room k X.A) (hm : X.mg x = some (.ref f)) (hk : PySem.W.keepIn X.K (.ref f) = true) (hb : Binds X.K fd ps []) (hx : Passes CX X E)
    (ha : PA X (e :: es) t) (hg : Gl X x := by rfl) (hdb : (x == ("__debug__" : Str)) = false := by decide) (he : starEach (e :: es) X.env = (false, eval e X.env) :: starEach es X.env := by rfl) (hpl : (backTo pos (starEach es X.env)).any (·.1) = false := by rfl) :
    PE X (.Call (.Name x p) (e :: es) [] pos) (tCall sp [] E t) := by
  refine ⟨fun pins s σ H Q I h => wpAny_Call_Name_kw (ld_glob I hg hm ?_ hdb)⟩
  refine PySem.W.callWith_K (h₀ := X.base) I.ok.mod.kin hk (thn (ha.run pos pins s σ H _ I h) fun us s1 ⟨vs, H1, I1, r, q⟩ => ⟨I1.kIn, ?_⟩) he hpl
  replace q : sp (vs ++ []) H1 Q E := q
  rw [List.append_nil] at q
  have hl : us.length = ps.length := by rw [← r.length]; exact F.len _ _ _ _ q
  have hb' := hb s1 us I1.kIn (by rw [List.append_nil]; exact hl)
  rw [List.append_nil] at hb'
  refine wpAny_call (codeAny_mono (F.run X.A X.stack s1 H1 ⟨us, []⟩ us vs Q E G hr I1.env0 hb' r q) fun r s' hq => ?_)
  cases r with
  | error e => exact hx pins σ H1 s1 e s' I1 hq
  | ok fl =>
    cases fl with
    | ret u => exact I1.after hq
    | next => exact False.elim hq
    | brk => exact False.elim hq
    | cont => exact False.elim hq
end Ser
end
section
set_option maxRecDepth 100000
set_option maxHeartbeats 4000000
/-! the keys of a dict that is held for good -/
namespace Ser
open PySem PySem.Spec PyProof.Rows L2
def iKeysF (td : TE) : TI := fun σ H R => td σ H fun x H1 => ∃ d kvs, x = .ref d ∧ H1 d = some (.dK kvs) ∧ ∀ o, R (Itk d o kvs) (upd H1 d (.frz o (.dK kvs)))
theorem piKeysF {X : Cx} {tg e : Expr} {td : TE} (he : PE X e td) : PI X tg e (iKeysF td) := by
  refine ⟨fun pins s σ H R I h => ?_⟩
  refine thn (he.run pins s σ H _ I h) fun u s1 ⟨x, H1, I1, rx, d, kvs, ex, hd, q⟩ => ?_
  subst ex
  obtain rfl : u = Value.ref d := rx
  obtain ⟨od, I2⟩ := I1.lock hd trivial
  obtain ⟨hs, hgd, hx, es, ep, vs, hdt, hsz, kv, hm⟩ := I2.frzK upd_same
  refine iter_keys hs hgd hx hdt (pi_one (tk := s1.toks) I2 _ (turn_keys _ hdt) ⟨_, Heap.get?_push_size _ rfl, rfl, ?_⟩ (q od))
  rw [hsz] <;> rfl
end Ser
end
section
namespace SM
/-! ### the nodes that are met, by a list of them -/
theorem tl_at {T : Tree} {k : Nat} {x : Int × Int} (h : T[k]? = some x) : tl T k = x.1 := by unfold tl; rw [List.getD_eq_getElem?_getD, h]; rfl
theorem tr_at {T : Tree} {k : Nat} {x : Int × Int} (h : T[k]? = some x) : tr T k = x.2 := by unfold tr; rw [List.getD_eq_getElem?_getD, h]; rfl
theorem tree_at {T : Tree} {k : Nat} (h : k < T.length) : T[k]? = some (tl T k, tr T k) := by
  unfold tl tr
  rw [List.getD_eq_getElem?_getD, List.getElem?_eq_getElem h]
  rfl
/-- what has been met: all of it is reached, and what has been gone through has its targets in it -/
structure Met (T : Tree) (b : Nat) (js : List Nat) (p : Nat) : Prop where
  nd : js.Nodup
  hd : b ∈ js
  re : ∀ j ∈ js, Reach T b j
  le : p ≤ js.length
  cl : ∀ i, i < p → ∀ j, js[i]? = some j → (∀ c : Nat, tl T j = (c : Int) → c ∈ js) ∧ ∀ c : Nat, tr T j = (c : Int) → c ∈ js
theorem Met.begin (T : Tree) (b : Nat) : Met T b [b] 0 := ⟨by simp, by simp, fun j h => by rw [List.mem_singleton.mp h]; exact .refl, Nat.zero_le _, fun i h => by omega⟩
theorem Met.all {T : Tree} {b : Nat} {js : List Nat} (h : Met T b js js.length) (j : Nat) : j ∈ js ↔ Reach T b j := by
  refine ⟨h.re j, fun r => ?_⟩
  induction r with
  | refl => exact h.hd
  | left r e ih =>
    obtain ⟨i, hi, he⟩ := List.getElem_of_mem ih
    exact (h.cl i hi _ (by rw [List.getElem?_eq_getElem hi, he])).1 _ e
  | right r e ih =>
    obtain ⟨i, hi, he⟩ := List.getElem_of_mem ih
    exact (h.cl i hi _ (by rw [List.getElem?_eq_getElem hi, he])).2 _ e
theorem Met.lt {m : Nat} {T : Tree} (O : Ok m T) {b : Nat} (hb : b < T.length) {js : List Nat} {p : Nat} (h : Met T b js p) : ∀ j ∈ js, j < T.length := fun j hj => (h.re j hj).lt O hb
theorem nodup_le {n : Nat} : ∀ {js : List Nat}, js.Nodup → (∀ j ∈ js, j < n) → js.length ≤ n := by
  intro js h hl
  have e : js.length = (js.filter (· < n)).length := by rw [List.filter_eq_self.mpr (by simpa using hl)]
  have sub : ∀ (l : List Nat) (r : List Nat), l.Nodup → (∀ x ∈ l, x ∈ r) → l.length ≤ r.length := by
    intro l
    induction l with
    | nil => intro r _ _; exact Nat.zero_le _
    | cons x l ih =>
      intro r hn hs
      obtain ⟨h1, h2⟩ := List.nodup_cons.mp hn
      have hx := hs x List.mem_cons_self
      have := ih (r.erase x) h2 fun y hy => (List.mem_erase_of_ne (show y ≠ x from fun e => h1 (by rw [← e]; exact hy))).2 (hs y (List.mem_cons_of_mem _ hy))
      have l1 := List.length_erase_of_mem hx
      have l2 : 0 < r.length := List.length_pos_of_mem hx
      simp only [List.length_cons]
      omega
  have := sub js (List.range n) h (by simpa using hl)
  simpa using this
theorem Met.len {m : Nat} {T : Tree} (O : Ok m T) {b : Nat} (hb : b < T.length) {js : List Nat} {p : Nat} (h : Met T b js p) : js.length ≤ T.length := nodup_le h.nd (h.lt O hb)
/-- one more, a target of the node that is gone through -/
theorem Met.more {T : Tree} {b : Nat} {js : List Nat} {p : Nat} (h : Met T b js p) {c : Nat} (hc : c ∉ js) (hr : Reach T b c) : Met T b (js ++ [c]) p where
  nd := by
    rw [List.nodup_append]
    exact ⟨h.nd, by simp, fun a ha b' hb' e => hc (by rw [List.mem_singleton.mp hb'] at e; rw [← e]; exact ha)⟩
  hd := List.mem_append_left _ h.hd
  re := fun j hj => by
    rcases List.mem_append.mp hj with q | q
    · exact h.re j q
    · rw [List.mem_singleton.mp q]; exact hr
  le := by rw [List.length_append]; have := h.le; omega
  cl := fun i hi j hj => by
    have hl : i < js.length := Nat.lt_of_lt_of_le hi h.le
    rw [List.getElem?_append_left hl] at hj
    obtain ⟨a, b⟩ := h.cl i hi j hj
    exact ⟨fun c e => List.mem_append_left _ (a c e), fun c e => List.mem_append_left _ (b c e)⟩
theorem Met.next {T : Tree} {b : Nat} {js : List Nat} {p j : Nat} (h : Met T b js p) (hj : js[p]? = some j) (h1 : ∀ c : Nat, tl T j = (c : Int) → c ∈ js) (h2 : ∀ c : Nat, tr T j = (c : Int) → c ∈ js) : Met T b js (p + 1) where
  nd := h.nd
  hd := h.hd
  re := h.re
  le := (List.getElem?_eq_some_iff.mp hj).1
  cl := fun i hi j' hj' => by
    by_cases e : i = p
    · subst e
      rw [hj] at hj'
      cases hj'
      exact ⟨h1, h2⟩
    · exact h.cl i (by omega) j' hj'
end SM
end
section
set_option maxRecDepth 100000
set_option maxHeartbeats 4000000
namespace Ser
open PySem L2
section
variable {P : Program} {w : World} {K : PySem.W.Frag} {mg : Str → Option Value} {base : Heap} {aN aW : Addr}
/-! ### met_from -/
abbrev sMetFrom : Stmt := top 25
def NMetFrom : List Str := ["tree", "begin", "found", "waiting", "place_now", "here", "toss", "place"]
theorem scMetFrom : FnScope NMetFrom ["tree", "begin"] (defScope sMetFrom) := ⟨rfl, rfl, rfl, by decide +kernel, rfl, by decide +kernel, by decide +kernel⟩
/-- a row of tosses leads from b to j -/
inductive Wk (T : SM.Tree) (b : Nat) : Str → Nat → Prop
  | nil : Wk T b "" b
  | left {u : Str} {k j : Nat} : Wk T b u k → SM.tl T k = (j : Int) → Wk T b (u ++ ⟨#[48]⟩) j
  | right {u : Str} {k j : Nat} : Wk T b u k → SM.tr T k = (j : Int) → Wk T b (u ++ ⟨#[49]⟩) j
def kd (ps : List (Nat × Str)) : List (Key × V) := ps.map fun p => (Sum.inl (p.1 : Int), V.str p.2)
theorem kd_none {j : Int} : ∀ {ps : List (Nat × Str)}, (∀ p ∈ ps, (p.1 : Int) ≠ j) → valV (kd ps) (Sum.inl j) = none
  | [], _ => rfl
  | p :: ps, h => by
    show valV ((Sum.inl (p.1 : Int), V.str p.2) :: kd ps) _ = _
    rw [valV_neg (fun e => h p List.mem_cons_self (Sum.inl.inj e))]
    exact kd_none fun q hq => h q (List.mem_cons_of_mem _ hq)
theorem kd_some : ∀ {ps : List (Nat × Str)} {p : Nat × Str}, (ps.map (·.1)).Nodup → p ∈ ps → valV (kd ps) (Sum.inl (p.1 : Int)) = some (.str p.2)
  | q :: ps, p, hn, h => by
    rw [List.map_cons, List.nodup_cons] at hn
    show valV ((Sum.inl (q.1 : Int), V.str q.2) :: kd ps) _ = _
    rcases List.mem_cons.mp h with e | h
    · rw [e]; exact valV_pos rfl
    · rw [valV_neg (fun e => hn.1 (List.mem_map.mpr ⟨p, h, by have := Sum.inl.inj e; omega⟩))]
      exact kd_some hn.2 h
theorem kd_append (ps : List (Nat × Str)) (p : Nat × Str) : kd (ps ++ [p]) = kd ps ++ [(Sum.inl (p.1 : Int), V.str p.2)] := by unfold kd; rw [List.map_append]; rfl
def wt (ps : List (Nat × Str)) : List V := ps.map fun p => V.int p.1
/-- the pairs of what is met and of how -/
structure Mt (T : SM.Tree) (b : Nat) (ps : List (Nat × Str)) (p : Nat) : Prop where
  met : SM.Met T b (ps.map (·.1)) p
  wk : ∀ q ∈ ps, Wk T b q.2 q.1
  ln : ∀ (i : Nat) (q : Nat × Str), ps[i]? = some q → q.2.length ≤ i
def spMetFrom (K : PySem.W.Frag) : Sp := fun vs H Q _ => ∃ (v : V) (T : SM.Tree) (m b : Nat), vs = [v, .int b] ∧ TD K H v (trD T) ∧ SM.Ok m T ∧ T.length ≤ 60 ∧ b < T.length ∧
  ∀ D ps H', H D = none → Same H H' → H' D = some (.dK (kd ps)) → Mt T b ps ps.length → Q (.ref D) H'
theorem tree_td {H : Hp} {v : V} {T : SM.Tree} (t : TD K H v (trD T)) : ∃ a xs, v = .ref a ∧ SqT K H a xs ∧ xs.length = T.length ∧ ∀ k, k < T.length → ∃ q, xs[k]? = some (.ref q) ∧ SqT K H q [.int (SM.tl T k), .int (SM.tr T k)] := by
  obtain ⟨a, xs, rfl, h1, h2⟩ := t.tuple
  have hl : xs.length = T.length := by have := h2.length; rw [List.length_map] at this; exact this
  refine ⟨a, xs, rfl, h1, hl, fun k hk => ?_⟩
  obtain ⟨v, e, tv⟩ := h2.get (show (T.map frD)[k]? = some (frD (SM.tl T k, SM.tr T k)) by rw [List.getElem?_map, SM.tree_at hk]; rfl)
  obtain ⟨q, rfl, hq⟩ := tv.fr
  exact ⟨q, e, hq⟩
theorem Mt.len {m : Nat} {T : SM.Tree} (O : SM.Ok m T) {b : Nat} (hb : b < T.length) {ps : List (Nat × Str)} {p : Nat} (h : Mt T b ps p) : ps.length ≤ T.length := by
  have := h.met.len O hb
  rw [List.length_map] at this
  exact this
theorem str_len_app (x : Str) (c : Nat) : (x ++ (⟨#[c]⟩ : Str)).length = x.length + 1 := by
  show (x.cps ++ #[c]).size = x.cps.size + 1
  simp
/-- one more -/
theorem Mt.more {T : SM.Tree} {b : Nat} {ps : List (Nat × Str)} {p : Nat} (h : Mt T b ps p) {c : Nat} {u : Str} (hc : ∀ q ∈ ps, q.1 ≠ c) (hw : Wk T b u c) (hu : u.length ≤ ps.length) (hr : SM.Reach T b c) : Mt T b (ps ++ [(c, u)]) p where
  met := by
    rw [List.map_append]
    exact h.met.more (fun hm => by obtain ⟨q, hq, e⟩ := List.mem_map.mp hm; exact hc q hq e) hr
  wk := fun q hq => by
    rcases List.mem_append.mp hq with z | z
    · exact h.wk q z
    · rw [List.mem_singleton.mp z]; exact hw
  ln := fun i q hq => by
    by_cases e : i < ps.length
    · rw [List.getElem?_append_left e] at hq
      exact h.ln i q hq
    · rw [List.getElem?_append_right (by omega)] at hq
      have : i - ps.length = 0 := by
        have := (List.getElem?_eq_some_iff.mp hq).1
        simp at this
        omega
      rw [this] at hq
      simp at hq
      subst hq
      show u.length ≤ i
      omega
theorem ok_met {f : Addr} {fd : FuncData} (F : FnP K "met_from" sMetFrom f fd) (T : Tx K mg aN aW) : FnOk P w K mg base CX0 1 f fd ["tree", "begin"] (spMetFrom K) := by
  refine F.ok scMetFrom (fun vs H Q E h => ?_) (fun cdv A outer s H vs Q E hr h => ?_)
  · obtain ⟨_, _, _, _, rfl, _⟩ := h
    rfl
  · obtain ⟨v, Tr, m, b, rfl, tv, O, h60, hb, k⟩ := h
    have hu := hu_of hr
    obtain ⟨a, xs, rfl, ha, hl, hxs⟩ := tree_td tv
    refine ⟨_, PSs.nox <| (pss_cons (ps_par3 (i := 2) (j := 3) (l := 4) rfl scMetFrom.nd rfl rfl rfl (by decide) (by decide) (by decide) rfl rfl rfl (pa_cons (pe_disp (pps_cons (pv 1) pe_str pps_nil) (by rfl) (by rfl) (fun z => by cases z) (by decide)) (pa_cons (pe_lst (pa_cons (pv 1) pa_nil)) (pa_cons pe_int pa_nil))) (by rfl))
      (pss_cons (ps_while PassesOwn.never (pt_cmp (pc_lt (pv 4) (pe_callB (cLen K) (by rfl) T.len_ (by decide +kernel) (pa_cons (pv 3) pa_nil)))) (pss_cons (ps_set (i := 5) scMetFrom.nd rfl (lc_ rfl) (pe_ix (ixL K) (pv 3) (pv 4) (fun _ _ => rfl)))
      (pss_cons (ps_for PassesOwn.never rfl (piZipST K (by rfl) T.zip_ (pa_cons pe_str (pa_cons (pe_ix (ixT K) (pv 0) (pv 5) (fun _ _ => rfl)) pa_nil))) (gTup' K (pgs_cons (pg_name (i := 6) scMetFrom.nd rfl (lc_ rfl)) (pgs_cons (pg_name (i := 7) scMetFrom.nd rfl (lc_ rfl)) pgs_nil))) (pss_one (ps_if (PW.pt (pw_and (pt_cmp (pc_ge (pv 7) pe_int)) (pw_and1 (pt_cmp (pc_dnotin hu (pv 7) (pv 2)))))) (pss_cons (ps_dput hu (pv 2) (pv 7) (pe_op op_add_str (pe_dget hu (pv 2) (pv 5) (fun _ _ => rfl)) (pv 6)) rfl)
      (pss_one (ps_expr (pBm K PySem.F.plainAttrs_list PySem.F.slot_list_append PySem.F.type_list_append mt_append (pv 3) (pa_cons (pv 7) pa_nil))))) pss_nil)))
      (pss_one (ps_aug (i := 4) scMetFrom.nd rfl (lc_ rfl) pe_int ip_add)))))
      (pss_one (ps_ret (pv 2))))), ?_⟩
    refine fun d hd => ⟨_, rfl, upd_same, [(Sum.inl (b : Int), .str "")], rfl, (by show 1 ≤ 15; decide), _, rfl, (by show 1 ≤ sizeLine; decide), fun q hq => ?_⟩
    have hqd : q ≠ d := fun e => by rw [e, upd_same] at hq; cases hq
    have hqH : H q = none := by rw [upd_ne hqd, upd_ne hqd] at hq; exact hq
    have sA : ∀ (x : HO) (y : HO) (z : HO), Same H (upd (upd (upd H d x) d y) q z) := fun x y z => Ser.Same.put (Ser.Same.put (Ser.Same.new hd) hd) hqH
    refine ⟨_, _, _, rfl, ?_⟩
    refine ⟨fun μ σ H' => ∃ (p : Nat) (ps : List (Nat × Str)) (v5 v6 v7 : Option V), μ = Tr.length - p ∧ σ = [some (.ref a), some (.int b), some (.ref d), some (.ref q), some (.int p), v5, v6, v7] ∧ Same H H' ∧ H' d = some (.dK (kd ps)) ∧ H' q = some (.lst (wt ps)) ∧ Mt Tr b ps p,
      ⟨_, 0, [(b, "")], none, none, none, rfl, rfl, sA _ _ _, by rw [upd_ne hqd.symm, upd_same]; rfl, by rw [upd_same]; rfl, SM.Met.begin Tr b, fun r hr => by rw [List.mem_singleton.mp hr]; exact .nil, fun i r hr => ?_⟩, ?_⟩
    · have : i = 0 := by have := (List.getElem?_eq_some_iff.mp hr).1; simp at this; omega
      subst this
      simp at hr
      subst hr
      exact Nat.zero_le _
    · rintro μ σ H' ⟨p, ps, v5, v6, v7, rfl, rfl, s1, h1, h2, mt⟩
      have hle := mt.met.le
      rw [List.length_map] at hle
      have hlen := mt.len O hb
      have wl : (wt ps).length = ps.length := by unfold wt; rw [List.length_map]
      refine ⟨_, rfl, _, rfl, q, wt ps, rfl, .inl (SqL.mk h2), _, _, rfl, rfl, _, rfl, iteB2 (fun hc => ?_) (fun hc => ?_)⟩
      · have hc : (p : Int) < (wt ps).length := of_decide_eq_true hc
        rw [wl] at hc
        have hp : p < ps.length := by omega
        refine ⟨fun σ' H'' => ∃ m', m' < Tr.length - p ∧ ∃ (p : Nat) (ps : List (Nat × Str)) (v5 v6 v7 : Option V), m' = Tr.length - p ∧ σ' = [some (.ref a), some (.int b), some (.ref d), some (.ref q), some (.int p), v5, v6, v7] ∧ Same H H'' ∧ H'' d = some (.dK (kd ps)) ∧ H'' q = some (.lst (wt ps)) ∧ Mt Tr b ps p, fun _ _ h => h, ?_⟩
        obtain ⟨⟨j, u⟩, hj⟩ : ∃ r, ps[p]? = some r := ⟨ps[p], by simp [hp]⟩
        have hjw : (wt ps)[p]? = some (.int j) := by unfold wt; rw [List.getElem?_map, hj]; rfl
        have jm : j ∈ ps.map (·.1) := List.mem_map.mpr ⟨(j, u), List.mem_of_getElem? hj, rfl⟩
        have jlt := mt.met.lt O hb j jm
        obtain ⟨t, ht, hts⟩ := hxs j jlt
        -- here = waiting[place_now]
        refine ⟨_, rfl, _, rfl, q, _, p, _, rfl, rfl, SqL.mk h2, atI_nat hjw, ?_⟩
        -- for toss, place in zip('01', tree[here])
        refine ⟨_, rfl, _, rfl, a, xs, j, _, rfl, rfl, Same.sqT s1 ha, atI_nat ht, "01", t, _, rfl, Same.sqT s1 hts, ?_⟩
        refine for_it (walk_pr (n := 2)) (fun i σ H' => ∃ (ps : List (Nat × Str)) (v6 v7 : Option V), σ = [some (.ref a), some (.int b), some (.ref d), some (.ref q), some (.int p), some (.int j), v6, v7] ∧ Same H H' ∧ H' d = some (.dK (kd ps)) ∧ H' q = some (.lst (wt ps)) ∧ Mt Tr b ps p ∧ ps[p]? = some (j, u) ∧
          (1 ≤ i → ∀ c : Nat, SM.tl Tr j = (c : Int) → c ∈ ps.map (·.1)) ∧ (2 ≤ i → ∀ c : Nat, SM.tr Tr j = (c : Int) → c ∈ ps.map (·.1))) ⟨ps, v6, v7, rfl, s1, h1, h2, mt, hj, fun h => by omega, fun h => by omega⟩ ?_ ?_ ?_
        · rintro i σ H' _ ⟨ps, v6, v7, rfl, s2, _⟩
          exact Same.sqT s2 hts
        · rintro i x σ H2 H3 hi ⟨ps, v6, v7, rfl, s2, h1, h2, mt, hj, c1, c2⟩ ⟨z, x1, x2, rfl, hz, rfl, hx1, hx2⟩
          have hlen := mt.len O hb
          have hp : p < ps.length := (List.getElem?_eq_some_iff.mp hj).1
          -- the target of this toss
          have key : ∃ (c : Int) (ch : Nat), x1 = .str ⟨#[ch]⟩ ∧ x2 = .int c ∧ (∀ c' : Nat, c = (c' : Int) → SM.Reach Tr b c' ∧ Wk Tr b (u ++ ⟨#[ch]⟩) c') ∧ (∀ (ps' : List (Nat × Str)), (∀ q ∈ ps, q ∈ ps') → (∀ c' : Nat, c = (c' : Int) → c' ∈ ps'.map (·.1)) →
              (1 ≤ i + 1 → ∀ c : Nat, SM.tl Tr j = (c : Int) → c ∈ ps'.map (·.1)) ∧ (2 ≤ i + 1 → ∀ c : Nat, SM.tr Tr j = (c : Int) → c ∈ ps'.map (·.1))) := by
            have rj := mt.met.re j (List.mem_map.mpr ⟨(j, u), List.mem_of_getElem? hj, rfl⟩)
            have wj := mt.wk _ (List.mem_of_getElem? hj)
            have i01 : i = 0 ∨ i = 1 := by omega
            rcases i01 with rfl | rfl
            · cases hx1
              cases hx2
              exact ⟨_, _, rfl, rfl, fun c' e => ⟨.left rj e, .left wj e⟩, fun ps' _ h => ⟨fun _ => h, fun z => by omega⟩⟩
            · cases hx1
              cases hx2
              exact ⟨_, _, rfl, rfl, fun c' e => ⟨.right rj e, .right wj e⟩, fun ps' sub h => ⟨fun _ c e => by
                obtain ⟨q, hq, e'⟩ := List.mem_map.mp (c1 (Nat.le_refl _) c e)
                exact List.mem_map.mpr ⟨q, sub q hq, e'⟩, fun _ => h⟩⟩
          obtain ⟨c, ch, rfl, rfl, k1, k2⟩ := key
          have s3 : Same H2 (upd H2 z (.tup [.str ⟨#[ch]⟩, .int c])) := Ser.Same.new hz
          refine ⟨z, _, rfl, SqT.mk upd_same, rfl, _, _, rfl, _, _, rfl, rfl, ?_⟩
          refine ⟨_, rfl, _, _, rfl, rfl, _, rfl, iteB2 (fun hc => ?_) (fun hc => ?_)⟩
          · have hc : c ≥ 0 := of_decide_eq_true hc
            obtain ⟨c', rfl⟩ : ∃ c' : Nat, c = (c' : Int) := ⟨c.toNat, by omega⟩
            by_cases hm : c' ∈ ps.map (·.1)
            · obtain ⟨r, hr, er⟩ := List.mem_map.mp hm
              have hv := kd_some mt.met.nd hr
              rw [er] at hv
              refine ⟨_, rfl, _, rfl, d, some _, rfl, by rw [← hv]; exact DGet.k (k := Sum.inl (c' : Int)) (s3 _ _ h1), _, rfl, iteBF rfl ?_⟩
              obtain ⟨q1, q2⟩ := k2 ps (fun _ h => h) fun c'' e => (Int.ofNat_inj.mp e) ▸ hm
              exact ⟨ps, _, _, rfl, s2.trans s3, s3 _ _ h1, s3 _ _ h2, mt, hj, q1, q2⟩
            · have hv : valV (kd ps) (Sum.inl (c' : Int)) = none := kd_none fun r hr e => hm (List.mem_map.mpr ⟨r, hr, by omega⟩)
              refine ⟨_, rfl, _, rfl, d, none, rfl, by rw [← hv]; exact DGet.k (k := Sum.inl (c' : Int)) (s3 _ _ h1), _, rfl, iteB rfl ?_⟩
              have hul := mt.ln p (j, u) hj
              have hu' : u.length ≤ 60 := by have : u.length ≤ p := hul; omega
              have hch : ((⟨#[ch]⟩ : Str)).length = 1 := rfl
              have vu := kd_some mt.met.nd (List.mem_of_getElem? hj)
              have q0 : (100000 : Nat) ≤ sizeLine := by decide
              have hne : ∀ r ∈ ps, r.1 ≠ c' := fun r hr e => hm (List.mem_map.mpr ⟨r, hr, e⟩)
              have more := mt.more (u := u ++ ⟨#[ch]⟩) hne (k1 c' rfl).2 (by rw [str_len_app]; have : u.length ≤ p := hul; omega) (k1 c' rfl).1
              -- found[place] = found[here] + toss
              refine ⟨_, rfl, _, rfl, d, _, rfl, by rw [← vu]; exact DGet.k (k := Sum.inl (j : Int)) (s3 _ _ h1), _, rfl, _, _, rfl, rfl, by rw [hch]; omega, _, rfl, _, rfl, d, _, rfl, DPut.k (k := Sum.inl (c' : Int)) (s3 _ _ h1) (by unfold kd; rw [List.length_map]; omega), ?_⟩
              -- waiting.append(place)
              have h2' : (upd (upd H2 z (.tup [.str ⟨#[ch]⟩, .int c'])) d (.dK (putK (kd ps) (Sum.inl (c' : Int)) (.str (u ++ ⟨#[ch]⟩))))) q = some (.lst (wt ps)) := by rw [upd_ne hqd]; exact s3 _ _ h2
              refine ⟨_, rfl, .inl ⟨rfl, _, SqL.mk h2'⟩, _, rfl, q, _, _, rfl, rfl, h2', by unfold wt; rw [List.length_map]; omega, ?_⟩
              obtain ⟨q1, q2⟩ := k2 (ps ++ [(c', u ++ ⟨#[ch]⟩)]) (fun _ h => List.mem_append_left _ h) fun c'' e => (Int.ofNat_inj.mp e) ▸ (by simp)
              refine ⟨ps ++ [(c', u ++ ⟨#[ch]⟩)], _, _, rfl, Same.put (Same.put (s2.trans s3) hd) hqH, ?_, ?_, more, by rw [List.getElem?_append_left hp]; exact hj, q1, q2⟩
              · rw [upd_ne hqd.symm, upd_same, putK_new _ hv, kd_append]
              · rw [upd_same]
                unfold wt
                rw [List.map_append]
                rfl
          · have hc : ¬ c ≥ 0 := of_decide_eq_false hc
            obtain ⟨q1, q2⟩ := k2 ps (fun _ h => h) fun c' e => absurd e (by omega)
            exact ⟨ps, _, _, rfl, s2.trans s3, s3 _ _ h1, s3 _ _ h2, mt, hj, q1, q2⟩
        · rintro σ H' ⟨ps, v6, v7, rfl, s2, h1, h2, mt, hj, c1, c2⟩
          have hlen := mt.len O hb
          have hp : p < ps.length := (List.getElem?_eq_some_iff.mp hj).1
          have hj1 : (ps.map (·.1))[p]? = some j := by rw [List.getElem?_map, hj]; rfl
          refine ⟨.int p, rfl, _, _, rfl, rfl, Tr.length - (p + 1), by omega, p + 1, ps, _, _, _, rfl, rfl, s2, h1, h2, mt.met.next hj1 (c1 (by omega)) (c2 (by omega)), mt.wk, mt.ln⟩
      · have hc : ¬ (p : Int) < (wt ps).length := of_decide_eq_false hc
        rw [wl] at hc
        have e : p = ps.length := by omega
        subst e
        exact ⟨_, rfl, k d ps H' hd s1 h1 mt⟩
theorem All2.vals {Fv : Nat → V} {H : Hp} : ∀ {is : List Nat} {ys : List V}, All2 (fun i y _ => y = Fv i) H is ys → ys = is.map Fv
  | _, _, .nil => rfl
  | _, _, .cons e r => by rw [e, All2.vals r]; rfl
/-! ### dead_nodes -/
abbrev sDeadNodes : Stmt := top 26
def NDeadNodes : List Str := ["tree", "node", "here"]
theorem scDeadNodes : FnScope NDeadNodes ["tree"] (defScope sDeadNodes) := ⟨rfl, rfl, rfl, by decide +kernel, rfl, by decide +kernel, by decide +kernel⟩
noncomputable def deadB (T : SM.Tree) (t : Nat) : Bool := @decide (¬ SM.Live T t) (Classical.propDecidable _)
theorem deadB_t {T : SM.Tree} {t : Nat} : deadB T t = true ↔ ¬ SM.Live T t := by unfold deadB; exact @decide_eq_true_iff _ (Classical.propDecidable _)
theorem deadB_f {T : SM.Tree} {t : Nat} : deadB T t = false ↔ SM.Live T t := by
  unfold deadB
  rw [@decide_eq_false_iff_not _ (Classical.propDecidable _)]
  exact Classical.not_not
noncomputable def deadL (T : SM.Tree) : List Nat := (List.range T.length).filter (deadB T)
def spDead (K : PySem.W.Frag) : Sp := fun vs H Q _ => ∃ (v : V) (T : SM.Tree) (m : Nat), vs = [v] ∧ TD K H v (trD T) ∧ (0 < T.length → SM.Ok m T) ∧ T.length ≤ 60 ∧ ∀ D H', H D = none → Same H H' → H' D = some (.lst ((deadL T).map fun t => V.int (t : Nat))) → Q (.ref D) H'
theorem ok_dead {f f1 : Addr} {fd fd1 : FuncData} (F : FnP K "dead_nodes" sDeadNodes f fd) (T : Tx K mg aN aW) (G_met_from : Def P w K mg base CX0 "met_from" 1 ["tree", "begin"] (spMetFrom K) f1 fd1) : FnOk P w K mg base CX0 2 f fd ["tree"] (spDead K) := by
  refine F.ok scDeadNodes (fun vs H Q E h => ?_) (fun cdv A outer s H vs Q E hr h => ?_)
  · obtain ⟨_, _, _, rfl, _⟩ := h
    rfl
  · obtain ⟨v, Tr, m, rfl, tv, O, h60, k⟩ := h
    have hu := hu_of hr
    obtain ⟨a, xs, rfl, ha, hl, hxs⟩ := tree_td tv
    refine ⟨_, PSs.nox <| (pss_one (ps_ret (pe_lc (own := [("node", 1)]) (g := (gName 1)) (by rfl) scDeadNodes.nd (pi_range1 (by rfl) T.range_ (pa_cons (pe_callB (cLen K) (by rfl) T.len_ (by decide +kernel) (pa_cons (pv 0) pa_nil)) pa_nil)) (blkOk_by (N := NDeadNodes) (sc := defScope sDeadNodes) (by decide +kernel)) (fun _ _ _ _ _ => (pg_name (i := 1) scDeadNodes.nd rfl (lc_ rfl))) (fun _ _ _ _ _ => (pts_one (pt_not (pt_val (pe_callB (cAny K) (by rfl) T.any_ (by decide +kernel) (pa_cons (pe_lc (own := [("here", 2)]) (g := (gName 2)) (tt := tYes) (by rfl) scDeadNodes.nd (piKeysF (dcall G_met_from (hr.mono (by decide)) (pa_cons (pv 0) (pa_cons (pv 1) pa_nil)))) (blkOk_by (N := NDeadNodes) (sc := (relS (lcSc (valE (nthS (defBody sDeadNodes) 0))) (defScope sDeadNodes))) (by decide +kernel)) (fun _ _ _ _ _ => (pg_name (i := 2) scDeadNodes.nd rfl (lc_ rfl))) (fun _ _ _ _ _ => pts_nil) (fun _ _ _ _ _ => (pe_cmp (pc_lt (pe_callB (cMinT K hr.units) (by rfl) T.min_ (by decide +kernel) (pa_cons (pe_ix (ixT K) (pv 0) (pv 2) (fun _ _ => rfl)) pa_nil)) pe_int)))) pa_nil)))))) (fun _ _ _ _ _ => (pv 1))))), ?_⟩
    refine ⟨_, rfl, a, xs, rfl, .inr ha, (xs.length : Nat), rfl, by omega, by omega, fun D hD => ?_⟩
    refine lc_gen (walk_range (lo := 0) (n := xs.length)) (deadB Tr) (fun i y _ => y = .int (i : Nat)) hD (by omega) (fun _ _ => trivial) (fun _ _ _ _ _ _ e _ _ _ => e) ?_ ?_
    · rintro i x H0 H1 k2 els hi s1 ⟨zs, hzs⟩ ⟨rfl, rfl⟩ ky kn
      have hi' : i < Tr.length := by omega
      have O := O (by omega)
      have e0 : (0 : Int) + (i : Int) = i := by omega
      show gName 1 (V.int (0 + (i : Int))) _ _ _
      rw [e0]
      refine ⟨rfl, _, rfl, _, rfl, _, Tr, m, i, rfl, tv.mono (TupEx.of s1), O, h60, hi', fun D2 ps H2 hD2 s2 h2 mt => ?_⟩
      refine ⟨D2, kd ps, rfl, h2, fun o D3 hD3 => ?_⟩
      have s3 : Same H1 (upd H2 D2 (.frz o (.dK (kd ps)))) := Same.put s2 hD2
      have lk : (kd ps).length = ps.length := by unfold kd; rw [List.length_map]
      have lp := mt.len O hi'
      -- min(tree[here]) < 0
      let g : Nat → Bool := fun n => decide (min (SM.tl Tr (ps.getD n (0, "")).1) (SM.tr Tr (ps.getD n (0, "")).1) < 0)
      refine lc_genY (walk_keys (d := D2) (o := o) (kvs := kd ps)) (fun n y _ => y = .bl (g n)) hD3 (by omega) (fun H' s => s _ _ upd_same) (fun _ _ _ _ _ _ e _ _ _ => e) ?_ ?_
      · rintro n x H0' H4 k3 hn s4 hzs2 ⟨rfl, key, vv, hkv, rfl⟩ kk
        rw [lk] at hn
        obtain ⟨r, hr⟩ : ∃ r, ps[n]? = some r := ⟨ps[n], by simp [hn]⟩
        have hkv' : (kd ps)[n]? = some (Sum.inl (r.1 : Int), V.str r.2) := by unfold kd; rw [List.getElem?_map, hr]; rfl
        rw [hkv'] at hkv
        cases hkv
        have rlt : r.1 < Tr.length := mt.met.lt O hi' _ (List.mem_map.mpr ⟨r, List.mem_of_getElem? hr, rfl⟩)
        obtain ⟨t, ht, hts⟩ := hxs r.1 rlt
        have gn : g n = decide (min (SM.tl Tr r.1) (SM.tr Tr r.1) < 0) := by
          show decide (min (SM.tl Tr (ps.getD n (0, "")).1) (SM.tr Tr (ps.getD n (0, "")).1) < 0) = _
          rw [List.getD_eq_getElem?_getD, hr]
          rfl
        have s5 : Same H H4 := s1.trans (s3.trans s4)
        refine ⟨rfl, _, rfl, _, rfl, a, xs, r.1, _, rfl, rfl, Same.sqT s5 ha, atI_nat ht, t, _, _, rfl, Same.sqT s5 hts, _, _, rfl, rfl, kk _ _ (Same.refl _) ?_⟩
        rw [gn]
      · intro ys H4 s4 hy4 a4
        rw [lk] at a4
        have ey := All2.vals (Fv := fun n => V.bl (g n)) a4
        have ev : ys = ((List.range ps.length).map g).map V.bl := by rw [ey, List.map_map]; rfl
        rw [ev] at hy4
        -- any
        have an : ((List.range ps.length).map g).any id = !deadB Tr i := by
          have gi : ∀ n r, ps[n]? = some r → (g n = true ↔ (SM.tl Tr r.1 < 0 ∨ SM.tr Tr r.1 < 0)) := fun n r hr => by
            have gn : g n = decide (min (SM.tl Tr r.1) (SM.tr Tr r.1) < 0) := by
              show decide (min (SM.tl Tr (ps.getD n (0, "")).1) (SM.tr Tr (ps.getD n (0, "")).1) < 0) = _
              rw [List.getD_eq_getElem?_getD, hr]
              rfl
            rw [gn, decide_eq_true_iff]
            omega
          have all := SM.Met.all (js := ps.map (·.1)) (by have := mt.met; rw [List.length_map]; exact this)
          cases hd : deadB Tr i with
          | false =>
            obtain ⟨j, rj, ej⟩ := deadB_f.mp hd
            obtain ⟨r, hr, er⟩ := List.mem_map.mp ((all j).mpr rj)
            obtain ⟨n, hn, en⟩ := List.getElem_of_mem hr
            refine List.any_eq_true.mpr ⟨true, List.mem_map.mpr ⟨n, List.mem_range.mpr hn, ?_⟩, rfl⟩
            exact (gi n r (by rw [List.getElem?_eq_getElem hn, en])).mpr (by rw [er]; exact ej)
          | true =>
            refine List.any_eq_false.mpr fun b hb hbt => ?_
            obtain ⟨n, hn, rfl⟩ := List.mem_map.mp hb
            have hn := List.mem_range.mp hn
            have hr : ps[n]? = some ps[n] := List.getElem?_eq_getElem hn
            have rr := (all _).mp (List.mem_map.mpr ⟨_, List.getElem_mem hn, rfl⟩)
            exact deadB_t.mp hd ⟨_, rr, (gi n _ hr).mp hbt⟩
        refine ⟨D3, (List.range ps.length).map g, rfl, SqL.mk hy4, _, rfl, ?_⟩
        rw [an]
        have s5 : Same H1 H4 := s3.trans s4
        refine iteB2 (b := !(!deadB Tr i)) (fun hb => ?_) (fun hb => kn (by rw [← hb, Bool.not_not]) _ s5)
        exact ⟨_, rfl, ky (by rw [← hb, Bool.not_not]) _ _ s5 rfl⟩
    · intro ys H1 s1 hy1 a1
      have ey := All2.vals (Fv := fun n => V.int (n : Nat)) a1
      rw [ey, hl] at hy1
      exact k D H1 hD s1 hy1
/-- of depth n at most, and laid -/
structure Shp (n : Nat) (d : PyData) : Prop where
  cl : d.canLay0 = true
  dp : d.depth ≤ n
theorem Shp.all {n : Nat} : ∀ {ds : List PyData}, (∀ d ∈ ds, Shp n d) → PyData.canLayAll0 ds = true ∧ PyData.depthAll ds ≤ n
  | [], _ => ⟨rfl, Nat.zero_le _⟩
  | d :: ds, h => by
    obtain ⟨a, b⟩ := Shp.all (ds := ds) fun e he => h e (List.mem_cons_of_mem _ he)
    have q := h d List.mem_cons_self
    exact ⟨by show (d.canLay0 && PyData.canLayAll0 ds) = true; rw [q.cl, a]; rfl, by show max d.depth (PyData.depthAll ds) ≤ n; have := q.dp; omega⟩
theorem Shp.list {n : Nat} {ds : List PyData} (h : ∀ d ∈ ds, Shp n d) : Shp (n + 1) (.list ds) := ⟨(Shp.all h).1, Nat.succ_le_succ (Shp.all h).2⟩
theorem Shp.tuple {n : Nat} {ds : List PyData} (h : ∀ d ∈ ds, Shp n d) : Shp (n + 1) (.tuple ds) := ⟨(Shp.all h).1, Nat.succ_le_succ (Shp.all h).2⟩
theorem Shp.int {n : Nat} (i : Int) : Shp n (.int i) := ⟨rfl, Nat.zero_le _⟩
theorem Shp.mono {n m : Nat} {d : PyData} (h : Shp n d) (l : n ≤ m) : Shp m d := ⟨h.cl, Nat.le_trans h.dp l⟩
theorem Shp.ok {n : Nat} {d : PyData} (h : Shp n d) (l : n ≤ 64) : SeqAt.shaped d = true := by
  show (d.canLay0 && decide (d.depth ≤ 64)) = true
  rw [h.cl, decide_eq_true (Nat.le_trans h.dp l)]
  rfl
theorem shaped_ints (ns : List Int) : SeqAt.shaped (.list (ns.map PyData.int)) = true := (Shp.list (n := 0) fun d hd => by obtain ⟨i, _, rfl⟩ := List.mem_map.mp hd; exact .int i).ok (by decide)
/-! ### does_end -/
abbrev sDoesEnd : Stmt := top 27
def NDoesEnd : List Str := ["many", "tree"]
theorem scDoesEnd : FnScope NDoesEnd ["many", "tree"] (defScope sDoesEnd) := ⟨rfl, rfl, rfl, by decide +kernel, rfl, by decide +kernel, by decide +kernel⟩
def spDoesEnd (K : PySem.W.Frag) : Sp := fun vs H Q _ => ∃ (v : V) (T : SM.Tree) (m : Nat), vs = [.int m, v] ∧ TD K H v (trD T) ∧ 0 < m ∧ (0 < T.length → SM.Ok m T) ∧ T.length ≤ 60 ∧ ∀ b H', Same H H' → (b = true ↔ ∀ t, t < T.length → SM.Live T t) → Q (.bl b) H'
theorem ok_does_end {f f1 : Addr} {fd fd1 : FuncData} (F : FnP K "does_end" sDoesEnd f fd) (G_dead_nodes : Def P w K mg base CX0 "dead_nodes" 2 ["tree"] (spDead K) f1 fd1) : FnOk P w K mg base CX0 3 f fd ["many", "tree"] (spDoesEnd K) := by
  refine F.ok scDoesEnd (fun vs H Q E h => ?_) (fun cdv A outer s H vs Q E hr h => ?_)
  · obtain ⟨_, _, _, rfl, _⟩ := h
    rfl
  · obtain ⟨v, Tr, m, rfl, tv, hm, O, h60, k⟩ := h
    refine ⟨_, PSs.nox <| (pss_one (ps_ret (pe_and (pe_cmp (pc_gt (pv 0) pe_int)) (pe_one (pe_cmpR (oEqD K hr.units) (dcall G_dead_nodes (hr.mono (by decide)) (pa_cons (pv 1) pa_nil)) (pe_lst pa_nil) (nomark _)))))), ?_⟩
    refine ⟨_, rfl, _, _, rfl, rfl, _, rfl, iteB (decide_eq_true (by omega)) ?_⟩
    refine ⟨_, rfl, v, Tr, m, rfl, tv, O, h60, fun D H1 hD s1 h1 => ⟨(by show 0 ≤ sizeLine; decide), fun q hq => ?_⟩⟩
    have s2 : Same H1 (upd H1 q (.lst [])) := Same.new hq
    have e1 : (deadL Tr).map (fun t => V.int (t : Nat)) = ((deadL Tr).map Int.ofNat).map V.int := by rw [List.map_map]; rfl
    rw [e1] at h1
    refine ⟨.list (((deadL Tr).map Int.ofNat).map .int), .list [], .lst (SqL.mk (s2 _ _ h1)) (TDs.ints _).dp, .lst (SqL.mk upd_same) .nil, shaped_ints _, rfl, k _ _ (s1.trans s2) ?_⟩
    have e2 : PyData.eqv (.list (((deadL Tr).map Int.ofNat).map .int)) (.list []) = PyData.eqvAll (((deadL Tr).map Int.ofNat).map .int) (([] : List Int).map .int) := rfl
    rw [e2, eqv_ints, decide_eq_true_iff, List.map_eq_nil_iff]
    unfold deadL
    rw [List.filter_eq_nil_iff]
    constructor
    · intro h t ht
      have := h t (List.mem_range.mpr ht)
      exact deadB_f.mp (by simpa using this)
    · intro h t ht hb
      exact deadB_t.mp hb (h t (List.mem_range.mp ht))
end
end Ser
end
section
set_option maxRecDepth 100000
set_option maxHeartbeats 4000000
namespace Ser
open PySem L2
theorem paStar {X : Cx} (K : PySem.W.Frag) {e : Expr} {es : List Expr} {te : TE} {t : TA} {p : Pos} (he : PE X e te) (hr : PA X es t) (h : X.K = K := by rfl) (hs : starEach (.Starred e p :: es) X.env = (true, eval e X.env) :: starEach es X.env := by rfl) : PA X (.Starred e p :: es) (StX.tStar K te t) := by subst h; exact StX.pa_star he hr hs
theorem rowV_set (M : Nat) (f : Nat → Int) {j : Nat} (v : Int) : (rowV M f).set j (.int v) = rowV M fun x => if x = j then v else f x := by
  refine List.ext_getElem? fun i => ?_
  rw [List.getElem?_set]
  by_cases h : i < M
  · rw [rowV_get h, rowV_get h]
    by_cases e : j = i
    · rw [if_pos e, if_pos (by rw [rowV_len]; omega), if_pos e.symm]
    · rw [if_neg e, if_neg (fun z => e z.symm)]
  · rw [List.getElem?_eq_none (by rw [rowV_len]; omega), List.getElem?_eq_none (by rw [rowV_len]; omega)]
    by_cases e : j = i
    · rw [if_pos e, if_neg (by rw [rowV_len]; omega)]
    · rw [if_neg e]
section
variable {P : Program} {w : World} {K : PySem.W.Frag} {mg : Str → Option Value} {base : Heap} {aN aW : Addr}
theorem rep_row (n : Nat) (c : Int) : (List.replicate ((n : Nat) : Int).toNat [V.int c]).flatten = rowV n fun _ => c := by
  rw [Int.toNat_natCast]
  unfold rowV
  induction n with
  | zero => rfl
  | succ n ih => rw [List.replicate_succ', List.flatten_append, ih, List.range_succ, List.map_append]; rfl
/-! ### sum_of -/
abbrev sSumOf : Stmt := top 28
def NSumOf : List Str := ["many", "nodes", "node", "targets", "factors", "sides", "place"]
theorem scSumOf : FnScope NSumOf ["many", "nodes", "node", "targets"] (defScope sSumOf) := ⟨rfl, rfl, rfl, by decide +kernel, rfl, by decide +kernel, by decide +kernel⟩
def fac (T : SM.Tree) (i k j : Nat) : Int := 2 * SM.ind (i = j) - (if 1 ≤ k then SM.ind (SM.tl T i = (j : Int)) else 0) - (if 2 ≤ k then SM.ind (SM.tr T i = (j : Int)) else 0)
def sid (T : SM.Tree) (i k x : Nat) : Int := (if 1 ≤ k then SM.ind (SM.tl T i = -1 - (x : Int)) else 0) + (if 2 ≤ k then SM.ind (SM.tr T i = -1 - (x : Int)) else 0)
def spSumOf (K : PySem.W.Frag) : Sp := fun vs H Q _ => ∃ (v : V) (T : SM.Tree) (m i : Nat), vs = [.int m, .int (T.length : Nat), .int i, v] ∧ TD K H v (frD (SM.tl T i, SM.tr T i)) ∧ SM.Ok m T ∧ T.length ≤ 60 ∧ 0 < m ∧ m ≤ 12 ∧ i < T.length ∧
  ∀ D H', H D = none → Same H H' → H' D = some (.lst (rowV (T.length + (m + 1)) fun j => SM.cc m T j i)) → Q (.ref D) H'
theorem ok_sum_of {f : Addr} {fd : FuncData} (F : FnP K "sum_of" sSumOf f fd) : FnOk P w K mg base CX0 1 f fd ["many", "nodes", "node", "targets"] (spSumOf K) := by
  refine F.ok scSumOf (fun vs H Q E h => ?_) (fun cdv A outer s H vs Q E hr h => ?_)
  · obtain ⟨_, _, _, _, rfl, _⟩ := h
    rfl
  · obtain ⟨v, T, m, i, rfl, tv, O, h60, hm, hm12, hi, k⟩ := h
    obtain ⟨b, rfl, hb⟩ := tv.fr
    refine ⟨_, PSs.nox <| (pss_cons (ps_par (i := 4) (j := 5) rfl scSumOf.nd rfl rfl (by decide) rfl rfl (pa_cons (pe_op op_rep (pe_lst (pa_cons pe_int pa_nil)) (pv 1)) (pa_cons (pe_op op_rep (pe_lst (pa_cons pe_int pa_nil)) (pv 0)) pa_nil)) (by rfl))
      (pss_cons (ps_asg pe_int (pg_sub (pv 4) (pv 2) set_list))
      (pss_cons (ps_for PassesOwn.never rfl (piT K (pv 3)) (pg_name (i := 6) scSumOf.nd rfl (lc_ rfl)) (pss_one (ps_if (pt_cmp (pc_lt (pv 6) pe_int)) (pss_one (ps_augS (pv 5) (pe_op op_sub (pe_un un_neg pe_int) (pv 6)) (get_list K) pe_int ip_add set_list)) (pss_one (ps_augS (pv 4) (pv 6) (get_list K) pe_int ip_sub set_list)))))
      (pss_one (ps_ret (pe_lst (paStar K (pv 4) (paStar K (pv 5) (pa_cons pe_int pa_nil))))))))), ?_⟩
    have q0 : (100000 : Nat) ≤ sizeLine := by decide
    refine ⟨(by show 1 ≤ sizeLine; omega), fun p1 hp1 => ⟨_, rfl, p1, _, _, rfl, rfl, upd_same, by omega, by omega, by rw [Int.toNat_natCast]; show 1 * T.length ≤ sizeLine; omega, fun A1 hA1 => ?_⟩⟩
    refine ⟨(by show 1 ≤ sizeLine; omega), fun p2 hp2 => ⟨_, rfl, p2, _, _, rfl, rfl, upd_same, by omega, by omega, by rw [Int.toNat_natCast]; show 1 * m ≤ sizeLine; omega, fun B1 hB1 => ?_⟩⟩
    rw [rep_row, rep_row]
    rw [rep_row] at hp2 hB1
    generalize e1 : upd H p1 (.lst [V.int 0]) = H1 at hA1 hp2 hB1 ⊢
    have s1 : Same H H1 := by rw [← e1]; exact Same.new hp1
    generalize e2 : upd H1 A1 (.lst (rowV T.length fun _ => 0)) = H2 at hp2 hB1 ⊢
    have s2 : Same H1 H2 := by rw [← e2]; exact Same.new hA1
    have a2 : H2 A1 = some (.lst (rowV T.length fun _ => 0)) := by rw [← e2]; exact upd_same
    generalize e3 : upd H2 p2 (.lst [V.int 0]) = H3 at hB1 ⊢
    have s3 : Same H2 H3 := by rw [← e3]; exact Same.new hp2
    have hA : H A1 = none := s1.free hA1
    have hB : H B1 = none := (s1.trans (s2.trans s3)).free hB1
    have ne : A1 ≠ B1 := fun z => by rw [← z, s3 _ _ a2] at hB1; cases hB1
    have s4 : Same H (upd H3 B1 (.lst (rowV m fun _ => 0))) := Same.put (s1.trans (s2.trans s3)) hB
    have a4 : (upd H3 B1 (.lst (rowV m fun _ => 0))) A1 = some (.lst (rowV T.length fun _ => 0)) := by rw [upd_ne ne]; exact s3 _ _ a2
    refine ⟨_, _, rfl, ?_⟩
    -- factors[node] = 2
    refine ⟨_, rfl, _, rfl, A1, _, (i : Int), i, rfl, rfl, a4, ixN_nat (by rw [rowV_len]; exact hi), ?_⟩
    rw [rowV_set]
    -- for place in targets
    refine ⟨_, rfl, b, rfl, ⟨_, Same.sqT (Same.put s4 hA) hb⟩, ?_⟩
    refine for_it (walk_tup (xs := [V.int (SM.tl T i), V.int (SM.tr T i)])) (fun k σ H' => ∃ v6 : Option V, σ = [some (.int m), some (.int (T.length : Nat)), some (.int i), some (.ref b), some (.ref A1), some (.ref B1), v6] ∧ Same H H' ∧ H' A1 = some (.lst (rowV T.length (fac T i k))) ∧ H' B1 = some (.lst (rowV m (sid T i k))))
      ⟨none, rfl, Same.put s4 hA, ?_, ?_⟩ (fun k σ H' _ ⟨_, _, s, _⟩ => Same.sqT s hb) ?_ ?_
    · rw [upd_same]
      congr 2
      refine rowV_congr fun j hj => ?_
      unfold fac SM.ind
      by_cases e : j = i
      · subst e; simp
      · rw [if_neg e, if_neg (fun z => e z.symm)]; simp
    · rw [upd_ne (Ne.symm ne), upd_same]
      congr 2
    · rintro k2 x σ H5 H6 hk ⟨v6, rfl, s5, h1, h2⟩ ⟨rfl, hx⟩
      have key : ∃ c : Int, x = .int c ∧ -(m : Int) ≤ c ∧ c < T.length ∧ (∀ j, fac T i (k2 + 1) j = fac T i k2 j - SM.ind (c = (j : Int))) ∧ ∀ j, sid T i (k2 + 1) j = sid T i k2 j + SM.ind (c = -1 - (j : Int)) := by
        have : k2 = 0 ∨ k2 = 1 := by have : k2 < 2 := hk; omega
        rcases this with rfl | rfl
        · cases hx
          exact ⟨_, rfl, (O.rl i hi).1, (O.rl i hi).2, fun j => by simp [fac], fun j => by simp [sid]⟩
        · cases hx
          exact ⟨_, rfl, (O.rr i hi).1, (O.rr i hi).2, fun j => by simp [fac], fun j => by simp [sid]⟩
      obtain ⟨c, rfl, c1, c2, f1, f2⟩ := key
      refine ⟨_, rfl, _, _, rfl, rfl, _, rfl, iteB2 (fun hc => ?_) (fun hc => ?_)⟩
      · have hc : c < 0 := of_decide_eq_true hc
        have ex : ∃ x : Nat, x < m ∧ c = -1 - (x : Int) := ⟨(-1 - c).toNat, by omega, by omega⟩
        obtain ⟨x, hxm, rfl⟩ := ex
        have ei : (-1 : Int) - (-1 - (x : Int)) = (x : Int) := by omega
        refine ⟨_, rfl, _, rfl, _, rfl, _, _, rfl, rfl, ?_⟩
        refine ⟨B1, _, (x : Int), _, rfl, congrArg V.int ei, SqL.mk h2, atI_nat (rowV_get hxm), _, _, rfl, rfl, B1, _, (x : Int), x, rfl, congrArg V.int ei, h2, ixN_nat (by rw [rowV_len]; exact hxm), some (.int (-1 - (x : Int))), rfl, Same.put s5 hB, ?_, ?_⟩
        · rw [upd_ne ne, h1]
          congr 2
          exact rowV_congr fun j hj => by rw [f1, SM.ind_f (by omega)]; omega
        · rw [upd_same, rowV_set]
          congr 2
          refine rowV_congr fun j hj => ?_
          rw [f2]
          by_cases e : j = x
          · rw [if_pos e, e, SM.ind_t rfl]
          · rw [if_neg e, SM.ind_f (by omega)]; omega
      · have hc : ¬ c < 0 := of_decide_eq_false hc
        obtain ⟨j0, rfl⟩ : ∃ j0 : Nat, c = (j0 : Int) := ⟨c.toNat, by omega⟩
        have hj0 : j0 < T.length := by omega
        refine ⟨_, rfl, _, rfl, A1, _, (j0 : Int), _, rfl, rfl, SqL.mk h1, atI_nat (rowV_get hj0), _, _, rfl, rfl, A1, _, (j0 : Int), j0, rfl, rfl, h1, ixN_nat (by rw [rowV_len]; exact hj0), some (.int (j0 : Int)), rfl, Same.put s5 hA, ?_, ?_⟩
        · rw [upd_same, rowV_set]
          congr 2
          refine rowV_congr fun j hj => ?_
          rw [f1]
          by_cases e : j = j0
          · rw [if_pos e, e, SM.ind_t rfl]
          · rw [if_neg e, SM.ind_f (by omega)]; omega
        · rw [upd_ne (Ne.symm ne), h2]
          congr 2
          exact rowV_congr fun j hj => by rw [f2, SM.ind_f (by omega)]; omega
    · rintro σ H5 ⟨v6, rfl, s5, h1, h2⟩
      have ev : rowV T.length (fac T i 2) ++ (rowV m (sid T i 2) ++ [V.int 2]) = rowV (T.length + (m + 1)) fun j => SM.cc m T j i := by
        refine List.ext_getElem? fun j => ?_
        by_cases g1 : j < T.length
        · rw [List.getElem?_append_left (by rw [rowV_len]; exact g1), rowV_get g1, rowV_get (by omega)]
          unfold SM.cc fac
          rw [if_pos g1]
          simp
        · rw [List.getElem?_append_right (by rw [rowV_len]; omega), rowV_len]
          by_cases g2 : j - T.length < m
          · rw [List.getElem?_append_left (by rw [rowV_len]; exact g2), rowV_get g2, rowV_get (by omega)]
            unfold SM.cc sid
            rw [if_neg g1, if_pos (show j < T.length + m by omega)]
            have e : ((j - T.length : Nat) : Int) = (j : Int) - (T.length : Int) := by omega
            rw [e]
            simp
          · rw [List.getElem?_append_right (by rw [rowV_len]; omega), rowV_len]
            by_cases g3 : j = T.length + m
            · subst g3
              rw [rowV_get (by omega), show T.length + m - T.length - m = 0 by omega]
              unfold SM.cc
              rw [if_neg (by omega), if_neg (by omega)]
              rfl
            · rw [List.getElem?_eq_none (by simp; omega), List.getElem?_eq_none (by rw [rowV_len]; omega)]
      refine ⟨_, rfl, A1, _, rfl, .inr (SqL.mk h1), _, rfl, B1, _, rfl, .inr (SqL.mk h2), ?_⟩
      show (rowV T.length (fac T i 2) ++ (rowV m (sid T i 2) ++ [V.int 2])).length ≤ sizeLine ∧ ∀ p, H5 p = none → Q (.ref p) (upd H5 p (.lst (rowV T.length (fac T i 2) ++ (rowV m (sid T i 2) ++ [V.int 2]))))
      rw [ev]
      refine ⟨by rw [rowV_len]; omega, fun p hp => k p _ (s5.free hp) (Same.put s5 (s5.free hp)) upd_same⟩
end
end Ser
end
section
set_option maxRecDepth 100000
set_option maxHeartbeats 4000000
namespace Ser
open PySem L2
theorem pMinLen {X : Cx} (K : PySem.W.Frag) {e : Expr} {te : TA} {p p2 p3 pos : Pos} (hg : Gl X "min") (hm : X.mg "min" = none) (hg2 : Gl X "len") (hm2 : X.mg "len" = none) (ha : PA X [e] te) (hc : X.calm = true := by rfl) (h : X.K = K := by rfl)
    (he : backTo pos (starEach [e] X.env) = (false, eval e X.env) :: backTo pos (starEach [] X.env) := by rfl) (hpl : (backTo pos (starEach [e] X.env)).any (·.1) = false := by rfl) :
    PE X (.Call (.Name "min" p) [e] [⟨some "key", .Name "len" p2, p3⟩] pos) (tMinLen K te) := by subst h; exact pe_minLen hc hg hm hg2 hm2 ha he hpl
section
variable {P : Program} {w : World} {K : PySem.W.Frag} {mg : Str → Option Value} {base : Heap} {aN aW : Addr}
theorem eqv_nil (ns : List Int) : PyData.eqv (.list (ns.map PyData.int)) (.list []) = decide (ns = []) := by
  have e2 : PyData.eqv (.list (ns.map PyData.int)) (.list []) = PyData.eqvAll (ns.map PyData.int) (([] : List Int).map PyData.int) := rfl
  rw [e2, eqv_ints]
theorem TDs.take {K : PySem.W.Frag} {H : Hp} : ∀ {vs : List V} {ds : List PyData}, TDs K H vs ds → ∀ n, TDs K H (vs.take n) (ds.take n)
  | _, _, _, 0 => .nil
  | _, _, .nil, n + 1 => .nil
  | _, _, .cons a r, n + 1 => .cons a (TDs.take r n)
def txt (ps : List (Nat × Str)) (t : Nat) : Str := match valV (kd ps) (Sum.inl (t : Int)) with
  | some (.str u) => u
  | _ => ""
theorem txt_at {ps : List (Nat × Str)} {p : Nat × Str} (hn : (ps.map (·.1)).Nodup) (h : p ∈ ps) : txt ps p.1 = p.2 := by
  unfold txt
  rw [kd_some hn h]
theorem deadL_mem {T : SM.Tree} {t : Nat} : t ∈ deadL T ↔ t < T.length ∧ ¬ SM.Live T t := by
  unfold deadL
  rw [List.mem_filter, List.mem_range, deadB_t]
/-! ### tree_paper -/
abbrev sTreePaper : Stmt := top 29
def NTreePaper : List Str := ["many", "tree", "dead", "ways", "node", "found", "targets", "row"]
theorem scTreePaper : FnScope NTreePaper ["many", "tree"] (defScope sTreePaper) := ⟨rfl, rfl, rfl, by decide +kernel, rfl, by decide +kernel, by decide +kernel⟩
/-- the papers -/
def papE (u : Str) : PyData := .tuple [.str "endless", .str u]
def rowD (m : Nat) (T : SM.Tree) (t : Nat) : PyData := .tuple ((List.range m).map fun x => frD (SM.shF m T t x))
def papF (m : Nat) (T : SM.Tree) : PyData := .tuple [.str "ends", .tuple ((List.range T.length).map (rowD m T)), .tuple ((List.range T.length).map fun t => frD (SM.mnF m T t))]
/-- a tree that all begins at the node 0 -/
structure Va (m : Nat) (T : SM.Tree) : Prop where
  ok : SM.Ok m T
  ro : ∀ t, t < T.length → SM.Reach T 0 t
  le : T.length ≤ 60
  m0 : 0 < m
  m12 : m ≤ 12
def AllLive (T : SM.Tree) : Prop := ∀ t, t < T.length → SM.Live T t
def spTreePaper (K : PySem.W.Frag) : Sp := fun vs H Q _ => ∃ (v : V) (T : SM.Tree) (m : Nat), vs = [.int m, v] ∧ TD K H v (trD T) ∧ Va m T ∧ (∀ v' H', Same H H' → AllLive T → TD K H' v' (papF m T) → Q v' H') ∧
  ∀ v' H' u t, Same H H' → t < T.length → ¬ SM.Live T t → Wk T 0 u t → u.length ≤ 60 → TD K H' v' (papE u) → Q v' H'
theorem ok_tree_paper {f f1 f2 f3 f4 : Addr} {fd fd1 fd2 fd3 fd4 : FuncData} (F : FnP K "tree_paper" sTreePaper f fd) (T : Tx K mg aN aW) (G_dead_nodes : Def P w K mg base CX0 "dead_nodes" 2 ["tree"] (spDead K) f1 fd1)
    (G_met_from : Def P w K mg base CX0 "met_from" 1 ["tree", "begin"] (spMetFrom K) f2 fd2) (G_solved : Def P w K mg base CX0 "solved" 3 ["table"] (spSolved K) f3 fd3) (G_sum_of : Def P w K mg base CX0 "sum_of" 1 ["many", "nodes", "node", "targets"] (spSumOf K) f4 fd4) :
    FnOk P w K mg base CX0 4 f fd ["many", "tree"] (spTreePaper K) := by
  refine F.ok scTreePaper (fun vs H Q E h => ?_) (fun cdv A outer s H vs Q E hr h => ?_)
  · obtain ⟨_, _, _, rfl, _⟩ := h
    rfl
  · obtain ⟨v, Tr, m, rfl, tv, V0, kF, kE⟩ := h
    have hu := hu_of hr
    have O := V0.ok
    have h60 := V0.le
    obtain ⟨a, xs, rfl, ha, hl, hxs⟩ := tree_td tv
    refine ⟨_, PSs.nox <| (pss_cons (ps_set (i := 2) scTreePaper.nd rfl (lc_ rfl) (dcall G_dead_nodes (hr.mono (by decide)) (pa_cons (pv 1) pa_nil)))
      (pss_cons (ps_if (pt_cmpR (oNeD K hr.units) (pv 2) (pe_lst pa_nil) (nomark _)) (pss_cons (ps_set (i := 3) scTreePaper.nd rfl (lc_ rfl) (dcall G_met_from (hr.mono (by decide)) (pa_cons (pv 1) (pa_cons pe_int pa_nil))))
      (pss_one (ps_ret (pe_tup (pa_cons (pe_gs T.endless) (pa_cons (pMinLen K (by rfl) T.min_ (by rfl) T.len_ (pa_cons (pe_lc (own := [("node", 4)]) (g := (gName 4)) (tt := tYes) (by rfl) scTreePaper.nd (piL K (pv 2)) (blkOk_by (N := NTreePaper) (sc := defScope sTreePaper) (by decide +kernel)) (fun _ _ _ _ _ => (pg_name (i := 4) scTreePaper.nd rfl (lc_ rfl))) (fun _ _ _ _ _ => pts_nil) (fun _ _ _ _ _ => (pe_dget hu (pv 3) (pv 4) (fun _ _ => rfl)))) pa_nil)) pa_nil)))))) pss_nil)
      (pss_cons (ps_set (i := 5) scTreePaper.nd rfl (lc_ rfl) (dcall G_solved (hr.mono (by decide)) (pa_cons (pe_lc (own := [("node", 4), ("targets", 6)]) (g := (gTup K 2 (gCons (gName 4) (gCons (gName 6) gNil)))) (tt := tYes) (by rfl) scTreePaper.nd (piEnumT K (by rfl) T.enumerate_ (pa_cons (pv 1) pa_nil)) (blkOk_by (N := NTreePaper) (sc := defScope sTreePaper) (by decide +kernel)) (fun _ _ _ _ _ => (gTup' K (pgs_cons (pg_name (i := 4) scTreePaper.nd rfl (lc_ rfl)) (pgs_cons (pg_name (i := 6) scTreePaper.nd rfl (lc_ rfl)) pgs_nil)))) (fun _ _ _ _ _ => pts_nil) (fun _ _ _ _ _ => (dcall G_sum_of (hr.mono (by decide)) (pa_cons (pv 0) (pa_cons (pe_callB (cLen K) (by rfl) T.len_ (by decide +kernel) (pa_cons (pv 1) pa_nil)) (pa_cons (pv 4) (pa_cons (pv 6) pa_nil))))))) pa_nil)))
      (pss_one (ps_ret (pe_tup (pa_cons (pe_gs T.ends) (pa_cons (pe_callTy (cTuple K) (by rfl) T.tuple_ (by decide +kernel) (pa_cons (pe_lc (own := [("row", 7)]) (g := (gName 7)) (tt := tYes) (by rfl) scTreePaper.nd (piL K (pv 5)) (blkOk_by (N := NTreePaper) (sc := defScope sTreePaper) (by decide +kernel)) (fun _ _ _ _ _ => (pg_name (i := 7) scTreePaper.nd rfl (lc_ rfl))) (fun _ _ _ _ _ => pts_nil) (fun _ _ _ _ _ => (pe_slice (slT K) (pv 7) po_none (po_some (pe_un un_neg pe_int))))) pa_nil)) (pa_cons (pe_callTy (cTuple K) (by rfl) T.tuple_ (by decide +kernel) (pa_cons (pe_lc (own := [("row", 7)]) (g := (gName 7)) (tt := tYes) (by rfl) scTreePaper.nd (piL K (pv 5)) (blkOk_by (N := NTreePaper) (sc := defScope sTreePaper) (by decide +kernel)) (fun _ _ _ _ _ => (pg_name (i := 7) scTreePaper.nd rfl (lc_ rfl))) (fun _ _ _ _ _ => pts_nil) (fun _ _ _ _ _ => (pe_ix (ixT K) (pv 7) (pe_un un_neg pe_int) (fun _ _ => rfl)))) pa_nil)) pa_nil))))))))), ?_⟩
    have q0 : (100000 : Nat) ≤ sizeLine := by decide
    refine ⟨_, rfl, _, Tr, m, rfl, tv, fun _ => O, h60, fun D1 H1 hD1 s1 h1 => ?_⟩
    have e1 : (deadL Tr).map (fun t => V.int (t : Nat)) = ((deadL Tr).map Int.ofNat).map V.int := by rw [List.map_map]; rfl
    have ld : (deadL Tr).length ≤ 60 := by
      have := List.length_filter_le (deadB Tr) (List.range Tr.length)
      rw [List.length_range] at this
      exact Nat.le_trans this h60
    refine ⟨_, rfl, (by show 0 ≤ sizeLine; omega), fun q hq => ?_⟩
    have s2 : Same H1 (upd H1 q (.lst [])) := Same.new hq
    refine ⟨.list (((deadL Tr).map Int.ofNat).map .int), .list [], .lst (SqL.mk (s2 _ _ (by rw [← e1]; exact h1))) (TDs.ints _).dp, .lst (SqL.mk upd_same) .nil, shaped_ints _, rfl, ?_⟩
    rw [eqv_nil]
    refine ⟨_, rfl, iteB2 (fun hb => ?_) (fun hb => ?_)⟩
    · -- a paper of tosses
      have hne : deadL Tr ≠ [] := by
        rw [Bool.not_eq_true', decide_eq_false_iff_not] at hb
        exact fun e => hb (by rw [e]; rfl)
      refine ⟨_, rfl, _, Tr, m, 0, rfl, tv.mono (TupEx.of (s1.trans s2)), O, h60, O.pos, fun D2 ps H2 hD2 s3 h2 mt => ?_⟩
      have h1' : H2 D1 = some (.lst ((deadL Tr).map fun t => V.int (t : Nat))) := s3 _ _ (s2 _ _ h1)
      refine ⟨_, rfl, D1, rfl, ⟨_, SqL.mk h1'⟩, fun D3 hD3 => ?_⟩
      refine lc_genY (walk_list (xs := (deadL Tr).map fun t => V.int (t : Nat))) (fun i y _ => y = .str (txt ps ((deadL Tr).getD i 0))) hD3 (by rw [List.length_map]; omega) (fun H' s => SqL.mk (s _ _ h1')) (fun _ _ _ _ _ _ e _ _ _ => e) ?_ ?_
      · rintro i x H0' H4 k3 hi s4 _ ⟨rfl, hx⟩ kk
        rw [List.getElem?_map] at hx
        obtain ⟨t, ht, rfl⟩ := Option.map_eq_some_iff.mp hx
        have hm := deadL_mem.mp (List.mem_of_getElem? ht)
        have all := SM.Met.all (js := ps.map (·.1)) (by have := mt.met; rw [List.length_map]; exact this)
        obtain ⟨r, hr, er⟩ := List.mem_map.mp ((all t).mpr (V0.ro t hm.1))
        have hv := kd_some mt.met.nd hr
        rw [er] at hv
        refine ⟨rfl, _, rfl, _, rfl, D2, .str r.2, rfl, by rw [← hv]; exact DGet.k (k := Sum.inl (t : Int)) (s4 _ _ h2), kk _ _ (Same.refl _) ?_⟩
        rw [List.getD_eq_getElem?_getD, ht, Option.getD_some, ← er, txt_at mt.met.nd hr]
      · intro ys H4 s4 hy4 a4
        rw [List.length_map] at a4
        have ey : ys = ((deadL Tr).map (txt ps)).map V.str := by
          rw [All2.vals (Fv := fun i => V.str (txt ps ((deadL Tr).getD i 0))) a4]
          refine List.ext_getElem? fun i => ?_
          simp only [List.getElem?_map, List.getElem?_range']
          by_cases h : i < (deadL Tr).length
          · simp [h, List.getD_eq_getElem?_getD]
          · simp [h, List.getElem?_eq_none (show (deadL Tr).length ≤ i by omega)]
        rw [ey] at hy4
        have all := SM.Met.all (js := ps.map (·.1)) (by have := mt.met; rw [List.length_map]; exact this)
        have good : ∀ t ∈ deadL Tr, Wk Tr 0 (txt ps t) t ∧ (txt ps t).length ≤ 60 := fun t ht => by
          obtain ⟨r, hr, er⟩ := List.mem_map.mp ((all t).mpr (V0.ro t (deadL_mem.mp ht).1))
          obtain ⟨n, hn, en⟩ := List.getElem_of_mem hr
          have l1 := mt.ln n r (by rw [List.getElem?_eq_getElem hn, en])
          have l2 := mt.len O O.pos
          have e3 := txt_at mt.met.nd hr
          rw [er] at e3
          rw [e3]
          have w1 := mt.wk r hr
          rw [er] at w1
          exact ⟨w1, by omega⟩
        refine ⟨D3, (deadL Tr).map (txt ps), rfl, SqL.mk hy4, ?_, ?_, fun x hx _ => ?_⟩
        · rw [List.length_map]; exact List.length_pos_iff.mpr hne
        · intro x hx
          obtain ⟨t, ht, rfl⟩ := List.mem_map.mp hx
          have := (good t ht).2
          omega
        · obtain ⟨t, ht, rfl⟩ := List.mem_map.mp hx
          have hd := deadL_mem.mp ht
          refine ⟨(by show 2 ≤ sizeLine; omega), fun p hp => ?_⟩
          exact kE _ _ _ t (((s1.trans s2).trans (s3.trans s4)).trans (Same.new hp)) hd.1 hd.2 (good t ht).1 (good t ht).2 (.tup (SqT.mk upd_same) (.cons (.str _) (.cons (.str _) .nil)))
    · -- a paper of shares
      have hlive : AllLive Tr := fun t ht => by
        rw [Bool.not_eq_false', decide_eq_true_iff, List.map_eq_nil_iff] at hb
        refine deadB_f.mp ?_
        cases hd : deadB Tr t with
        | false => rfl
        | true =>
          have := deadL_mem.mpr ⟨ht, deadB_t.mp hd⟩
          rw [hb] at this
          cases this
      generalize hH2 : upd H1 q (.lst []) = H2 at s2 ⊢
      have s12 := s1.trans s2
      -- the table
      refine ⟨_, rfl, a, xs, rfl, Same.sqT s12 ha, fun D3 hD3 => ?_⟩
      refine lc_genY walk_pr (fun i y H => ∃ q, y = V.ref q ∧ q ≠ D3 ∧ H q = some (.lst (rowV (Tr.length + (m + 1)) fun j => SM.cc m Tr j i))) hD3 (by omega) (fun H' s => Same.sqT (s12.trans s) ha) rows_st ?_ ?_
      · rintro i x H3 H4 k3 hi s3 ⟨zs, hzs⟩ ⟨t, x1, x2, rfl, ht, rfl, hx1, hx2⟩ kk
        cases hx1
        have hi' : i < Tr.length := by omega
        obtain ⟨tq, htq, htqs⟩ := hxs i hi'
        have hx2 : xs[i]? = some x2 := hx2
        rw [htq] at hx2
        cases hx2
        have s4 : Same H3 (upd H3 t (.tup [.int i, .ref tq])) := Same.new ht
        have s5 : Same H _ := (s12.trans s3).trans s4
        refine ⟨t, _, rfl, SqT.mk upd_same, rfl, _, _, rfl, _, _, rfl, rfl, rfl, ?_⟩
        refine ⟨_, rfl, _, rfl, a, xs, rfl, .inr (Same.sqT s5 ha), _, rfl, _, rfl, .ref tq, Tr, m, i, by rw [hl]; rfl, TD.fr_mk (Same.sqT s5 htqs), O, h60, V0.m0, V0.m12, hi', fun D4 H5 hD4 s6 h5 => kk _ _ (s4.trans s6) ⟨D4, rfl, ?_, h5⟩⟩
        intro z
        subst z
        rw [s4 _ _ hzs] at hD4
        cases hD4
      · intro ys H3 s3 hy3 a3
        rw [hl] at a3
        obtain ⟨qs, rfl, ql, hq⟩ := rows_of a3
        have hm12 := V0.m12
        refine ⟨D3, qs, Tr.length, m + 1, SM.cc m Tr, rfl, SqL.mk hy3, ql, h60, by omega, fun i b hb => SqL.mk (hq i b hb), SM.cc_abs m Tr, SM.minors hlive, fun D5 zs H5 hD5 s5 h5 t5 => ?_⟩
        have s35 : Same H H5 := (s12.trans s3).trans s5
        have zl : zs.length = Tr.length := by
          have := t5.length
          unfold solD at this
          rw [List.length_map, List.length_range] at this
          exact this
        -- the i-th row
        have rowi : ∀ i x, zs[i]? = some x → i < Tr.length ∧ ∃ (q : Addr) (us : List V), x = .ref q ∧ SqT K H5 q us ∧ us.length = m + 1 ∧ TDs K H5 us ((List.range (m + 1)).map fun x => frD (SM.fr (SM.ee (SM.cc m Tr) Tr.length i (Tr.length + x)) (SM.D Tr.length (SM.cc m Tr)))) := fun i x hx => by
          obtain ⟨d, hd, td⟩ := t5.at hx
          have hi : i < Tr.length := by have := (List.getElem?_eq_some_iff.mp hx).1; omega
          unfold solD at hd
          rw [List.getElem?_map, List.getElem?_range hi] at hd
          cases hd
          obtain ⟨q, us, e, hq, tu⟩ := td.tuple
          refine ⟨hi, q, us, e, hq, ?_, tu⟩
          have := tu.length
          rw [List.length_map, List.length_range] at this
          exact this
        refine ⟨_, rfl, D5, rfl, ⟨_, SqL.mk h5⟩, fun D6 hD6 => ?_⟩
        refine lc_tdY (K := K) (walk_list (xs := zs)) (rowD m Tr) hD6 (by omega) (fun H' s => SqL.mk (s _ _ h5)) ?_ ?_
        · rintro i x H0' H6 k6 hi s6 ⟨ws, hws⟩ ⟨rfl, hx⟩ kk
          obtain ⟨hi', q, us, rfl, hq, ul, tu⟩ := rowi i x hx
          have c0 : HT.sIx us.length us.length (some (-1)) = m := by
            have := HT.clip_eq (-1) us.length us.length
            rw [if_pos (by decide)] at this
            omega
          have c1 : ¬ (HT.sIx us.length 0 none = 0 ∧ HT.sIx us.length us.length (some (-1)) = us.length) := by rw [c0]; omega
          refine ⟨rfl, _, rfl, _, rfl, _, rfl, q, us, rfl, Same.sqT s6 hq, fun z => absurd z c1, fun _ p hp => ?_⟩
          have ec : cutV us none (some (-1)) = us.take m := by
            unfold cutV
            rw [c0]
            rfl
          have s7 : Same H6 (upd H6 p (.tup (cutV us none (some (-1))))) := Same.new hp
          refine kk _ _ s7 (.tup (SqT.mk upd_same) ?_)
          rw [ec] at s7 ⊢
          have tk := TDs.take (tu.mono (TupEx.of (s6.trans s7))) m
          rw [← List.map_take, List.take_range, Nat.min_eq_left (by omega)] at tk
          exact tk
        · intro ys6 H6 s6 hy6 t6
          rw [zl] at t6
          refine ⟨D6, ys6, rfl, .inl ⟨SqL.mk hy6, fun l6 hl6 => ?_⟩⟩
          have s7 : Same H6 (upd H6 l6 (.tup ys6)) := Same.new hl6
          have s57 : Same H5 _ := s6.trans s7
          refine ⟨_, rfl, D5, rfl, ⟨_, SqL.mk (s57 _ _ h5)⟩, fun D8 hD8 => ?_⟩
          refine lc_tdY (K := K) (walk_list (xs := zs)) (fun t => frD (SM.mnF m Tr t)) hD8 (by omega) (fun H' s => SqL.mk (s _ _ (s57 _ _ h5))) ?_ ?_
          · rintro i x H0' H8 k8 hi s8 ⟨ws, hws⟩ ⟨rfl, hx⟩ kk
            obtain ⟨hi', q, us, rfl, hq, ul, tu⟩ := rowi i x hx
            obtain ⟨v, hv, tv'⟩ := tu.get (show _ = some (frD (SM.mnF m Tr i)) by rw [List.getElem?_map, List.getElem?_range (show m < m + 1 by omega)]; rfl)
            have lst : atI us (-1) = some v := by
              unfold atI ixN
              rw [if_neg (by decide), if_pos (by omega)]
              show us[((-1 : Int) + (us.length : Int)).toNat]? = some v
              rw [show ((-1 : Int) + (us.length : Int)).toNat = m by omega]
              exact hv
            refine ⟨rfl, _, rfl, _, rfl, q, us, -1, v, rfl, rfl, Same.sqT (s57.trans s8) hq, lst, kk _ _ (Same.refl _) (tv'.mono (TupEx.of (s57.trans s8)))⟩
          · intro ys8 H8 s8 hy8 t8
            rw [zl] at t8
            refine ⟨D8, ys8, rfl, .inl ⟨SqL.mk hy8, fun l8 hl8 => ?_⟩⟩
            have s9 : Same H8 (upd H8 l8 (.tup ys8)) := Same.new hl8
            refine ⟨(by show 3 ≤ sizeLine; omega), fun p hp => ?_⟩
            have sp : Same _ (upd (upd H8 l8 (.tup ys8)) p (.tup [.str "ends", .ref l6, .ref l8])) := Same.new hp
            refine kF _ _ (s35.trans (s57.trans (s8.trans (s9.trans sp)))) hlive (.tup (SqT.mk upd_same) (.cons (.str _) (.cons (.tup (Same.sqT (s8.trans (s9.trans sp)) (SqT.mk upd_same)) (t6.mono (TupEx.of (s7.trans (s8.trans (s9.trans sp)))))) (.cons (.tup (Same.sqT sp (SqT.mk upd_same)) (t8.mono (TupEx.of (s9.trans sp)))) .nil))))
end
end Ser
end
section
set_option maxRecDepth 100000
set_option maxHeartbeats 4000000
set_option autoImplicit false
/-! an own exception over an own base, whose __init__ says super().__init__(x) and keeps x -/
namespace PySem
namespace SupX
open PySem.W PySem.Calls PyProof.Rows PySem.HandSPX
section
open Builtin Builtin.ObjectAttr
variable {prog : Program} {w : World} {A : Around} {E : Value → Shared → Prop} {R : Result → Shared → Prop} {hp : Heap} {g : Array GenState} {d : Drawn} {t : Nat} {os : OsState}
/-- the first store, the own dict is made -/
theorem osa_two {K : W.Frag} {name : Str} {tk : Tok} {v : Value} {x C S : Addr} {fv : Array Value} {cd : ClassData}
    (X : K.In hp) (hx : hp.get? x = some { cls := .ref C, data := .fields fv }) (hcd : W.clsIn K C = some cd) (hm : cd.mro = .ref C :: .ref S :: ESX.exTail) (hh : cd.hasDict = true) (ha : W.findIn K (.ref C) name = some none)
    (hq : ∀ h' tk' dx, (∀ b o, b ≠ x → hp.get? b = some o → h'.get? b = some o) → hp.objs.size ≤ dx → dx ≠ x → h'.get? x = some { cls := .ref C, dict := some dx, data := .fields fv } →
      h'.Ns1 dx (fun y => if y = name then some v else none) → R (.ok (.ret .none)) ⟨h', g, d, tk', os⟩) :
    codeAny (model prog w) A (.call (.builtin "object.__setattr__") ⟨[.ref x, .str name tk, v], []⟩) R ⟨hp, g, d, t, os⟩ := by
  have I0 : W.InstAt hp x { cls := .ref C, data := .fields fv } C none := ⟨hx, rfl, rfl, trivial⟩
  have apart : x ≠ hp.objs.size := Nat.ne_of_lt (Heap.lt_size hx)
  have SF := F.store_object
  have below : W.Looks (model prog w) hp (isInstance (.ref x) (.type "object")) true := by
    refine I0.type.andThen (W.looks_mroIn X ?_)
    unfold W.mroIn
    rw [hcd, Option.bind_some, hm, if_neg (show ¬ (List.isEmpty (Value.ref C :: Value.ref S :: ESX.exTail) = true) from Bool.false_ne_true), List.contains_cons, List.contains_cons, show (ESX.exTail.contains (Value.type "object")) = true by decide +kernel, Bool.or_true, Bool.or_true]
  have pass : refuseLoop (.ref x) "__setattr__" cd.mro = pure () := by
    rw [hm, refuseLoop_ref, refuseLoop_ref]
    exact F.store_Exception.passes _
  have lm : W.Looks (model prog w) hp (mroOf (.ref C)) cd.mro := (W.looks_clsIn X hcd).andThen .now
  have lt : W.Looks (model prog w) hp (storeTaker? none) none := .now
  have lc : W.Looks (model prog w) hp (classData C) cd := W.looks_clsIn X hcd
  refine codeAny_call_builtin SF.slot.plain SF.entry (@W.check_slot (model prog w) _ _ ⟨hp, g, d, t, os⟩ "object.__setattr__" "object" "__setattr__" (.ref x) [.str name tk, v] [] _ SF.kind SF.split below (SF.args (.ref x) (.str name tk) v) ?_)
  rw [W.osa_eq, refuse_eq]
  refine wpAny_bind (wpAny_bind (I0.type.at (wpAny_bind (lm.at ?_))))
  rw [pass]
  refine wpAny_pure (wpAny_bind (I0.type.at (wpAny_bind ((W.looks_findIn X ha).at (wpAny_bind (lt.at ?_))))))
  show wpAny _ _ (storeInOwnDict (.ref x) (.ref C) (.str name tk) name v false) _ _ _
  obtain ⟨nm, bs, mro, ns, qn, hd, sn, sb, ab, col, del⟩ := cd
  dsimp only at hh
  subst hh
  unfold storeInOwnDict ownDictForStores
  repeat (first | with_reducible refine HandSPX.store_in_new ?_ ?_ | with_reducible refine wpAny_loadPart_at hx ?_ | with_reducible refine lc.at ?_ | wp_step)
  · exact ⟨_, #[], _, (Heap.get?_update_ne _ _ _ _ apart.symm).trans (Heap.get?_push_at rfl rfl), rfl, fun e he => absurd he (by simp), fun _ => rfl⟩
  · intro h' tk' hn' hs
    have hx1 : (hp.push { cls := .type "dict", data := .dict #[] }).get? x = some { cls := .ref C, data := .fields fv } := Heap.get?_push_of_some _ hx
    refine hq h' tk' hp.objs.size (fun b o hb ho => ?_) (Nat.le_refl _) apart.symm ((hs.2 x apart).trans (Heap.get?_update_self _ hx1 rfl)) hn'
    exact (hs.2 b (Nat.ne_of_lt (Heap.lt_size ho))).trans ((Heap.get?_update_ne _ _ _ _ hb).trans (Heap.get?_push_of_some _ ho))
end
/-- the text of such an __init__(self, f) -/
def iA (f : Str) (p1 p2 : Pos) : Arguments := { posonlyargs := [], args := [{ arg := "self", annotation := none, pos := p1 }, { arg := f, annotation := none, pos := p2 }], vararg := none, kwonlyargs := [], kw_defaults := [], kwarg := none, defaults := [] }
def iB (f : Str) (q1 q2 q3 q4 q5 q6 q7 q8 q9 : Pos) : List Stmt := [.Expr (.Call (.Attribute (.Call (.Name "super" q1) [] [] q2) "__init__" q3) [.Name f q4] [] q5) q5, .Assign [.Attribute (.Name "self" q6) f q7] (.Name f q8) q9]
/-- where it stands -/
structure Qs where
  (p1 p2 q1 q2 q3 q4 q5 q6 q7 q8 q9 : Pos)
def Qs.ar (Z : Qs) (f : Str) : Arguments := iA f Z.p1 Z.p2
def Qs.bd (Z : Qs) (f : Str) : List Stmt := iB f Z.q1 Z.q2 Z.q3 Z.q4 Z.q5 Z.q6 Z.q7 Z.q8 Z.q9
/-- what the written part says of the class at C (called x, its __init__ at fI keeps its argument f), over the class at S -/
structure SupTxt (prog : Program) (K : Frag) (mg : Str → Option Value) (x f qual : Str) (sc : Scope) (Z : Qs) (C S fI : Addr) : Prop where
  gC : mg x = some (.ref C)
  cls : ∃ nm q N bs sn sub ab col dd k0 k1 k2 k3 k5, K.lookup C = some (excClassObj nm q C N bs (.ref S :: ESX.exTail) true sn sub ab col dd k0 k1 k2 k3 k5 "Exception.__new__")
  sa : findIn K (.ref C) "__setattr__" = some (some (.builtin "object.__setattr__"))
  noN : findIn K (.ref C) f = some none
  iC : findIn K (.ref C) "__init__" = some (some (.ref fI))
  tI : typeIn K (.ref fI) = some (.type "function")
  kC : keepIn K (.ref C) = true
  exC : subIn K (.ref C) (.type "BaseException") = some true
  tyC : typeIn K (.ref C) = some (.type "type")
  fn : ∃ (oc : Value) (od : Option Addr) (doc pm : Value) (an : Option Addr) (cda : Addr) (ct : Value) (cc : Addr) (osl : Array (Option Value)) (ccl : Value) (cdd : Option Addr) (ccs : Array (Option Value)) (vs : Array Value) (file : Str) (tf : Tok) (cl : Value) (cld : Option Addr) (csl : Array (Option Value)),
    K.lookup fI = some ⟨oc, od, .func (ksFn "__init__" qual (Z.ar f) (Z.bd f) sc .none .none doc pm an (.ref cda) ct cc), osl⟩ ∧ codeIn K (.ref cda) qual = true ∧ K.lookup cda = some ⟨ccl, cdd, .fields vs, ccs⟩ ∧ vs[2]? = some (.str file tf) ∧ ((prog.main.file : Str) == file) = true ∧
    K.lookup cc = some ⟨cl, cld, .cell (some (.ref C)), csl⟩
  exE : mroIn K C (.type "Exception") = some true
  cC : mroIn K C (.ref C) = some true
  sI : alongIn K "__init__" (.ref S :: ESX.exTail) = some (some (.builtin "Exception.__init__"))
  noP : nsIn K cStatics "thirdparty.any" = some none
  noS : mg "super" = none
  top : (prog.main.scope.names.lookup ("super" : Str)).isSome = false
  k1 : sc.names.lookup ("self" : Str) = some .local
  k2 : sc.names.lookup f = some .local
  k3 : sc.names.lookup ("super" : Str) = some .globalImplicit
  k4 : sc.names.lookup ("__class__" : Str) = some .free
  k5 : ∀ x ∈ sc.names, x.2 ≠ .cell
  k6 : sc.kind = .function ∧ sc.isCoroutine = false ∧ sc.isGenerator = false
  bn : ∀ (doc pm : Value) (an : Option Addr) (cdv ct : Value) (cc : Addr) (a b : Value), bindArgs (ksFn "__init__" qual (Z.ar f) (Z.bd f) sc .none .none doc pm an cdv ct cc) ⟨[a, b], []⟩ = pure [(("self" : Str), a), (f, b)]
  ev : ∀ env : Env, ∃ pl : Sem Bool, eval (.Call (.Attribute (.Call (.Name "super" Z.q1) [] [] Z.q2) "__init__" Z.q3) [.Name f Z.q4] [] Z.q5) env = (do
      let ov ← attributeBase (.Call (.Name "super" Z.q1) [] [] Z.q2) "__init__" env (eval (.Call (.Name "super" Z.q1) [] [] Z.q2) env)
      standAt Z.q3.atName
      let (f', first) ← holding [ov] (getMethod ov "__init__" pl)
      callWith Z.q5 f' first (backTo Z.q5 (starEach [.Name f Z.q4] env)) [])
  s1 : ∀ env : Env, swapsWith (.Call (.Attribute (.Call (.Name "super" Z.q1) [] [] Z.q2) "__init__" Z.q3) [.Name f Z.q4] [] Z.q5) none Z.q5.line env = pure false
  s2 : ∀ env : Env, swapsWith (.Name f Z.q8) (some (.Attribute (.Name "self" Z.q6) f Z.q7)) Z.q9.line env = pure false
  nf : ("self" : Str) ≠ f ∧ (f == ("__debug__" : Str)) = false ∧ f ≠ "__class__"
section
variable {prog : Program} {w : World} {A : Around} {E : Value → Shared → Prop} {R : Result → Shared → Prop} {s : Shared} {K : Frag} {mg mb : Str → Option Value} {x f qual : Str} {sc : Scope} {Z : Qs} {C S fI : Addr}
theorem sup_init (T : SupTxt prog K mg x f qual sc Z C S fI) {e t0 : Addr} {v : Value} (X : K.In s.heap) (hg : s.heap.Ns mainGlobals mg) (hb : s.heap.Ns builtinsNs mb) (hbb : ∀ x : Str, x ≠ "__name__" → mb x = bootBuiltins x) (hlim : s.heap.NoLimit)
    (he : s.heap.get? e = some (excO C t0)) (hne : K.lookup e = none) (hroom : A.depth < recursionLimit)
    (hq : ∀ h' tk dx t1, (∀ b o, b ≠ e → s.heap.get? b = some o → h'.get? b = some o) → h'.get? e = some { cls := .ref C, dict := some dx, data := .fields #[.ref t1, .none, .none, .none, .bool false, .none] } → s.heap.objs.size ≤ dx → dx ≠ e → h'.Ns1 dx (fun y => if y = f then some v else none) →
      R (.ok (.ret .none)) { s with heap := h', toks := tk }) :
    codeAny (model prog w) A (.call (.ref fI) ⟨[.ref e, v], []⟩) R s := by
  obtain ⟨oc, od, doc, pm, an, cda, ct, cc, osl, ccl, cdd, ccs, vs, file, tf, cl, cld, csl, ho, hcd, hcode, hvs, hfile, hcell⟩ := T.fn
  obtain ⟨nm, q, N, bs, sn, sub, ab, col, dd, k0, k1, k2, k3, k5, hC⟩ := T.cls
  have hcl : clsIn K C = some { name := nm, bases := bs, mro := .ref C :: .ref S :: ESX.exTail, ns := N, qualname := q, hasDict := true, slotNames := sn, subclasses := sub, abstract := ab, collection := col, hasDel := false } := by unfold clsIn; rw [hC] <;> rfl
  refine ks_codeAny_call_defAt (binds := [("self", .ref e), (f, v)]) hroom (X _ _ ho) rfl hlim (codeRec_of X hcd) rfl (BindsTo.of_eq (T.bn _ _ _ _ _ _ _ _)) T.k5 (fun y hy => ?_) ?_ T.k6.2.1 T.k6.2.2 T.k6.1
  · simp only [List.mem_cons, List.not_mem_nil, or_false] at hy
    rcases hy with rfl | rfl
    · exact T.k1
    · exact T.k2
  intro h₁ hn hk
  have X₁ : K.In h₁ := X.keeps hk
  have he₁ := hk _ _ he
  have ms : (fun x => ([("self", .ref e), (f, v)] : List (Str × Value)).reverse.lookup x) "self" = some (.ref e) := by
    show List.lookup ("self" : Str) [(f, v), ("self", .ref e)] = _
    have : (("self" : Str) == f) = false := by simpa using T.nf.1
    simp [List.lookup, this]
  have mf : (fun x => ([("self", .ref e), (f, v)] : List (Str × Value)).reverse.lookup x) f = some v := by
    show List.lookup f [(f, v), ("self", .ref e)] = _
    simp [List.lookup]
  have I0 : InstAt h₁ e (excO C t0) C none := ⟨he₁, rfl, rfl, trivial⟩
  have hin : Looks (model prog w) h₁ (isInstance (.ref e) (.type "Exception")) true := I0.type.andThen (looks_mroIn X₁ T.exE)
  have lm : Looks (model prog w) h₁ (mroOf (.ref C)) (.ref C :: .ref S :: ESX.exTail) := (looks_clsIn X₁ hcl).andThen .now
  have eC : e ≠ C := ks_ne X₁ I0 hcl
  have hs0 : s.heap.objs.size ≤ h₁.objs.size := Nat.le_of_lt hn.lt
  obtain ⟨hp, g, d, tk, os⟩ := s
  dsimp only at *
  -- super().__init__(x)
  obtain ⟨pl, hpl⟩ := T.ev (callEnv (ksFn "__init__" qual (Z.ar f) (Z.bd f) sc .none .none doc pm an (.ref cda) ct cc) hp.objs.size fI)
  have hi : interactive (callEnv (ksFn "__init__" qual (Z.ar f) (Z.bd f) sc .none .none doc pm an (.ref cda) ct cc) hp.objs.size fI) = false := by
    unfold interactive
    rw [show (callEnv (ksFn "__init__" qual (Z.ar f) (Z.bd f) sc .none .none doc pm an (.ref cda) ct cc) hp.objs.size fI).scope.kind = .function from T.k6.1]
    rfl
  refine ks_wpAt_execs_cons (ks_wpAt_Expr_any (ks_wpAt_MethodCall (pl := pl) ?_ hpl) hi (T.s1 _))
  refine ks_wpAt_super_base T.k3 T.k4 (by decide) rfl (X₁ _ _ ho) rfl rfl rfl (X₁ _ _ hcode) rfl hvs hfile T.top ?_
  refine ks_loadName_global T.k6.1 T.k3 (loadGlobal_builtin (hg.keeps hk) T.noS (hb.keeps hk) ((hbb _ (by decide +kernel)).trans (show bootBuiltins "super" = some (.type "super") by decide +kernel)) ⟨rfl, ?_⟩)
  refine wpAny_loadName_free T.k6.1 T.k4 rfl ⟨_, X₁ _ _ hcell, rfl⟩ ?_
  refine wpAny_loadName_local T.k6.1 T.k1 hn ms ?_
  refine ks_wpAny_isType_cls (X₁ _ _ hC) rfl ⟨rfl, ?_⟩
  refine ks_wpAny_call_super (X₁ _ _ hC) rfl he₁ rfl (fun c e => nomatch e) (looks_mroIn X₁ T.cC) (fun h₂ hso k₂ => ?_)
  have X₂ : K.In h₂ := X₁.keeps k₂
  refine ESX.getMethod_super hso (looks_opaque X₂ T.noP) (lm.keeps k₂) (ESX.drop_own C (.ref S :: ESX.exTail)) X₂ T.sI eC (by decide) (hin.keeps k₂) ?_
  have hn₂ : (h₂.push (ESX.bw e)).Ns hp.objs.size _ := (hn.keeps k₂).keeps fun b o q => Heap.get?_push_of_some _ q
  have k₃ : ∀ b o, h₁.get? b = some o → (h₂.push (ESX.bw e)).get? b = some o := fun b o q => Heap.get?_push_of_some _ (k₂ b o q)
  refine ESX.callWith_bound (x := e) ?_ rfl rfl
  show wpAny _ _ (spliced ((false, eval (.Name f Z.q4) _) :: backTo Z.q5 [])) _ _ _
  have X₃ : K.In (h₂.push (ESX.bw e)) := X₁.keeps k₃
  refine Calls.spliced_cons (wpAny_Name (wpAny_loadName_local T.k6.1 T.k2 hn₂ mf ?_) T.nf.2.1)
  refine Calls.spliced_nil ⟨Heap.get?_push_at rfl rfl, ?_⟩
  refine ESX.call_bw (X₃ _ _ hC) (k₃ _ _ he₁) (Heap.get?_push_at rfl rfl) (show 1 ≤ sizeLine by decide) (fun h₄ t1 k₄ he₄ => ?_)
  -- self.f = f
  have hL : hp.objs.size ≠ e := Nat.ne_of_gt (Heap.lt_size he)
  have hCe : ∀ b o, K.lookup b = some o → b ≠ e := fun b o q z => by
    rw [z, hne] at q
    cases q
  have X₄ : K.In h₄ := fun b o q => k₄ b o (hCe b o q) (X₃ b o q)
  have hn₄ : h₄.Ns hp.objs.size _ := hn₂.at fun o q => k₄ _ _ hL q
  refine ks_wpAt_execs_cons (ks_wpAt_Assign_Attr ?_ (T.s2 _))
  refine wpAt_of_wpAny (wpAny_Name (wpAny_loadName_local T.k6.1 T.k2 hn₄ mf ?_) T.nf.2.1)
  refine wpAny_Name (wpAny_loadName_local T.k6.1 T.k1 hn₄ ms ?_) (by decide)
  refine set_plain X₄ (ox := excO C t1) (od := none) ⟨he₄, rfl, rfl, trivial⟩ T.sa ?_
  refine osa_two X₄ he₄ hcl rfl rfl T.noN (fun h₅ tk₅ dx k₅ dn dne he₅ hns₅ => ?_)
  have keep : ∀ b o, b ≠ e → hp.get? b = some o → h₅.get? b = some o := fun b o hb q => k₅ b o hb (k₄ b o hb (k₃ b o (hk b o q)))
  have big : hp.objs.size ≤ dx := Nat.le_of_lt (Nat.lt_of_lt_of_le hn₄.lt dn)
  exact wpAt_of_wpAny (wpAny_execs_nil (hq h₅ tk₅ dx t1 keep he₅ big dne hns₅))
/-- C(v) -/
structure Made (h h' : Heap) (e C d : Addr) (f : Str) (v : Value) : Prop where
  keep : ∀ b o, h.get? b = some o → h'.get? b = some o
  new : h.objs.size ≤ e
  obj : ∃ oe vs, h'.get? e = some oe ∧ oe.cls = .ref C ∧ oe.dict = some d ∧ oe.data = .fields vs ∧ vs[1]? = some .none
  dbig : h.objs.size ≤ d
  dne : d ≠ e
  ns : h'.Ns1 d (fun y => if y = f then some v else none)
theorem tail_same {S : Addr} (X : String) : (Value.ref S :: ESX.exTail).contains (.type X) = ESX.exTail.contains (.type X) := by
  rw [List.contains_cons]
  rfl
theorem sup_made (T : SupTxt prog K mg x f qual sc Z C S fI) {v : Value} (X : K.In s.heap) (hg : s.heap.Ns mainGlobals mg) (hb : s.heap.Ns builtinsNs mb) (hbb : ∀ x : Str, x ≠ "__name__" → mb x = bootBuiltins x) (hlim : s.heap.NoLimit) (hroom : A.depth + 1 < recursionLimit)
    (hq : ∀ h' tk e d, Made s.heap h' e C d f v → R (.ok (.ret (.ref e))) { s with heap := h', toks := tk }) :
    codeAny (model prog w) A (.call (.ref C) ⟨[v], []⟩) R s := by
  obtain ⟨nm, q, N, bs, sn, sub, ab, col, dd, k0, k1, k2, k3, k5, hC⟩ := T.cls
  obtain ⟨hp, g, dr, tk, os⟩ := s
  have k : ∀ b o, hp.get? b = some o → ((hp.push (kdv_tup [v])).push (excO C hp.objs.size)).get? b = some o := fun b o e => Heap.get?_push_of_some _ (Heap.get?_push_of_some _ e)
  have at1 : ((hp.push (kdv_tup [v])).push (excO C hp.objs.size)).get? (hp.objs.size + 1) = some (excO C hp.objs.size) := by heap_get
  have out : K.lookup (hp.objs.size + 1) = none := by
    cases e : K.lookup (hp.objs.size + 1) with
    | none => rfl
    | some o => exact absurd (Nat.lt_of_succ_lt (Heap.lt_size (show hp.get? (hp.objs.size + 1) = some o from X _ _ e))) (Nat.lt_irrefl _)
  refine call_own F.excBase_Exception (fun X => tail_same X) (X _ _ hC) (looks_findIn X T.iC) (fun self => bind_fn X self T.tI) (show 1 ≤ sizeLine by decide) ?_
  refine sup_init (s := ⟨(hp.push (kdv_tup [v])).push (excO C hp.objs.size), g, dr, tk, os⟩) T (X.keeps k) (hg.keeps k) (hb.keeps k) hbb (hlim.keeps k) at1 out (show A.depth + 1 < recursionLimit from hroom) fun h' tk' dx t1 k' hx dn dne hns => ?_
  have old : ∀ b o, hp.get? b = some o → h'.get? b = some o := fun b o e => k' b o (Nat.ne_of_lt (Nat.lt_succ_of_lt (Heap.lt_size e))) (k b o e)
  have z : hp.objs.size + 1 + 1 ≤ dx := by
    have q : ((hp.push (kdv_tup [v])).push (excO C hp.objs.size)).objs.size ≤ dx := dn
    rw [Heap.size_push, Heap.size_push] at q
    exact q
  exact ⟨rfl, hq h' tk' (hp.objs.size + 1) dx ⟨old, Nat.le_succ _, ⟨_, _, hx, rfl, rfl, rfl, rfl⟩, Nat.le_trans (Nat.le_trans (Nat.le_succ _) (Nat.le_succ _)) z, dne, hns⟩⟩
end
end SupX
end PySem
namespace Ser
open PySem PySem.Spec PyProof.Rows L2
theorem relO_one {f : Str} {v : V} {v' : Value} (r : RelV v v') (g : Str) : RelO (List.lookup g [(f, v)]) (if g = f then some v' else none) := by
  by_cases h : g = f
  · subst h
    rw [if_pos rfl]
    have q : List.lookup g [(g, v)] = some v := by simp [List.lookup]
    rw [q]
    exact r
  · rw [if_neg h]
    have q : List.lookup g [(f, v)] = none := by
      have : (g == f) = false := by simpa using h
      simp [List.lookup, this]
    rw [q]
    trivial
/-- C(e) -/
def tMkS (C : Addr) (f : Str) (ta : TA) : L2.St → Hp → XK → Prop := fun σ H Q => ta σ H fun vs H1 => ∃ v, vs = [v] ∧ ∀ d, H1 d = none → Q (.ref C) (some d) (upd H1 d (.xd [(f, v)]))
theorem pmk_sup {X : Cx} {x f qual : Str} {sc : Scope} {Z : SupX.Qs} {C S fI : Addr} {a : Expr} {ta : TA} {p pos : Pos} {k : Nat} (T : SupX.SupTxt X.prog X.K X.mg x f qual sc Z C S fI) (hr : Room k X.A) (ha : PA X [a] ta) (hg : Gl X x := by rfl) (hd : (x == ("__debug__" : Str)) = false := by decide)
    (he : starEach (a :: []) X.env = (false, eval a X.env) :: starEach [] X.env := by rfl) (hpl : (backTo pos (starEach [] X.env)).any (·.1) = false := by rfl) :
    PMk X (.Call (.Name x p) [a] [] pos) (tMkS C f ta) := by
  intro pins s σ H Q I h
  refine wpAny_Call_Name_kw (ld_glob I hg T.gC ?_ hd)
  refine PySem.W.callWith_K (h₀ := X.base) I.ok.mod.kin T.kC (thn (ha.run pos pins s σ H _ I h) fun us s1 hh => ?_) he hpl
  obtain ⟨vs, H1, I1, r1, v, ev, q1⟩ := hh
  subst ev
  refine ⟨I1.kIn, ?_⟩
  cases r1 with
  | cons rv rn =>
    rename_i v' us'
    cases rn
    show wpAny _ _ (call (.ref C) [v']) _ _ _
    have hlim := I1.nolimit
    have bk : ∀ b o, X.base.get? b = some o → s1.heap.get? b = some o := I1.bk
    obtain ⟨mb, hmb, hbb⟩ := I1.ok.mod.blt
    have ng := I1.ok.mod.glob.keeps bk
    have nb := hmb.keeps bk
    obtain ⟨hp, g, dr, tk, os⟩ := s1
    refine wpAny_call (SupX.sup_made T I1.kIn ng nb hbb hlim (by have := hr.dp; show X.A.depth + 1 < _; omega) fun h' tk' e d M => ?_)
    show MkP X pins σ Q (.ref e) ⟨h', g, dr, tk', os⟩
    obtain ⟨oe, fv, hoe, hc, hdd, hdat, h1⟩ := M.obj
    obtain ⟨G, g1, g2⟩ := restrict h' fun b => decide (b ≠ e)
    have gk : ∀ b, b ≠ e → G.get? b = h'.get? b := fun b hb => g1 b (decide_eq_true hb)
    have ge : G.get? e = none := g2 e (by simp)
    have old : ∀ b o, hp.get? b = some o → G.get? b = some o := fun b o q => (gk b (Nat.ne_of_lt (Nat.lt_of_lt_of_le (Heap.lt_size q) M.new))).trans (M.keep b o q)
    have ob : ObjOk X.prog X.w (upd H1 d (.xd [(f, v)])) G d (.xd [(f, v)]) := ⟨_, M.ns.at (fun o q => (gk d M.dne).trans q), fun y => relO_one rv y⟩
    have J : Inv X pins σ (upd H1 d (.xd [(f, v)])) ⟨G, g, dr, tk', os⟩ := I1.laid (t' := tk') old M.dbig ob
    refine ⟨e, oe, fv, ⟨G, g, dr, tk', os⟩, _, .ref C, some d, rfl, J, fun b o q => ?_, ge, hoe, ⟨hc, hdd⟩, hdat, h1, ?_, rfl, I1.bare, raises_own T.exC T.tyC, q1 d (I1.hok.fresh M.dbig)⟩
    · by_cases hb : b = e
      · have q' : G.get? b = some o := q
        rw [hb, ge] at q'; cases q'
      · exact (gk b hb).symm.trans q
    · rw [upd_ne (Ne.symm M.dne)]
      exact I1.hok.fresh M.new
end Ser
end
section
set_option maxRecDepth 100000
set_option maxHeartbeats 4000000
namespace Ser
open PySem L2
theorem pe_gr {X : Cx} {x : Str} {a : Addr} {pos : Pos} (h : X.mg x = some (.ref a)) (hg : Gl X x := by rfl) (hd : (x == ("__debug__" : Str)) = false := by decide) : PE X (.Name x pos) (tC (.ref a)) := pe_glob (v := .ref a) (u := .ref a) hg h rfl hd
theorem passL' {X : Cx} : Passes (L2.CX X.prog X.w) X E0 := fun _ _ _ _ _ _ _ ⟨_, _, _, _, _, _, _, _, _, _, _, _, z⟩ => z.elim
abbrev scI (f : Str) : Scope := { kind := .function, names := [(PySem.Str.ofString "self", .local), (f, .local), (PySem.Str.ofString "super", .globalImplicit), (PySem.Str.ofString "__class__", .free)], isGenerator := false, isCoroutine := false, more := [] }
section
variable {P : Program} {w : World} {K : PySem.W.Frag} {mg : Str → Option Value} {base : Heap} {aN aW : Addr}
theorem Shp.fr (x : Int × Int) : Shp 1 (frD x) := Shp.tuple (n := 0) fun d hd => by
  simp only [List.mem_cons, List.not_mem_nil, or_false] at hd
  rcases hd with rfl | rfl <;> exact .int _
theorem Shp.tree (T : SM.Tree) : Shp 2 (trD T) := Shp.tuple fun d hd => by
  obtain ⟨x, _, rfl⟩ := List.mem_map.mp hd
  exact .fr x
theorem eqv_tree (T : SM.Tree) : PyData.eqv (trD T) (.tuple []) = decide (T = []) := by
  cases T with
  | nil => rfl
  | cons x T => rfl
/-! ### told_of -/
abbrev sToldOf : Stmt := top 30
def NToldOf : List Str := ["many", "tree", "paper"]
theorem scToldOf : FnScope NToldOf ["many", "tree"] (defScope sToldOf) := ⟨rfl, rfl, rfl, by decide +kernel, rfl, by decide +kernel, by decide +kernel⟩
def toldE : PyData := .tuple [.tuple [frD (1, 1)], frD (0, 1)]
def toldD (m : Nat) (T : SM.Tree) : PyData := .tuple [rowD m T 0, frD (SM.mnF m T 0)]
/-- no node of a dead end there, and a row of tosses to it -/
def DeadAt (T : SM.Tree) (u : Str) : Prop := ∃ t, t < T.length ∧ ¬ SM.Live T t ∧ Wk T 0 u t ∧ u.length ≤ 60
/-- what is raised -/
def RaisesE (K : PySem.W.Frag) (CE : Addr) (T : SM.Tree) (H : Hp) (E : XK) : Prop := ∀ d H' y u, H d = none → Same H H' → H' d = some (.xd [(("paper" : Str), y)]) → TD K H' y (papE u) → DeadAt T u → E (.ref CE) (some d) H'
def spToldOf (K : PySem.W.Frag) (CE : Addr) : Sp := fun vs H Q E => ∃ (v : V) (T : SM.Tree) (m : Nat), vs = [.int m, v] ∧ TD K H v (trD T) ∧
  ((T = [] ∧ ∀ v' H', Same H H' → TD K H' v' toldE → Q v' H') ∨ (Va m T ∧ (AllLive T → ∀ v' H', Same H H' → TD K H' v' (toldD m T) → Q v' H') ∧ (¬ AllLive T → RaisesE K CE T H E)))
theorem ok_told {f f1 CE SE fE : Addr} {fd fd1 : FuncData} {qE : Str} {ZE : SupX.Qs} {scE : Scope} (F : FnP K "told_of" sToldOf f fd) (T : Tx K mg aN aW) (G_tree_paper : Def P w K mg base CX0 "tree_paper" 4 ["many", "tree"] (spTreePaper K) f1 fd1)
    (GE : SupX.SupTxt P K mg "Endless" "paper" qE scE ZE CE SE fE) : FnOk P w K mg base (L2.CX P w) 5 f fd ["many", "tree"] (spToldOf K CE) := by
  refine F.ok scToldOf (fun vs H Q E h => ?_) (fun cdv A outer s H vs Q E hr h => ?_)
  · obtain ⟨_, _, _, rfl, _⟩ := h
    rfl
  · obtain ⟨v, Tr, m, rfl, tv, h⟩ := h
    refine ⟨_, (pss_cons (ps_if (pt_cmpR (oEqD K hr.units) (pv 1) (pe_tup pa_nil) (nomark _)) (pss_one (ps_ret (pe_tup (pa_cons (pe_tup (pa_cons (pe_gr T.whole) pa_nil)) (pa_cons (pe_gr T.nought) pa_nil))))) pss_nil)
      (pss_cons (ps_set (i := 2) scToldOf.nd rfl (lc_ rfl) (dcall G_tree_paper (hr.mono (by decide)) (pa_cons (pv 0) (pa_cons (pv 1) pa_nil))))
      (pss_cons (ps_if (pt_cmpR op_eq (pe_ix (ixT K) (pv 2) pe_int (fun _ _ => rfl)) (pe_gs T.endless) (nomark _)) (pss_one (ps_raise rfl (takes_of rfl rfl rfl rfl) (pmk_sup (fI := fE) GE hr (pa_cons (pv 2) pa_nil)))) pss_nil)
      (pss_one (ps_ret (pe_tup (pa_cons (pe_ix (ixT K) (pe_ix (ixT K) (pv 2) pe_int (fun _ _ => rfl)) pe_int (fun _ _ => rfl)) (pa_cons (pe_ix (ixT K) (pe_ix (ixT K) (pv 2) pe_int (fun _ _ => rfl)) pe_int (fun _ _ => rfl)) pa_nil)))))))), ?_⟩
    have q0 : (100000 : Nat) ≤ sizeLine := by decide
    refine ⟨_, rfl, (by show 0 ≤ sizeLine; omega), fun q hq => ?_⟩
    have s1 : Same H (upd H q (.tup [])) := Same.new hq
    refine ⟨trD Tr, .tuple [], (tv.mono (TupEx.of s1)).dp, .tup (SqT.mk upd_same) .nil, (Shp.tree Tr).ok (by decide), rfl, ?_⟩
    rw [eqv_tree]
    refine ⟨_, rfl, iteB2 (fun hb => ?_) (fun hb => ?_)⟩
    · have e := of_decide_eq_true hb
      subst e
      rcases h with ⟨_, k⟩ | ⟨V0, _⟩
      · refine ⟨(by show 1 ≤ sizeLine; omega), fun p1 hp1 => ⟨(by show 2 ≤ sizeLine; omega), fun p2 hp2 => ?_⟩⟩
        have s2 : Same (upd H q (.tup [])) (upd (upd H q (.tup [])) p1 (.tup [.ref aW])) := Same.new hp1
        have s3 : Same (upd (upd H q (.tup [])) p1 (.tup [.ref aW])) (upd (upd (upd H q (.tup [])) p1 (.tup [.ref aW])) p2 (.tup [.ref p1, .ref aN])) := Same.new hp2
        exact k _ _ (s1.trans (s2.trans s3)) (.tup (SqT.mk upd_same) (.cons (.tup (Same.sqT s3 (SqT.mk upd_same)) (.cons (TD.fr_mk (T.whole_at _)) .nil)) (.cons (TD.fr_mk (T.nought_at _)) .nil)))
      · exact absurd V0.ok.pos (by simp)
    · have hne := of_decide_eq_false hb
      rcases h with ⟨e, _⟩ | ⟨V0, kL, kD⟩
      · exact absurd e hne
      · refine ⟨_, rfl, _, rfl, v, Tr, m, rfl, tv.mono (TupEx.of s1), V0, fun v' H2 s2 hL t2 => ?_, fun v' H2 u t s2 ht hd hw hu t2 => ?_⟩
        · obtain ⟨a, xs, rfl, ha, hx⟩ := t2.tuple
          cases hx with
          | cons h1 hx =>
            cases hx with
            | cons h2 hx =>
              cases hx with
              | cons h3 hx =>
                cases hx
                have := h1.str_
                subst this
                obtain ⟨b, ys, rfl, hb2, hy⟩ := h2.tuple
                obtain ⟨c, zs, rfl, hc2, hz⟩ := h3.tuple
                have hpos := V0.ok.pos
                obtain ⟨r, hr, tr⟩ := hy.get (show _ = some (rowD m Tr 0) by rw [List.getElem?_map, List.getElem?_range hpos]; rfl)
                obtain ⟨n, hn, tn⟩ := hz.get (show _ = some (frD (SM.mnF m Tr 0)) by rw [List.getElem?_map, List.getElem?_range hpos]; rfl)
                refine ⟨_, rfl, a, _, 0, .str "ends", rfl, rfl, ha, rfl, rfl, _, rfl, iteBF (by decide) ?_⟩
                refine ⟨_, rfl, a, _, 1, _, rfl, rfl, ha, rfl, b, _, 0, _, rfl, rfl, hb2, atI_nat hr, ?_⟩
                refine ⟨_, rfl, a, _, 2, _, rfl, rfl, ha, rfl, c, _, 0, _, rfl, rfl, hc2, atI_nat hn, (by show 2 ≤ sizeLine; omega), fun p hp => ?_⟩
                have s3 : Same H2 (upd H2 p (.tup [r, n])) := Same.new hp
                exact kL hL _ _ (s1.trans (s2.trans s3)) (.tup (SqT.mk upd_same) (.cons (tr.mono (TupEx.of s3)) (.cons (tn.mono (TupEx.of s3)) .nil)))
        · obtain ⟨a, xs, rfl, ha, hx⟩ := t2.tuple
          cases hx with
          | cons h1 hx =>
            cases hx with
            | cons h2 hx =>
              cases hx
              have := h1.str_
              subst this
              refine ⟨_, rfl, a, _, 0, .str "endless", rfl, rfl, ha, rfl, rfl, _, rfl, iteB (by decide) ?_⟩
              refine ⟨_, rfl, _, rfl, fun d hd' => ?_⟩
              have s12 := s1.trans s2
              have s3 : Same H2 (upd H2 d (.xd [(("paper" : Str), .ref a)])) := Same.new hd'
              exact kD (fun hL => hd (hL t ht)) d _ (.ref a) u (s12.free hd') (s12.trans s3) upd_same (t2.mono (TupEx.of s3)) ⟨t, ht, hd, hw, hu⟩
end
end Ser
end
section
set_option maxRecDepth 100000
set_option maxHeartbeats 4000000
namespace Ser
open PySem L2
theorem dcallX {X : Cx} {x : Str} {p pos : Pos} {e : Expr} {es : List Expr} {t : TA} {k : Nat} {ps : List Str} {sp : Sp} {f : Addr} {fd : FuncData} {E : XK} (G : Def X.prog X.w X.K X.mg X.base (L2.CX X.prog X.w) x k ps sp f fd) (hr : Room k X.A) (hx : Passes (L2.CX X.prog X.w) X E) (ha : PA X (e :: es) t)
    (hg : Gl X x := by rfl) (hd : (x == ("__debug__" : Str)) = false := by decide) (he : starEach (e :: es) X.env = (false, eval e X.env) :: starEach es X.env := by rfl) (hpl : (backTo pos (starEach es X.env)).any (·.1) = false := by rfl) :
    PE X (.Call (.Name x p) (e :: es) [] pos) (tCall sp [] E t) := pe_call G.ok hr hg G.gl G.kp G.bi .nil hx ha hd he hpl
section
variable {P : Program} {w : World} {K : PySem.W.Frag} {mg : Str → Option Value} {base : Heap} {aN aW : Addr}
/-- a tree that ends, or none for one thing -/
def Lv (m : Nat) (T : SM.Tree) : Prop := (T = [] ∧ m = 1) ∨ (Va m T ∧ AllLive T)
def shS (m : Nat) (T : SM.Tree) : List (Int × Int) := if T = [] then [(1, 1)] else (List.range m).map (SM.shF m T 0)
def mnS (m : Nat) (T : SM.Tree) : Int × Int := if T = [] then (0, 1) else SM.mnF m T 0
def shD (m : Nat) (T : SM.Tree) : PyData := .tuple ((shS m T).map frD)
theorem toldE_eq (m : Nat) : toldE = .tuple [shD m [], frD (mnS m [])] := rfl
theorem toldD_eq {m : Nat} {T : SM.Tree} (V0 : Va m T) : toldD m T = .tuple [shD m T, frD (mnS m T)] := by
  have : T ≠ [] := fun e => by have := V0.ok.pos; rw [e] at this; exact absurd this (by simp)
  unfold toldD shD shS mnS rowD
  rw [if_neg this, if_neg this, List.map_map]
  rfl
def AllEq (l : List (Int × Int)) : Prop := ∀ x ∈ l, ∀ y ∈ l, x = y
theorem Lv.told {m : Nat} {T : SM.Tree} (h : Lv m T) {H : Hp} {v : V} {Q : VK} {E : XK} (CE : Addr) (tv : TD K H v (trD T)) (k : ∀ v' H', Same H H' → TD K H' v' (.tuple [shD m T, frD (mnS m T)]) → Q v' H') : spToldOf K CE [.int m, v] H Q E := by
  refine ⟨v, T, m, rfl, tv, ?_⟩
  rcases h with ⟨rfl, rfl⟩ | ⟨V0, hL⟩
  · exact .inl ⟨rfl, fun v' H' s t => k v' H' s (by rw [← toldE_eq]; exact t)⟩
  · exact .inr ⟨V0, fun _ v' H' s t => k v' H' s (by rw [← toldD_eq V0]; exact t), fun h => absurd hL h⟩
theorem TD.pair {H : Hp} {v : V} {d e : PyData} (t : TD K H v (.tuple [d, e])) : ∃ a x y, v = .ref a ∧ SqT K H a [x, y] ∧ TD K H x d ∧ TD K H y e := by
  obtain ⟨a, xs, rfl, h, hx⟩ := t.tuple
  cases hx with
  | cons h1 hx =>
    cases hx with
    | cons h2 hx =>
      cases hx
      exact ⟨a, _, _, rfl, h, h1, h2⟩
/-! ### tree_shares, tree_mean -/
abbrev sTreeShares : Stmt := top 31
def NTreeShares : List Str := ["many", "tree"]
theorem scTreeShares : FnScope NTreeShares ["many", "tree"] (defScope sTreeShares) := ⟨rfl, rfl, rfl, by decide +kernel, rfl, by decide +kernel, by decide +kernel⟩
abbrev sTreeMean : Stmt := top 32
def NTreeMean : List Str := ["many", "tree"]
theorem scTreeMean : FnScope NTreeMean ["many", "tree"] (defScope sTreeMean) := ⟨rfl, rfl, rfl, by decide +kernel, rfl, by decide +kernel, by decide +kernel⟩
def spTreeShares (K : PySem.W.Frag) : Sp := fun vs H Q _ => ∃ (v : V) (T : SM.Tree) (m : Nat), vs = [.int m, v] ∧ TD K H v (trD T) ∧ Lv m T ∧ ∀ v' H', Same H H' → TD K H' v' (shD m T) → Q v' H'
def spTreeMean (K : PySem.W.Frag) : Sp := fun vs H Q _ => ∃ (v : V) (T : SM.Tree) (m : Nat), vs = [.int m, v] ∧ TD K H v (trD T) ∧ Lv m T ∧ ∀ v' H', Same H H' → TD K H' v' (frD (mnS m T)) → Q v' H'
theorem ok_tree_shares {f f1 CE : Addr} {fd fd1 : FuncData} (F : FnP K "tree_shares" sTreeShares f fd) (G_told_of : Def P w K mg base (L2.CX P w) "told_of" 5 ["many", "tree"] (spToldOf K CE) f1 fd1) : FnOk P w K mg base CX0 6 f fd ["many", "tree"] (spTreeShares K) := by
  refine F.ok scTreeShares (fun vs H Q E h => ?_) (fun cdv A outer s H vs Q E hr h => ?_)
  · obtain ⟨_, _, _, rfl, _⟩ := h
    rfl
  · obtain ⟨v, T, m, rfl, tv, L, k⟩ := h
    refine ⟨_, PSs.nox <| (pss_one (ps_ret (pe_ix (ixT K) (dcallX G_told_of (hr.mono (by decide)) passL' (pa_cons (pv 0) (pa_cons (pv 1) pa_nil))) pe_int (fun _ _ => rfl)))), ?_⟩
    refine ⟨_, rfl, _, rfl, L.told CE tv fun v' H' s t => ?_⟩
    obtain ⟨a, x, y, rfl, ha, h1, h2⟩ := t.pair
    exact ⟨a, _, 0, x, rfl, rfl, ha, rfl, k x H' s h1⟩
theorem ok_tree_mean {f f1 CE : Addr} {fd fd1 : FuncData} (F : FnP K "tree_mean" sTreeMean f fd) (G_told_of : Def P w K mg base (L2.CX P w) "told_of" 5 ["many", "tree"] (spToldOf K CE) f1 fd1) : FnOk P w K mg base CX0 6 f fd ["many", "tree"] (spTreeMean K) := by
  refine F.ok scTreeMean (fun vs H Q E h => ?_) (fun cdv A outer s H vs Q E hr h => ?_)
  · obtain ⟨_, _, _, rfl, _⟩ := h
    rfl
  · obtain ⟨v, T, m, rfl, tv, L, k⟩ := h
    refine ⟨_, PSs.nox <| (pss_one (ps_ret (pe_ix (ixT K) (dcallX G_told_of (hr.mono (by decide)) passL' (pa_cons (pv 0) (pa_cons (pv 1) pa_nil))) pe_int (fun _ _ => rfl)))), ?_⟩
    refine ⟨_, rfl, _, rfl, L.told CE tv fun v' H' s t => ?_⟩
    obtain ⟨a, x, y, rfl, ha, h1, h2⟩ := t.pair
    exact ⟨a, _, 1, y, rfl, rfl, ha, rfl, k y H' s h2⟩
/-! ### are_even -/
abbrev sAreEven : Stmt := top 33
def NAreEven : List Str := ["shares", "share"]
theorem scAreEven : FnScope NAreEven ["shares"] (defScope sAreEven) := ⟨rfl, rfl, rfl, by decide +kernel, rfl, by decide +kernel, by decide +kernel⟩
def spAreEven (K : PySem.W.Frag) : Sp := fun vs H Q _ => ∃ (v : V) (fs : List (Int × Int)), vs = [v] ∧ TD K H v (.tuple (fs.map frD)) ∧ fs ≠ [] ∧ fs.length ≤ 100 ∧ ∀ b H', Same H H' → (b = true ↔ AllEq fs) → Q (.bl b) H'
theorem ok_are_even {f : Addr} {fd : FuncData} (F : FnP K "are_even" sAreEven f fd) (T : Tx K mg aN aW) : FnOk P w K mg base CX0 1 f fd ["shares"] (spAreEven K) := by
  refine F.ok scAreEven (fun vs H Q E h => ?_) (fun cdv A outer s H vs Q E hr h => ?_)
  · obtain ⟨_, _, rfl, _⟩ := h
    rfl
  · obtain ⟨v, fs, rfl, tv, hne, hl, k⟩ := h
    obtain ⟨a, xs, rfl, ha, hx⟩ := tv.tuple
    have xl : xs.length = fs.length := by have := hx.length; rw [List.length_map] at this; exact this
    refine ⟨_, PSs.nox <| (pss_one (ps_ret (pe_callB (cAll K) (by rfl) T.all_ (by decide +kernel) (pa_cons (pe_lc (own := [("share", 1)]) (g := (gName 1)) (tt := tYes) (by rfl) scAreEven.nd (piT K (pv 0)) (blkOk_by (N := NAreEven) (sc := defScope sAreEven) (by decide +kernel)) (fun _ _ _ _ _ => (pg_name (i := 1) scAreEven.nd rfl (lc_ rfl))) (fun _ _ _ _ _ => pts_nil) (fun _ _ _ _ _ => (pe_cmpR (oEqD K hr.units) (pv 1) (pe_ix (ixT K) (pv 0) pe_int (fun _ _ => rfl)) (nomark _)))) pa_nil)))), ?_⟩
    have q0 : (100000 : Nat) ≤ sizeLine := by decide
    have p0 : 0 < fs.length := List.length_pos_iff.mpr hne
    refine ⟨_, rfl, a, rfl, ⟨_, ha⟩, fun D hD => ?_⟩
    refine lc_genY (walk_tup (xs := xs)) (fun i y _ => y = .bl (decide (fs.getD i (0, 0) = fs.getD 0 (0, 0)))) hD (by omega) (fun H' s => Same.sqT s ha) (fun _ _ _ _ _ _ e _ _ _ => e) ?_ ?_
    · rintro i x H0 H1 k2 hi s1 _ ⟨rfl, hxi⟩ kk
      have at_ : ∀ j, j < fs.length → ∃ y, xs[j]? = some y ∧ TD K H1 y (frD (fs.getD j (0, 0))) := fun j hj => by
        obtain ⟨y, h1, h2⟩ := hx.get (show (fs.map frD)[j]? = some (frD (fs.getD j (0, 0))) by rw [List.getElem?_map, List.getD_eq_getElem?_getD, List.getElem?_eq_getElem hj]; rfl)
        exact ⟨y, h1, h2.mono (TupEx.of s1)⟩
      obtain ⟨y, e1, t1⟩ := at_ i (by omega)
      rw [hxi] at e1
      cases e1
      obtain ⟨z, e2, t2⟩ := at_ 0 p0
      refine ⟨rfl, _, rfl, _, rfl, a, xs, 0, z, rfl, rfl, Same.sqT s1 ha, atI_nat (j := 0) e2, _, _, t1.dp, t2.dp, shaped_fr, shaped_fr, ?_⟩
      rw [eqv_fr]
      exact kk _ _ (Same.refl _) rfl
    · intro ys H1 s1 hy1 a1
      rw [xl] at a1
      have ey := All2.vals (Fv := fun i => V.bl (decide (fs.getD i (0, 0) = fs.getD 0 (0, 0)))) a1
      have ev : ys = ((List.range fs.length).map fun i => decide (fs.getD i (0, 0) = fs.getD 0 (0, 0))).map V.bl := by rw [ey, List.map_map]; rfl
      rw [ev] at hy1
      refine ⟨D, _, rfl, SqL.mk hy1, k _ _ s1 ?_⟩
      rw [List.all_eq_true]
      constructor
      · intro h
        have g : ∀ x ∈ fs, x = fs.getD 0 (0, 0) := fun x hx => by
          obtain ⟨i, hi, e⟩ := List.getElem_of_mem hx
          have := h _ (List.mem_map.mpr ⟨i, List.mem_range.mpr hi, rfl⟩)
          have := of_decide_eq_true this
          rw [List.getD_eq_getElem?_getD, List.getElem?_eq_getElem hi, e] at this
          exact this
        exact fun x hx y hy => (g x hx).trans (g y hy).symm
      · intro h b hb
        obtain ⟨i, hi, rfl⟩ := List.mem_map.mp hb
        have hi := List.mem_range.mp hi
        refine decide_eq_true (h _ ?_ _ ?_)
        · rw [List.getD_eq_getElem?_getD, List.getElem?_eq_getElem hi]
          exact List.getElem_mem hi
        · rw [List.getD_eq_getElem?_getD, List.getElem?_eq_getElem p0]
          exact List.getElem_mem p0
end
end Ser
end
section
set_option maxRecDepth 100000
set_option maxHeartbeats 4000000
namespace Ser
open PySem L2
section
variable {P : Program} {w : World} {K : PySem.W.Frag} {mg : Str → Option Value} {base : Heap} {aN aW : Addr}
def Fit (m : Nat) (T : SM.Tree) : Prop := (T = [] ∧ m = 1) ∨ Va m T
theorem Fit.pos {m : Nat} {T : SM.Tree} (h : Fit m T) : 0 < m := by
  rcases h with ⟨_, rfl⟩ | h
  · decide
  · exact h.m0
theorem Fit.m12 {m : Nat} {T : SM.Tree} (h : Fit m T) : m ≤ 12 := by
  rcases h with ⟨_, rfl⟩ | h
  · decide
  · exact h.m12
theorem Fit.ok {m : Nat} {T : SM.Tree} (h : Fit m T) : 0 < T.length → SM.Ok m T := by
  rcases h with ⟨rfl, _⟩ | h
  · exact fun h => absurd h (by simp)
  · exact fun _ => h.ok
theorem Fit.le {m : Nat} {T : SM.Tree} (h : Fit m T) : T.length ≤ 60 := by
  rcases h with ⟨rfl, _⟩ | h
  · exact Nat.zero_le _
  · exact h.le
theorem Fit.lv {m : Nat} {T : SM.Tree} (h : Fit m T) (hL : AllLive T) : Lv m T := by
  rcases h with ⟨rfl, e⟩ | h
  · exact .inl ⟨rfl, e⟩
  · exact .inr ⟨h, hL⟩
def EvenT (m : Nat) (T : SM.Tree) : Prop := AllLive T ∧ AllEq (shS m T)
theorem shS_ne {m : Nat} {T : SM.Tree} (hm : 0 < m) : shS m T ≠ [] := by
  unfold shS
  split
  · exact fun h => nomatch h
  · intro h
    rw [List.map_eq_nil_iff, List.range_eq_nil] at h
    omega
theorem shS_len {m : Nat} {T : SM.Tree} (hm : m ≤ 12) : (shS m T).length ≤ 100 := by
  unfold shS
  split
  · decide
  · rw [List.length_map, List.length_range]; omega
theorem mnS_pos {m : Nat} {T : SM.Tree} (h : Lv m T) : 0 < (mnS m T).2 := by
  unfold mnS
  split
  · decide
  · rcases h with ⟨rfl, _⟩ | ⟨_, hL⟩
    · contradiction
    · exact SM.fr_pos (SM.dT_pos hL)
theorem mnS_sz {m : Nat} {T : SM.Tree} (h : Lv m T) : Sz 500 (mnS m T).1 ∧ Sz 500 (mnS m T).2 := by
  unfold mnS
  split
  · exact ⟨by unfold Sz; decide, by unfold Sz; decide⟩
  · rcases h with ⟨rfl, _⟩ | ⟨V0, hL⟩
    · contradiction
    · have hd := SM.dT_pos (m := m) hL
      obtain ⟨a, b⟩ := SM.fr_natAbs (p := SM.ee (SM.cc m T) T.length 0 (T.length + m)) hd
      have e := SM.small_of V0.le (SM.ee_abs V0.le (SM.cc_abs m T) 0 (T.length + m))
      have d := SM.D_small (k := T.length) V0.le (SM.cc_abs m T)
      exact ⟨Nat.lt_of_le_of_lt a e, Nat.lt_of_le_of_lt b d⟩
theorem bst_all : ((List.range 13).all fun m => m == 0 || (decide ((SM.bst m).1.natAbs < 2 ^ 60) && decide ((SM.bst m).2.natAbs < 2 ^ 60))) = true := by decide +kernel
theorem bst_sz {m : Nat} (h1 : 1 ≤ m) (h2 : m ≤ 12) : Sz 60 (SM.bst m).1 ∧ Sz 60 (SM.bst m).2 := by
  have h := List.all_eq_true.mp bst_all m (List.mem_range.mpr (by omega))
  have e : (m == 0) = false := by simp; omega
  rw [e, Bool.false_or, Bool.and_eq_true] at h
  exact ⟨@of_decide_eq_true _ (Nat.decLt _ _) h.1, @of_decide_eq_true _ (Nat.decLt _ _) h.2⟩
/-! ### is_even -/
abbrev sIsEven : Stmt := top 34
def NIsEven : List Str := ["many", "tree"]
theorem scIsEven : FnScope NIsEven ["many", "tree"] (defScope sIsEven) := ⟨rfl, rfl, rfl, by decide +kernel, rfl, by decide +kernel, by decide +kernel⟩
def spIsEven (K : PySem.W.Frag) : Sp := fun vs H Q _ => ∃ (v : V) (T : SM.Tree) (m : Nat), vs = [.int m, v] ∧ TD K H v (trD T) ∧ Fit m T ∧ ∀ b H', Same H H' → (b = true ↔ EvenT m T) → Q (.bl b) H'
theorem ok_is_even {f f1 f2 f3 : Addr} {fd fd1 fd2 fd3 : FuncData} (F : FnP K "is_even" sIsEven f fd) (G_does_end : Def P w K mg base CX0 "does_end" 3 ["many", "tree"] (spDoesEnd K) f1 fd1) (G_are_even : Def P w K mg base CX0 "are_even" 1 ["shares"] (spAreEven K) f2 fd2)
    (G_tree_shares : Def P w K mg base CX0 "tree_shares" 6 ["many", "tree"] (spTreeShares K) f3 fd3) : FnOk P w K mg base CX0 7 f fd ["many", "tree"] (spIsEven K) := by
  refine F.ok scIsEven (fun vs H Q E h => ?_) (fun cdv A outer s H vs Q E hr h => ?_)
  · obtain ⟨_, _, _, rfl, _⟩ := h
    rfl
  · obtain ⟨v, T, m, rfl, tv, L, k⟩ := h
    refine ⟨_, PSs.nox <| (pss_one (ps_ret (pe_and (dcall G_does_end (hr.mono (by decide)) (pa_cons (pv 0) (pa_cons (pv 1) pa_nil))) (pe_one (dcall G_are_even (hr.mono (by decide)) (pa_cons (dcall G_tree_shares (hr.mono (by decide)) (pa_cons (pv 0) (pa_cons (pv 1) pa_nil))) pa_nil)))))), ?_⟩
    refine ⟨_, rfl, _, rfl, v, T, m, rfl, tv, L.pos, L.ok, L.le, fun b H1 s1 hb => ⟨b, rfl, ?_⟩⟩
    refine iteB2 (fun e => ?_) (fun e => ?_)
    · have hL := hb.mp e
      refine ⟨_, rfl, _, rfl, v, T, m, rfl, tv.mono (TupEx.of s1), L.lv hL, fun v' H2 s2 t2 => ?_⟩
      exact ⟨v', shS m T, rfl, t2, shS_ne L.pos, shS_len L.m12, fun b H3 s3 h3 => k b H3 (s1.trans (s2.trans s3)) ⟨fun h => ⟨hL, h3.mp h⟩, fun h => h3.mpr h.2⟩⟩
    · exact k false H1 s1 ⟨fun h => Bool.noConfusion h, fun h => by rw [hb.mpr h.1] at e; cases e⟩
/-! ### is_least -/
abbrev sIsLeast : Stmt := top 35
def NIsLeast : List Str := ["many", "tree"]
theorem scIsLeast : FnScope NIsLeast ["many", "tree"] (defScope sIsLeast) := ⟨rfl, rfl, rfl, by decide +kernel, rfl, by decide +kernel, by decide +kernel⟩
def spIsLeast (K : PySem.W.Frag) : Sp := fun vs H Q _ => ∃ (v : V) (T : SM.Tree) (m : Nat), vs = [.int m, v] ∧ TD K H v (trD T) ∧ Fit m T ∧ ∀ b H', Same H H' → (b = true ↔ EvenT m T ∧ mnS m T = SM.bst m) → Q (.bl b) H'
theorem ok_is_least {f f1 f2 f3 : Addr} {fd fd1 fd2 fd3 : FuncData} (F : FnP K "is_least" sIsLeast f fd) (G_is_even : Def P w K mg base CX0 "is_even" 7 ["many", "tree"] (spIsEven K) f1 fd1) (G_tree_mean : Def P w K mg base CX0 "tree_mean" 6 ["many", "tree"] (spTreeMean K) f2 fd2)
    (G_mean : Def P w K mg base CX0 "mean" 4 ["many"] (spMean K) f3 fd3) : FnOk P w K mg base CX0 8 f fd ["many", "tree"] (spIsLeast K) := by
  refine F.ok scIsLeast (fun vs H Q E h => ?_) (fun cdv A outer s H vs Q E hr h => ?_)
  · obtain ⟨_, _, _, rfl, _⟩ := h
    rfl
  · obtain ⟨v, T, m, rfl, tv, L, k⟩ := h
    refine ⟨_, PSs.nox <| (pss_one (ps_ret (pe_and (dcall G_is_even (hr.mono (by decide)) (pa_cons (pv 0) (pa_cons (pv 1) pa_nil))) (pe_one (pe_cmpR (oEqD K hr.units) (dcall G_tree_mean (hr.mono (by decide)) (pa_cons (pv 0) (pa_cons (pv 1) pa_nil))) (dcall G_mean (hr.mono (by decide)) (pa_cons (pv 0) pa_nil)) (nomark _)))))), ?_⟩
    refine ⟨_, rfl, _, rfl, v, T, m, rfl, tv, L, fun b H1 s1 hb => ⟨b, rfl, ?_⟩⟩
    refine iteB2 (fun e => ?_) (fun e => ?_)
    · have hE := hb.mp e
      refine ⟨_, rfl, _, rfl, v, T, m, rfl, tv.mono (TupEx.of s1), L.lv hE.1, fun v' H2 s2 t2 => ?_⟩
      refine ⟨_, rfl, m, rfl, L.pos, L.m12, fun v'' H3 s3 t3 => ⟨_, _, (t2.mono (TupEx.of s3)).dp, t3.dp, shaped_fr, shaped_fr, ?_⟩⟩
      rw [eqv_fr]
      exact k _ _ (s1.trans (s2.trans s3)) ⟨fun h => ⟨hE, of_decide_eq_true h⟩, fun h => decide_eq_true h.2⟩
    · exact k false H1 s1 ⟨fun h => Bool.noConfusion h, fun h => by rw [hb.mpr h.1] at e; cases e⟩
/-! ### excess -/
theorem told_any {m : Nat} {T : SM.Tree} {H : Hp} {v : V} {Q : VK} {E : XK} {CE : Addr} (L : Fit m T) (tv : TD K H v (trD T)) (kQ : AllLive T → ∀ v' H', Same H H' → TD K H' v' (.tuple [shD m T, frD (mnS m T)]) → Q v' H') (kE : ¬ AllLive T → RaisesE K CE T H E) : spToldOf K CE [.int m, v] H Q E := by
  refine ⟨v, T, m, rfl, tv, ?_⟩
  rcases L with ⟨rfl, rfl⟩ | V0
  · exact .inl ⟨rfl, fun v' H' s t => kQ (fun t h => absurd h (by simp)) v' H' s (by rw [← toldE_eq]; exact t)⟩
  · exact .inr ⟨V0, fun hL v' H' s t => kQ hL v' H' s (by rw [← toldD_eq V0]; exact t), kE⟩
abbrev sExcess : Stmt := top 36
def NExcess : List Str := ["many", "tree", "shares", "found"]
theorem scExcess : FnScope NExcess ["many", "tree"] (defScope sExcess) := ⟨rfl, rfl, rfl, by decide +kernel, rfl, by decide +kernel, by decide +kernel⟩
def exF (m : Nat) (T : SM.Tree) : Int × Int := mns (mnS m T) (SM.bst m)
/-- what is raised of an uneven tree -/
def RaisesU (K : PySem.W.Frag) (CU : Addr) (m : Nat) (T : SM.Tree) (H : Hp) (E : XK) : Prop := ∀ d H' y, H d = none → Same H H' → H' d = some (.xd [(("shares" : Str), y)]) → TD K H' y (shD m T) → E (.ref CU) (some d) H'
def spExcess (K : PySem.W.Frag) (CE CU : Addr) : Sp := fun vs H Q E => ∃ (v : V) (T : SM.Tree) (m : Nat), vs = [.int m, v] ∧ TD K H v (trD T) ∧ Fit m T ∧ (EvenT m T → ∀ v' H', Same H H' → TD K H' v' (frD (exF m T)) → Q v' H') ∧
  (AllLive T → ¬ AllEq (shS m T) → RaisesU K CU m T H E) ∧ (¬ AllLive T → RaisesE K CE T H E)
theorem ok_excess {f f1 f2 f3 f4 CE CU SU fU : Addr} {fd fd1 fd2 fd3 fd4 : FuncData} {qU : Str} {ZU : SupX.Qs} {scU : Scope} (F : FnP K "excess" sExcess f fd) (T : Tx K mg aN aW) (G_told_of : Def P w K mg base (L2.CX P w) "told_of" 5 ["many", "tree"] (spToldOf K CE) f1 fd1)
    (G_are_even : Def P w K mg base CX0 "are_even" 1 ["shares"] (spAreEven K) f2 fd2) (G_minus : Def P w K mg base CX0 "minus" 3 ["one", "other"] (spMinus K) f3 fd3) (G_mean : Def P w K mg base CX0 "mean" 4 ["many"] (spMean K) f4 fd4)
    (GU : SupX.SupTxt P K mg "Uneven" "shares" qU scU ZU CU SU fU) : FnOk P w K mg base (L2.CX P w) 6 f fd ["many", "tree"] (spExcess K CE CU) := by
  refine F.ok scExcess (fun vs H Q E h => ?_) (fun cdv A outer s H vs Q E hr h => ?_)
  · obtain ⟨_, _, _, rfl, _⟩ := h
    rfl
  · obtain ⟨v, Tr, m, rfl, tv, L, kQ, kU, kE⟩ := h
    refine ⟨_, (pss_cons (ps_asg (dcallX G_told_of (hr.mono (by decide)) (passes_call (takes_of rfl rfl rfl rfl) (fun _ _ _ _ h => h)) (pa_cons (pv 0) (pa_cons (pv 1) pa_nil))) (gTup' K (pgs_cons (pg_name (i := 2) scExcess.nd rfl (lc_ rfl)) (pgs_cons (pg_name (i := 3) scExcess.nd rfl (lc_ rfl)) pgs_nil))))
      (pss_cons (ps_if (pt_not (pt_val (dcall G_are_even (hr.mono (by decide)) (pa_cons (pv 2) pa_nil)))) (pss_one (ps_raise rfl (takes_of rfl rfl rfl rfl) (pmk_sup (fI := fU) GU hr (pa_cons (pv 2) pa_nil)))) pss_nil)
      (pss_one (ps_ret (dcall G_minus (hr.mono (by decide)) (pa_cons (pv 3) (pa_cons (dcall G_mean (hr.mono (by decide)) (pa_cons (pv 0) pa_nil)) pa_nil))))))), ?_⟩
    refine ⟨_, rfl, _, rfl, told_any L tv (fun hL v' H1 s1 t1 => ?_) kE⟩
    obtain ⟨a, x, y, rfl, ha, h1, h2⟩ := t1.pair
    refine ⟨a, _, rfl, ha, rfl, _, _, rfl, _, _, rfl, rfl, ?_⟩
    refine ⟨_, rfl, x, shS m Tr, rfl, h1, shS_ne L.pos, shS_len L.m12, fun b H2 s2 hb => ⟨b, rfl, ?_⟩⟩
    refine iteB2 (b := !b) (fun e => ?_) (fun e => ?_)
    · have hne : ¬ AllEq (shS m Tr) := fun h => by rw [hb.mpr h] at e; cases e
      refine ⟨_, rfl, _, rfl, fun d hd => ?_⟩
      have s12 := s1.trans s2
      have s3 : Same H2 (upd H2 d (.xd [(("shares" : Str), x)])) := Same.new hd
      exact kU hL hne d _ x (s12.free hd) (s12.trans s3) upd_same (h1.mono (TupEx.of (s2.trans s3)))
    · have hE : AllEq (shS m Tr) := hb.mp (by cases b; cases e; rfl)
      have Lv' := L.lv hL
      refine ⟨_, rfl, _, rfl, m, rfl, L.pos, L.m12, fun v2 H3 s3 t3 => ?_⟩
      obtain ⟨z1, z2⟩ := mnS_sz Lv'
      obtain ⟨z3, z4⟩ := bst_sz L.pos L.m12
      exact ⟨y, v2, _, _, rfl, h2.mono (TupEx.of (s2.trans s3)), t3, mnS_pos Lv', SM.bst_pos L.pos L.m12, z1.mono (by decide), z2.mono (by decide), z3.mono (by decide), z4.mono (by decide), fun v3 H4 s4 t4 => kQ ⟨hL, hE⟩ v3 H4 (s1.trans (s2.trans (s3.trans s4))) t4⟩
end
end Ser
end
section
set_option autoImplicit false
/-! what sleeps stays asleep: a run that never wakes the sleeping generators of a state leaves them as they are -/
namespace PySem
namespace Slp
open Sem (wp)
/-- what no run gets through -/
def deadK : Resume → Sem Fin := fun _ => .unsupported ""
def GenState.psn : GenState → GenState
  | .suspended _ l c p fs cl => .suspended deadK l c p fs cl
  | x => x
def noG : List Frame → Prop := fun fs => ∀ F ∈ fs, ∀ g k l c p, F ≠ .gen g k l c p
def noGs : GenState → Prop
  | .suspended _ _ _ _ fs _ => noG fs
  | _ => True
def noGe : End → Prop
  | .susp _ _ _ _ _ _ fs => noG fs
  | .ret _ => True
/-- a: the table whose sleepers are dead, b: the real one; G: the sleepers -/
structure Sim (G : Nat → Option GenState) (a b : Array GenState) : Prop where
  sz : a.size = b.size
  ps : ∀ i x, G i = some x → a[i]? = some (GenState.psn x) ∧ b[i]? = some x
  su : ∀ i x, G i = some x → ∃ k l c p fs cl, x = .suspended k l c p fs cl
  ot : ∀ i, G i = none → b[i]? = a[i]?
  ng : ∀ i x, G i = none → a[i]? = some x → noGs x
theorem noG_nil : noG [] := fun F h => nomatch h
theorem noG_append {fs gs : List Frame} (a : noG fs) (b : noG gs) : noG (fs ++ gs) := fun F h => by
  rcases List.mem_append.mp h with z | z
  · exact a F z
  · exact b F z
theorem noG_tail {F : Frame} {fs : List Frame} (a : noG (F :: fs)) : noG fs := fun F' h => a F' (List.mem_cons_of_mem _ h)
theorem noG_ret {fs : List Frame} {k h g l c p kp} (a : noG fs) : noG (.ret k h g l c p kp :: fs) := fun F' hm => by
  rcases List.mem_cons.mp hm with rfl | z
  · intro _ _ _ _ _ e; cases e
  · exact a F' z
theorem noG_split : ∀ {fs : List Frame}, noG fs → splitAtGen fs = none
  | [], _ => rfl
  | .gen g k l c p :: fs, h => absurd rfl (h _ List.mem_cons_self g k l c p)
  | .ret k h g l c p kp :: fs, hn => by
    have := noG_split (noG_tail hn)
    simp [splitAtGen, this]
theorem noGs_end {e : End} (h : noGe e) : noGs e.genState := by
  cases e with
  | ret r => trivial
  | susp v g l k c p fs => exact h
theorem noGs_seen {x : GenState} : (GenState.psn x).seen = x.seen := by cases x <;> rfl
section
variable {G : Nat → Option GenState} {a b : Array GenState}
theorem Sim.push (S : Sim G a b) (hG : ∀ i x, G i = some x → i < a.size) {x : GenState} (hx : noGs x) : Sim G (a.push x) (b.push x) where
  sz := by simp [S.sz]
  ps := fun i y h => by
    have hi := hG i y h
    obtain ⟨h1, h2⟩ := S.ps i y h
    have hb : i < b.size := by rw [← S.sz]; exact hi
    rw [Array.getElem?_push_lt hi, Array.getElem?_push_lt hb]
    rw [Array.getElem?_eq_getElem hi] at h1
    rw [Array.getElem?_eq_getElem hb] at h2
    exact ⟨h1, h2⟩
  su := S.su
  ot := fun i h => by
    have := S.ot i h
    rw [Array.getElem?_push, Array.getElem?_push, S.sz, this]
  ng := fun i y h e => by
    rw [Array.getElem?_push] at e
    split at e
    · cases e; exact hx
    · exact S.ng i y h e
theorem Sim.set (S : Sim G a b) {g : Nat} (hg : G g = none) {x : GenState} (hx : noGs x) : Sim G (a.setIfInBounds g x) (b.setIfInBounds g x) where
  sz := by simp [S.sz]
  ps := fun i y h => by
    have hne : g ≠ i := fun e => by rw [e, h] at hg; cases hg
    rw [Array.getElem?_setIfInBounds_ne hne, Array.getElem?_setIfInBounds_ne hne]
    exact S.ps i y h
  su := S.su
  ot := fun i h => by
    have := S.ot i h
    rw [Array.getElem?_setIfInBounds, Array.getElem?_setIfInBounds, S.sz, this]
  ng := fun i y h e => by
    rw [Array.getElem?_setIfInBounds] at e
    split at e
    · split at e
      · cases e; exact hx
      · cases e
    · exact S.ng i y h e
end
theorem runs_unsup {M : Model} {Γ : Ctx} {p : Pos} {w : String} {s s' : Shared} {e : End} (h : Runs M Γ p (.unsupported w) [] s e s') : False := by cases h
theorem runs_dead {M : Model} {Γ : Ctx} {p : Pos} {r : Resume} {fs : List Frame} {s s' : Shared} {e : End} (h : Runs M Γ p (deadK r) fs s e s') : False := by
  unfold deadK at h
  cases fs with
  | nil => exact runs_unsup h
  | cons F fs =>
    cases h with
    | segRet h1 _ => exact runs_unsup h1
    | segGen h1 _ => exact runs_unsup h1
    | segSuspOut _ h1 => exact runs_unsup h1
    | segSuspGen _ h1 _ _ => exact runs_unsup h1
abbrev wg (s : Shared) (b : Array GenState) : Shared := { s with gens := b }
theorem Sim.lt {G : Nat → Option GenState} {a b : Array GenState} (S : Sim G a b) : ∀ i x, G i = some x → i < a.size := fun i x h => (Array.getElem?_eq_some_iff.mp (S.ps i x h).1).1
/-- a live sleeper is none of the dead ones -/
theorem Sim.live {G : Nat → Option GenState} {a b : Array GenState} (S : Sim G a b) {g : Nat} {x : GenState} (h : a[g]? = some x) (hx : ∀ k l c p fs cl, x = .suspended k l c p fs cl → k ≠ deadK) : G g = none := by
  cases e : G g with
  | none => rfl
  | some y =>
    obtain ⟨k, l, c, p, fs, cl, rfl⟩ := S.su g y e
    have := (S.ps g _ e).1
    rw [h] at this
    cases this
    exact absurd rfl (hx _ _ _ _ _ _ rfl)
theorem Sim.seen {G : Nat → Option GenState} {a b : Array GenState} (S : Sim G a b) {g : Nat} {st : GenState} (hg : a[g]? = some st) : ∃ st', b[g]? = some st' ∧ st'.seen = st.seen := by
  cases q : G g with
  | none => exact ⟨st, by rw [S.ot g q]; exact hg, rfl⟩
  | some y =>
    obtain ⟨h1, h2⟩ := S.ps g y q
    rw [hg] at h1
    cases h1
    exact ⟨y, h2, noGs_seen.symm⟩
theorem runs_sim {M : Model} {G : Nat → Option GenState} {Γ : Ctx} {p : Pos} {t : Sem Fin} {fs : List Frame} {s s' : Shared} {e : End} (h : Runs M Γ p t fs s e s') : noG fs → ∀ b, Sim G s.gens b → ∃ b', Runs M Γ p t fs (wg s b) e (wg s' b') ∧ Sim G s'.gens b' ∧ noGe e := by
  induction h with
  | done => intro _ b S; exact ⟨b, .done, S, trivial⟩
  | raise => intro _ b S; exact ⟨b, .raise, S, trivial⟩
  | again q _ ih => intro hf b S; obtain ⟨b', r, S', n⟩ := ih hf b S; exact ⟨b', .again q r, S', n⟩
  | rule _ ih => intro hf b S; obtain ⟨b', r, S', n⟩ := ih hf b S; exact ⟨b', .rule r, S', n⟩
  | «at» _ ih => intro hf b S; obtain ⟨b', r, S', n⟩ := ih hf b S; exact ⟨b', .at r, S', n⟩
  | load ho _ ih => intro hf b S; obtain ⟨b', r, S', n⟩ := ih hf b S; exact ⟨b', .load ho r, S', n⟩
  | update ho _ ih => intro hf b S; obtain ⟨b', r, S', n⟩ := ih hf b S; exact ⟨b', .update ho r, S', n⟩
  | loadIfAlive _ ih => intro hf b S; obtain ⟨b', r, S', n⟩ := ih hf b S; exact ⟨b', .loadIfAlive r, S', n⟩
  | point _ ih => intro hf b S; obtain ⟨b', r, S', n⟩ := ih hf b S; exact ⟨b', .point r, S', n⟩
  | alloc _ ih => intro hf b S; obtain ⟨b', r, S', n⟩ := ih hf b S; exact ⟨b', .alloc r, S', n⟩
  | fresh _ ih => intro hf b S; obtain ⟨b', r, S', n⟩ := ih hf b S; exact ⟨b', .fresh r, S', n⟩
  | ask _ ih => intro hf b S; obtain ⟨b', r, S', n⟩ := ih hf b S; exact ⟨b', .ask r, S', n⟩
  | choose hn _ ih => intro hf b S; obtain ⟨b', r, S', n⟩ := ih hf b S; exact ⟨b', .choose hn r, S', n⟩
  | os _ ih => intro hf b S; obtain ⟨b', r, S', n⟩ := ih hf b S; exact ⟨b', .os r, S', n⟩
  | handled _ ih => intro hf b S; obtain ⟨b', r, S', n⟩ := ih hf b S; exact ⟨b', .handled r, S', n⟩
  | stack _ ih => intro hf b S; obtain ⟨b', r, S', n⟩ := ih hf b S; exact ⟨b', .stack r, S', n⟩
  | thread _ ih => intro hf b S; obtain ⟨b', r, S', n⟩ := ih hf b S; exact ⟨b', .thread r, S', n⟩
  | genState hg _ ih =>
    intro hf b S
    obtain ⟨b', r, S', n⟩ := ih hf b S
    obtain ⟨st', h1, h2⟩ := S.seen hg
    rw [← h2] at r
    exact ⟨b', .genState (s := wg _ b) h1 r, S', n⟩
  | newGen _ ih =>
    intro hf b S
    obtain ⟨b', r, S', n⟩ := ih hf (b.push _) (S.push S.lt (x := .fresh _) trivial)
    exact ⟨b', .newGen (s := wg _ b) (by rw [S.sz] at r; exact r), S', n⟩
  | call _ _ ih1 ih2 =>
    intro hf b S
    obtain ⟨b1, r1, S1, _⟩ := ih1 noG_nil b S
    obtain ⟨b2, r2, S2, n⟩ := ih2 hf b1 S1
    exact ⟨b2, .call r1 r2, S2, n⟩
  | callSusp _ ih =>
    intro hf b S
    obtain ⟨b', r, S', n⟩ := ih noG_nil b S
    exact ⟨b', .callSusp r, S', noG_append n (noG_ret noG_nil)⟩
  | yield => intro hf b S; exact ⟨b, .yield, S, noG_nil⟩
  | resumeFresh hg _ q _ ih1 ih2 =>
    intro hf b S
    have hn := S.live hg (fun _ _ _ _ _ _ e => by cases e)
    obtain ⟨b1, r1, S1, n1⟩ := ih1 noG_nil _ (S.set hn (x := .running) trivial)
    obtain ⟨b2, r2, S2, n⟩ := ih2 hf _ (S1.set hn (noGs_end n1))
    exact ⟨b2, .resumeFresh (s := wg _ b) (by show b[_]? = _; rw [S.ot _ hn]; exact hg) r1 q r2, S2, n⟩
  | resumeSuspended hg h1 q _ ih1 ih2 =>
    intro hf b S
    have hn := S.live hg (fun k l c p fs cl e => by
      cases e
      intro z
      subst z
      exact runs_dead h1)
    obtain ⟨b1, r1, S1, n1⟩ := ih1 (S.ng _ _ hn hg) _ (S.set hn (x := .running) trivial)
    obtain ⟨b2, r2, S2, n⟩ := ih2 hf _ (S1.set hn (noGs_end n1))
    exact ⟨b2, .resumeSuspended (s := wg _ b) (by show b[_]? = _; rw [S.ot _ hn]; exact hg) r1 q r2, S2, n⟩
  | resumeJustStarted hg hv _ ih =>
    intro hf b S
    have hn := S.live hg (fun _ _ _ _ _ _ e => by cases e)
    obtain ⟨b', r, S', n⟩ := ih hf b S
    exact ⟨b', .resumeJustStarted (s := wg _ b) (by show b[_]? = _; rw [S.ot _ hn]; exact hg) hv r, S', n⟩
  | resumeThrowFresh hg _ ih =>
    intro hf b S
    have hn := S.live hg (fun _ _ _ _ _ _ e => by cases e)
    obtain ⟨b', r, S', n⟩ := ih hf _ (S.set hn (x := .finished) trivial)
    exact ⟨b', .resumeThrowFresh (s := wg _ b) (by show b[_]? = _; rw [S.ot _ hn]; exact hg) r, S', n⟩
  | resumeRunning hg _ ih =>
    intro hf b S
    have hn := S.live hg (fun _ _ _ _ _ _ e => by cases e)
    obtain ⟨b', r, S', n⟩ := ih hf b S
    exact ⟨b', .resumeRunning (s := wg _ b) (by show b[_]? = _; rw [S.ot _ hn]; exact hg) r, S', n⟩
  | resumeFinished hg _ ih =>
    intro hf b S
    have hn := S.live hg (fun _ _ _ _ _ _ e => by cases e)
    obtain ⟨b', r, S', n⟩ := ih hf b S
    exact ⟨b', .resumeFinished (s := wg _ b) (by show b[_]? = _; rw [S.ot _ hn]; exact hg) r, S', n⟩
  | segRet _ _ ih1 ih2 =>
    intro hf b S
    obtain ⟨b1, r1, S1, _⟩ := ih1 noG_nil b S
    obtain ⟨b2, r2, S2, n⟩ := ih2 (noG_tail hf) b1 S1
    exact ⟨b2, .segRet r1 r2, S2, n⟩
  | segGen _ _ _ _ => intro hf; exact absurd rfl (hf _ List.mem_cons_self _ _ _ _ _)
  | segSuspOut hs _ ih =>
    intro hf b S
    obtain ⟨b', r, S', n⟩ := ih noG_nil b S
    exact ⟨b', .segSuspOut hs r, S', noG_append n hf⟩
  | segSuspGen hs _ _ _ _ _ => intro hf; rw [noG_split hf] at hs; cases hs
theorem wakes_sim {M : Model} {G : Nat → Option GenState} {Γ : Ctx} {p : Pos} {g : Nat} {r : Resume} {s s' : Shared} {res : GenResult} (h : Wakes M Γ p g r s res s') {b : Array GenState} (S : Sim G s.gens b) : ∃ b', Wakes M Γ p g r (wg s b) res (wg s' b') ∧ Sim G s'.gens b' := by
  unfold Wakes at h
  cases hg : s.gens[g]? with
  | none => rw [hg] at h; exact h.elim
  | some x =>
    rw [hg] at h
    have put : G g = none → (wg s b).gens[g]? = some x := fun hn => by show b[g]? = _; rw [S.ot g hn]; exact hg
    cases x with
    | fresh c =>
      have hn := S.live hg (fun _ _ _ _ _ _ e => by cases e)
      cases r with
      | send v =>
        cases v with
        | none =>
          obtain ⟨e1, s1, hr, hq, h1, h2⟩ := h
          obtain ⟨b1, r1, S1, n1⟩ := runs_sim hr noG_nil _ (S.set hn (x := .running) trivial)
          subst h2
          exact ⟨_, by unfold Wakes; rw [put hn]; exact ⟨e1, _, r1, hq, h1, rfl⟩, S1.set hn (noGs_end n1)⟩
        | _ =>
          obtain ⟨h1, rfl⟩ := h
          exact ⟨b, by unfold Wakes; rw [put hn]; exact ⟨h1, rfl⟩, S⟩
      | throw y =>
        obtain ⟨h1, rfl⟩ := h
        exact ⟨_, by unfold Wakes; rw [put hn]; exact ⟨h1, rfl⟩, S.set hn (x := .finished) trivial⟩
    | suspended k0 l0 c0 p0 fs cl =>
      obtain ⟨e1, s1, hr, hq, h1, h2⟩ := h
      have hn := S.live hg (fun k l c p fs cl e => by
        cases e
        intro z
        subst z
        exact runs_dead hr)
      obtain ⟨b1, r1, S1, n1⟩ := runs_sim hr (S.ng _ _ hn hg) _ (S.set hn (x := .running) trivial)
      subst h2
      exact ⟨_, by unfold Wakes; rw [put hn]; exact ⟨e1, _, r1, hq, h1, rfl⟩, S1.set hn (noGs_end n1)⟩
    | running =>
      have hn := S.live hg (fun _ _ _ _ _ _ e => by cases e)
      obtain ⟨h1, rfl⟩ := h
      exact ⟨b, by unfold Wakes; rw [put hn]; exact ⟨h1, rfl⟩, S⟩
    | finished =>
      have hn := S.live hg (fun _ _ _ _ _ _ e => by cases e)
      obtain ⟨h1, rfl⟩ := h
      exact ⟨b, by unfold Wakes; rw [put hn]; exact ⟨h1, rfl⟩, S⟩
/-- the real state's end -/
def Re (G : Nat → Option GenState) {α : Type} (Q : α → Shared → Prop) : α → Shared → Prop := fun v s2 => ∃ s1 b, s2 = wg s1 b ∧ Sim G s1.gens b ∧ Q v s1
theorem wp_sim {α : Type} (M : Model) (G : Nat → Option GenState) (Γ : Ctx) (Q : α → Shared → Prop) (E : Value → Shared → Prop) (t : Sem α) : ∀ (p : Pos) (s : Shared) (b : Array GenState), Sim G s.gens b → wp M Γ t (fun a _ s' => Q a s') (fun e _ s' => E e s') p s →
    wp M Γ t (fun a _ s' => Re G Q a s') (fun e _ s' => Re G E e s') p (wg s b) := by
  induction t with
  | pure a => intro p s b S h; exact ⟨s, b, rfl, S, h⟩
  | raise e => intro p s b S h; exact ⟨s, b, rfl, S, h⟩
  | unsupported _ => intro p s b S h; exact h
  | finish _ => intro p s b S h; exact h
  | rule _ k ih => intro p s b S h; exact ih () p s b S h
  | «at» p' k ih => intro p s b S h; exact ih () p' s b S h
  | load a _ k ih => intro p s b S h; obtain ⟨o, ho, h⟩ := h; exact ⟨o, ho, ih o p s b S h⟩
  | update a _ f k ih => intro p s b S h; exact ⟨h.1, ih () p { s with heap := s.heap.update a f } b S h.2⟩
  | loadIfAlive a k ih => intro p s b S h; exact ih _ p s b S h
  | point _ k ih => intro p s b S h; exact ih () p s b S h
  | register _ _ => intro p s b S h; exact h
  | alloc o k ih => intro p s b S h; exact ih _ p { s with heap := s.heap.push o } b S h
  | fresh k ih => intro p s b S h; exact ih _ p { s with toks := s.toks + 1 } b S h
  | ask k ih => intro p s b S h; exact ih _ p s b S h
  | choose src m k ih => intro p s b S h; exact ⟨h.1, ih _ p { s with drawn := s.drawn.bump src } b S h.2⟩
  | os q _ k ih => intro p s b S h; exact ih _ p { s with os := (Os.step s.os q).1 } b S h
  | call c hd _ _ k ih =>
    intro p s b S h
    obtain ⟨r, s', hr, h⟩ := h
    obtain ⟨b', hr', S', _⟩ := runs_sim hr noG_nil b S
    exact ⟨r, _, hr', ih r p s' b' S' h⟩
  | handled own k ih => intro p s b S h; exact ih _ p s b S h
  | genState g k ih =>
    intro p s b S h
    obtain ⟨st, hs, h⟩ := h
    obtain ⟨st', h1, h2⟩ := S.seen hs
    exact ⟨st', h1, by rw [h2]; exact ih _ p s b S h⟩
  | newGen c k ih =>
    intro p s b S h
    have := ih _ p { s with gens := s.gens.push (.fresh c) } (b.push (.fresh c)) (S.push S.lt (x := .fresh c) trivial) h
    rw [S.sz] at this
    exact this
  | resume g r _ k ih =>
    intro p s b S h
    obtain ⟨res, s', hw, h⟩ := h
    obtain ⟨b', hw', S'⟩ := wakes_sim hw S
    exact ⟨res, _, hw', ih res p s' b' S' h⟩
  | yield _ _ _ _ => intro p s b S h; exact h
  | stack k ih => intro p s b S h; exact ih _ p s b S h
  | fork _ _ => intro p s b S h; exact h
  | thread k ih => intro p s b S h; exact ih _ p s b S h
  | await _ _ _ _ _ => intro p s b S h; exact h
theorem wpAny_sim {α : Type} {M : Model} {A : Around} {G : Nat → Option GenState} {Q : α → Shared → Prop} {E : Value → Shared → Prop} {t : Sem α} {s : Shared} {b : Array GenState} (S : Sim G s.gens b) (h : wpAny M A t Q E s) : wpAny M A t (Re G Q) (Re G E) (wg s b) := fun Γ p hΓ => wp_sim M G Γ Q E t p s b S (h Γ p hΓ)
/-- all sleepers of b -/
def slp (b : Array GenState) : Nat → Option GenState := fun i => match b[i]? with
  | some (.suspended k l c p fs cl) => some (.suspended k l c p fs cl)
  | _ => none
theorem sim_all (b : Array GenState) : Sim (slp b) (b.map GenState.psn) b where
  sz := by simp
  ps := fun i x h => by
    unfold slp at h
    split at h
    · rename_i k l c p fs cl hb
      cases h
      exact ⟨by rw [Array.getElem?_map, hb]; rfl, hb⟩
    · cases h
  su := fun i x h => by
    unfold slp at h
    split at h
    · cases h; exact ⟨_, _, _, _, _, _, rfl⟩
    · cases h
  ot := fun i h => by
    rw [Array.getElem?_map]
    unfold slp at h
    split at h
    · cases h
    · rename_i hn
      cases hb : b[i]? with
      | none => rfl
      | some x =>
        cases x with
        | suspended k l c p fs cl => exact absurd hb (hn _ _ _ _ _ _)
        | _ => rfl
  ng := fun i x h e => by
    rw [Array.getElem?_map] at e
    unfold slp at h
    split at h
    · cases h
    · rename_i hn
      cases hb : b[i]? with
      | none => rw [hb] at e; cases e
      | some y =>
        rw [hb] at e
        cases y with
        | suspended k l c p fs cl => exact absurd hb (hn _ _ _ _ _ _)
        | fresh c => cases e; trivial
        | running => cases e; trivial
        | finished => cases e; trivial
theorem bare_psn {b : Array GenState} (h : PyProof.Rows.AllBare b) : PyProof.Rows.AllBare (b.map GenState.psn) := fun y hy => by
  obtain ⟨x, hx, rfl⟩ := Array.mem_map.mp hy
  have := h x hx
  cases x <;> exact this
/-- the sleepers stay as they were, and the table stays bare -/
theorem Sim.keeps {b0 a b : Array GenState} (S : Sim (slp b0) a b) {i : Nat} {k : Resume → Sem Fin} {l : List Value} {c : Code} {p : Pos} {fs : List Frame} {cl : Bool} (h : b0[i]? = some (.suspended k l c p fs cl)) : b[i]? = some (.suspended k l c p fs cl) := by
  have : slp b0 i = some (.suspended k l c p fs cl) := by unfold slp; rw [h]
  exact (S.ps i _ this).2
theorem Sim.bare {b0 a b : Array GenState} (S : Sim (slp b0) a b) (ha : PyProof.Rows.AllBare a) (h0 : PyProof.Rows.AllBare b0) : PyProof.Rows.AllBare b := fun y hy => by
  obtain ⟨i, hi, rfl⟩ := Array.getElem_of_mem hy
  have e : b[i]? = some b[i] := Array.getElem?_eq_getElem hi
  cases q : slp b0 i with
  | none =>
    have := S.ot i q
    rw [e] at this
    exact ha _ (Array.mem_of_getElem? this.symm)
  | some x =>
    have h2 := (S.ps i x q).2
    rw [e] at h2
    cases h2
    unfold slp at q
    split at q
    · rename_i hb
      rw [← Option.some.inj q]
      exact h0 _ (Array.mem_of_getElem? hb)
    · cases q
end Slp
end PySem
end
section
set_option maxRecDepth 100000
set_option maxHeartbeats 4000000
/-! a generator that a for walks: its frame sleeps while the body of the loop runs -/
namespace Ser
open PySem L2 GenW PySem.Slp
open PyProof.Rows hiding St RelV
/-! ### the heap below an address -/
def cutH (h : Heap) (L : Nat) : Heap := ⟨h.objs.extract 0 L, h.life⟩
theorem cutH_lt {h : Heap} {L b : Nat} (hb : b < L) : (cutH h L).get? b = h.get? b := by
  unfold cutH Heap.get?
  have e : (h.objs.extract 0 L)[b]? = h.objs[b]? := by
    rw [Array.getElem?_extract]
    split
    · rw [Nat.zero_add]
    · rw [Array.getElem?_eq_none]
      omega
  rw [e]
theorem cutH_ge {h : Heap} {L b : Nat} (hb : L ≤ b) : (cutH h L).get? b = none := by
  unfold cutH Heap.get?
  have e : (h.objs.extract 0 L)[b]? = none := by
    rw [Array.getElem?_eq_none]
    rw [Array.size_extract]
    omega
  rw [e]
theorem cutH_get {h : Heap} {L b : Nat} {o : Obj} (e : (cutH h L).get? b = some o) : b < L ∧ h.get? b = some o := by
  by_cases hb : b < L
  · rw [cutH_lt hb] at e; exact ⟨hb, e⟩
  · rw [cutH_ge (Nat.le_of_not_lt hb)] at e; cases e
theorem cutH_size {h : Heap} {L : Nat} (hL : L ≤ h.objs.size) : (cutH h L).objs.size = L := by
  unfold cutH
  show (h.objs.extract 0 L).size = L
  rw [Array.size_extract]; omega
theorem cut_fun {h base : Heap} {L : Nat} : ∀ {l : List Env}, (∀ b ∈ frs l, b < L) → h.FunFrames base l → (cutH h L).FunFrames base l
  | [], _, _ => trivial
  | env :: rest, hs, hl => by
    obtain ⟨hk, ⟨a, o, hf, hn, ho, hd⟩, hr⟩ := hl
    have ha : a < L := hs a (by unfold frs; rw [List.filterMap_cons, hf]; exact List.mem_cons_self)
    refine ⟨hk, ⟨a, o, hf, hn, (cutH_lt ha).trans ho, hd⟩, cut_fun (fun b hb => hs b ?_) hr⟩
    unfold frs; rw [List.filterMap_cons, hf]; exact List.mem_cons_of_mem _ hb
abbrev cutS (s : Shared) (L : Nat) : Shared := { s with heap := cutH s.heap L }

/-! ### the two contexts -/
/-- the sleeper's frame at env, made within the run of X -/
structure Home (X : Cx) (env : Env) (pins : List (Addr × Obj)) : Prop where
  kind : env.scope.kind = .function
  glob : env.globals = mainGlobals
  blt : env.builtins = builtinsNs
  cells : ∀ x, env.cells.lookup x = none
  noc : ∀ x, env.kindOf x ≠ some .cell ∧ env.kindOf x ≠ some .free
  frame : env.frame = some env.locals
  above : X.s_0.heap.objs.size ≤ env.locals
  stk : ∀ b ∈ frs X.stack, b < env.locals
  loc : X.env.locals < env.locals
  cel : ∀ x c, X.env.cells.lookup x = some c → c < env.locals
  pin : ∀ p ∈ X.pn ++ pins, p.1 < env.locals
  noex : X.ex = []
def gX (X : Cx) (A : Around) (NG : List Str) (env : Env) (sB : Shared) (HB : Hp) : Cx where
  prog := X.prog
  w := X.w
  K := X.K
  mg := X.mg
  base := X.base
  A := A
  N := NG
  s_0 := sB
  H_0 := HB
  env := env
  outer := X.stack
  stack := env :: X.stack
  ex := []
  fn := fun _ => true
  calm := true
  pn := []
  xe := fun _ _ => False
/-- the sleeper's names -/
def Frm (env : Env) (NG : List Str) (τ : L2.St) (s : Shared) : Prop :=
  τ.length = NG.length ∧ ∃ m, s.heap.Ns env.locals m ∧ ∀ (i : Nat) (x : Str) (v : V), NG[i]? = some x → τ[i]? = some (some v) → Vis env.scope x → ∃ u, RelV v u ∧ env.kindOf x = some .local ∧ m x = some u
theorem Frm.keeps {env : Env} {NG : List Str} {τ : L2.St} {s s' : Shared} (F : Frm env NG τ s) (k : ∀ o, s.heap.get? env.locals = some o → s'.heap.get? env.locals = some o) : Frm env NG τ s' := by
  obtain ⟨hl, m, ⟨o, es, ep, ho, r⟩, q⟩ := F
  exact ⟨hl, m, ⟨o, es, ep, k o ho, r⟩, q⟩
section
variable {X : Cx} {env : Env} {pins pinsG : List (Addr × Obj)} {σ τ : L2.St} {H H' : Hp} {s s' : Shared} {A : Around} {NG : List Str}
theorem Inv.regen (I : Inv X pins σ H s) {g' : Array GenState} (h : AllBare g') : Inv X pins σ H { s with gens := g' } :=
  ⟨I.ok, I.os, h, I.base, I.loc, I.cell, I.free, I.freeC, I.pin, I.hok, I.len⟩
theorem Home.wake (h : Home X env pins) (I : Inv X pins σ H s) (hA : A.handled = none) (hf : A.frames = some (env :: X.stack)) (F : Frm env NG τ s) (hL : H env.locals = none)
    (hp : ∀ p ∈ pinsG, s.heap.get? p.1 = some p.2 ∧ H p.1 = none ∧ env.locals < p.1 ∧ ∀ v, p.2.data ≠ .cell v) : Inv (gX X A NG env (cutS s env.locals) H) pinsG τ H s := by
  obtain ⟨hlen, m, hn, hm⟩ := F
  have hlt : env.locals < s.heap.objs.size := hn.lt
  have hsz : (cutH s.heap env.locals).objs.size = env.locals := cutH_size (Nat.le_of_lt hlt)
  have hb0 : X.base.objs.size ≤ env.locals := Nat.le_trans I.ok.bsz h.above
  have bl : ∀ b o, X.base.get? b = some o → b < env.locals := fun b o e => Nat.lt_of_lt_of_le (Heap.lt_size e) hb0
  refine ⟨⟨I.ok.mod, h.kind, h.glob, h.blt, ?_, fun x y c e => ?_, fun x e => ?_, fun x c _ e => ?_, fun _ => hA, hf, .inr ⟨rfl, h.frame⟩, fun b hb => ?_, fun b o e => ?_, ?_, fun b o _ hb => ?_, fun b hb => ?_, ?_, I.stkFree⟩,
    rfl, I.bare, Un.kept fun b o e => (cutH_get e).2, ⟨m, hn, fun i x v e1 e2 e3 => ?_⟩, fun x c e => ?_, hL, fun x c e => ?_, fun p hp' => ?_, I.hok, hlen⟩
  · show (cutH s.heap env.locals).objs.size ≤ env.locals
    rw [hsz]; exact Nat.le_refl _
  · have e' : env.cells.lookup x = some c := e
    rw [h.cells] at e'; cases e'
  · rcases e with e | e
    · exact absurd e (h.noc x).1
    · exact absurd e (h.noc x).2
  · have e' : env.cells.lookup x = some c := e
    rw [h.cells] at e'; cases e'
  · exact absurd (show b ∈ ([] : List Addr) from hb) (by simp)
  · obtain ⟨e1, e2⟩ := I.bs b o e
    exact ⟨(cutH_lt (bl b o e)).trans e1, e2⟩
  · show X.base.objs.size ≤ (cutH s.heap env.locals).objs.size
    rw [hsz]; exact hb0
  · exact absurd (show b ∈ ([] : List Addr) from hb) (by simp)
  · exact absurd (show b ∈ ([] : List Addr) from hb) (by simp)
  · exact cut_fun h.stk I.stack
  · obtain ⟨u, r, k, e⟩ := hm i x v e1 e2 e3
    exact ⟨u, r, .inl ⟨k, e⟩⟩
  · have e' : env.cells.lookup x = some c := e
    rw [h.cells] at e'; cases e'
  · have e' : env.cells.lookup x = some c := e
    rw [h.cells] at e'; cases e'
  · obtain ⟨q1, q2, q3, q4⟩ := hp p hp'
    exact ⟨q1, q2, Nat.ne_of_gt q3, fun z => absurd (h.stk p.1 z) (Nat.not_lt.mpr (Nat.le_of_lt q3)), q4⟩
theorem Home.sleep (h : Home X env pins) (I : Inv X pins σ H s) (hz : env.locals < s.heap.objs.size) (J : Inv (gX X A NG env (cutS s env.locals) H) pinsG τ H' s') : Inv X pins σ H' s' := by
  have low : ∀ b o, s.heap.get? b = some o → b ∉ (List.range s.heap.objs.size).filter (fun b => decide (env.locals ≤ b)) → (cutH s.heap env.locals).get? b = some o := fun b o e hb => by
    have hb' : b < env.locals := by
      refine Nat.lt_of_not_le fun z => hb (List.mem_filter.mpr ⟨List.mem_range.mpr (Heap.lt_size e), decide_eq_true z⟩)
    rw [cutH_lt hb']; exact e
  have nx : ∀ b : Addr, b ∉ ([] : List Addr) := fun b => by simp
  refine I.call' (ch := (List.range s.heap.objs.size).filter fun b => decide (env.locals ≤ b)) J.os ⟨fun b o e n hf hc => J.base.keep b o (low b o e hc) n hf (nx b), fun b o e n hf hc => J.base.slot b o (low b o e hc) n hf (nx b),
    fun b o e n hc => J.base.free b o (low b o e hc) n (nx b), fun b o e hc => J.base.there b o (low b o e hc) (nx b), J.base.tups, J.base.frzs, J.base.tbls⟩ J.hok J.bare fun b hb => ?_
  obtain ⟨_, hb⟩ := List.mem_filter.mp hb
  have hb : env.locals ≤ b := of_decide_eq_true hb
  exact ⟨.inr (Nat.le_trans h.above hb), Nat.ne_of_gt (Nat.lt_of_lt_of_le h.loc hb), fun x c e => Nat.ne_of_lt (Nat.lt_of_lt_of_le (h.cel x c e) hb), fun p hp => Nat.ne_of_lt (Nat.lt_of_lt_of_le (h.pin p hp) hb)⟩
theorem Frm.of (hc : ∀ x, env.kindOf x ≠ some .cell ∧ env.kindOf x ≠ some .free) {sB : Shared} {HB : Hp} (J : Inv (gX X A NG env sB HB) pinsG τ H' s') : Frm env NG τ s' := by
  obtain ⟨m, hn, hl⟩ := J.loc
  refine ⟨J.len, m, hn, fun i x v e1 e2 e3 => ?_⟩
  obtain ⟨u, r, l⟩ := hl i x v e1 e2 e3
  rcases l with ⟨k, e⟩ | ⟨k, _⟩
  · exact ⟨u, r, k, e⟩
  · rcases k with k | k
    · exact absurd k (hc x).1
    · exact absurd k (hc x).2
end

/-! ### an item goes out -/
section
variable {M : Model} {A : Around} {R : GenEnd} {Y : Protocol} {n : Nat} {s₀ s : Shared} {c : Code} {fs : List Frame} {env : Env}
theorem seg_out {v : Value} {l : List Value} {k : Resume → Sem PySem.Fin} (h1 : splitAtGen fs = none) (h2 : fs.any Frame.guarded = false) (h : Y (n - 1) s₀ v s fun r s2 => Seg.next M A R Y n c (k r) fs s2) :
    Seg M A R Y n s₀ c (.yield v false l k) fs s := by
  rw [seg_iff]
  intro Γ p hc _
  subst hc
  exact ⟨_, s, Runs.yield' fs h1, And.intro (by simp [End.quiet, h2]) h⟩
theorem seg_yields {K : Flow → Sem PySem.Fin} {J : Value → Sem PySem.Fin} {e : Expr} {yp pos : Pos} (h1 : splitAtGen fs = none) (h2 : fs.any Frame.guarded = false)
    (h : wpAny M (A.over c fs) (eval e env) (fun v s1 => ∀ kap : Resume → Shared → Prop, (∀ s2, Seg.next M A R Y n c (K .next) fs s2 → kap (.send .none) s2) → Y (n - 1) s₀ v s1 kap) (fun x s1 => Seg M A R Y n s₀ c (J x) fs s1) s)
    (hco : env.scope.isCoroutine = false) (hi : interactive env = false) : Seg M A R Y n s₀ c ((exec (.Expr (.Yield (some e) yp) pos) env).wrap K J id id) fs s := by
  rw [exec_Expr env _ pos hi rfl]
  refine seg_at ?_
  have hy : ∀ v, yieldOut env v = yieldValue v := fun v => by simp only [yieldOut, hco, Bool.false_eq_true, if_false]
  show Seg M A R Y n s₀ c (((eval e env >>= fun v => (standAt yp >>= fun _ => yieldOut env v)) >>= fun x => dropValue (.Yield (some e) yp) pos x).wrap K J id id) fs s
  simp only [hy]
  refine segw_bind2 (wpAny_mono h (fun v s1 q => ?_) fun _ _ q => q)
  refine seg_at (seg_out h1 h2 ?_)
  exact q _ fun s2 z => z
end
theorem execs_join {env : Env} : ∀ (a b : List Stmt), execs (a ++ b) env = (execs a env >>= fun f => match f with | .next => execs b env | f => pure f)
  | [], b => by rw [List.nil_append]; exact (show (pure Flow.next >>= fun f => match f with | .next => execs b env | f => pure f) = execs b env from rfl).symm
  | st :: a, b => by
    rw [List.cons_append, execs_cons, execs_cons, execs_join a b]
    rw [bind_assoc]
    refine congrArg _ (funext fun f => ?_)
    cases f <;> rfl
theorem seg_join {M : Model} {A : Around} {R : GenEnd} {Y : Protocol} {n : Nat} {s₀ s : Shared} {c : Code} {fs : List Frame} {env : Env} {K : Flow → Sem PySem.Fin} {J : Value → Sem PySem.Fin} {a b : List Stmt}
    (h : wpAny M (A.over c fs) (execs a env) (fun f s1 => f = .next ∧ Seg M A R Y n s₀ c ((execs b env).wrap K J id id) fs s1) (fun _ _ => False) s) : Seg M A R Y n s₀ c ((execs (a ++ b) env).wrap K J id id) fs s := by
  rw [execs_join]
  refine seg_bind_wrap (wpAny_mono h (fun f s1 q => ?_) fun _ _ q => q.elim)
  obtain ⟨rfl, q⟩ := q
  exact q

/-! ### the sleeper's word -/
/-- the walk that the outer loop makes: W its word of each turn, Y what is handed out -/
structure Wlk where
  W : Nat → L2.St → Hp → Prop
  Y : Nat → V → Hp → Prop
  n : Nat
  a : Addr
  e : Addr
/-- the walker's state where the sleeper may wake; s, H: when it fell asleep -/
structure Bk (X : Cx) (env : Env) (pins : List (Addr × Obj)) (Z : Wlk) (j : Nat) (s : Shared) (H : Hp) (s2 : Shared) (σ2 : L2.St) (H2 : Hp) : Prop where
  inv : Inv X pins σ2 H2 s2
  w : Z.W j σ2 H2
  same : Same H H2
  fr : ∀ o, s.heap.get? env.locals = some o → s2.heap.get? env.locals = some o
  hL : H2 env.locals = none
  oa : H2 Z.a = none ∧ ∃ o, s2.heap.get? Z.a = some o ∧ ∀ v, o.data ≠ .cell v
  oe : H2 Z.e = none ∧ ∃ o, s2.heap.get? Z.e = some o ∧ ∀ v, o.data ≠ .cell v
/-- the j-th item goes out -/
def Otp (X : Cx) (env : Env) (NG : List Str) (pins : List (Addr × Obj)) (Z : Wlk) : Protocol := fun n s₀ v s kap =>
  n = 0 ∨ ∃ j σ H x, n + j + 1 = Z.n ∧ Inv X pins σ H s ∧ Z.W j σ H ∧ RelV x v ∧ Z.Y j x H ∧ H env.locals = none ∧ (∃ o, s.heap.get? env.locals = some o ∧ ∀ v, o.data ≠ .cell v) ∧
    (∀ b, b = Z.a ∨ b = Z.e → H b = none ∧ ∀ o, s₀.heap.get? b = some o → s.heap.get? b = some o) ∧
    ∀ s2 σ2 H2, Bk X env pins Z (j + 1) s H s2 σ2 H2 → kap (.send .none) s2
def Nend : GenEnd := fun _ _ _ _ => False
/-- the generator's body: its first item, then a loop that hands out one in each turn -/
structure GBody (X : Cx) (A : Around) (env : Env) (NG : List Str) (H0 : Hp) (τ0 : L2.St) (Z : Wlk) (body : List Stmt) : Prop where
  run : ∃ (p1 p2 : List Stmt) (e1 e2 tst : Expr) (y1 q1 y2 q2 pos : Pos) (G : Nat → L2.St → Hp → Prop), body = p1 ++ [.Expr (.Yield (some e1) y1) q1, .While tst (p2 ++ [.Expr (.Yield (some e2) y2) q2]) [] pos] ∧
    (∀ j τ H H', Same H H' → G j τ H → G j τ H') ∧
    (∀ sB HB, Same H0 HB → ∃ t te, PSs (gX X A NG env sB HB) p1 t ∧ PE (gX X A NG env sB HB) e1 te ∧ t { nx := fun τ H => te τ H fun x H2 => Same HB H2 ∧ Z.Y 0 x H2 ∧ G 1 τ H2, rt := fun _ _ => False } τ0 HB) ∧
    ∀ sB HB j τ, 1 ≤ j → G j τ HB → ∃ tc t te, PT (gX X A NG env sB HB) tst tc ∧ PSs (gX X A NG env sB HB) p2 t ∧ PE (gX X A NG env sB HB) e2 te ∧
      tc τ HB fun b H => b = true ∧ t { nx := fun τ2 H1 => te τ2 H1 fun x H2 => Same HB H2 ∧ Z.Y j x H2 ∧ G (j + 1) τ2 H2, rt := fun _ _ => False } τ H
section
variable {X : Cx} {env : Env} {pins : List (Addr × Obj)} {A Ag : Around} {NG : List Str} {Z : Wlk}
/-- the run up to an item, behind which the code K goes on -/
theorem seg_item {n j : Nat} {s₀ s1 s : Shared} {c : Code} {fs : List Frame} {K : Flow → Sem PySem.Fin} {J : Value → Sem PySem.Fin} {e : Expr} {yp pos : Pos} {te : TE} {σ τ : L2.St} {H0 H H1 : Hp} {G : Nat → L2.St → Hp → Prop}
    (h : Home X env pins) (hZ : env.locals < Z.a ∧ env.locals < Z.e) (hW : ∀ j σ H H', Same H H' → Z.W j σ H → Z.W j σ H') (hfs : splitAtGen fs = none) (hgd : fs.any Frame.guarded = false) (hov : Ag.over c fs = A) (hn : n + j = Z.n) (b : Bk X env pins Z j s1 H0 s₀ σ H)
    {oa oe : Obj} (ea : s₀.heap.get? Z.a = some oa) (ee : s₀.heap.get? Z.e = some oe)
    (hco : env.scope.isCoroutine = false) (hi : interactive env = false) (hL : env.locals < s₀.heap.objs.size)
    (he : PE (gX X A NG env (cutS s₀ env.locals) H) e te) (I : Inv (gX X A NG env (cutS s₀ env.locals) H) [(Z.a, oa), (Z.e, oe)] τ H1 s) (ht : te τ H1 fun x H2 => Same H H2 ∧ Z.Y j x H2 ∧ G (j + 1) τ H2)
    (go : ∀ m s H2 s3 σ3 H3, m + (j + 1) = Z.n → Frm env NG τ s3 → G (j + 1) τ H2 → Bk X env pins Z (j + 1) s H2 s3 σ3 H3 → Seg (model X.prog X.w) Ag Nend (Otp X env NG pins Z) m s3 c (K .next) fs s3) :
    Seg (model X.prog X.w) Ag Nend (Otp X env NG pins Z) n s₀ c ((exec (.Expr (.Yield (some e) yp) pos) env).wrap K J id id) fs s := by
  refine seg_yields hfs hgd ?_ hco hi
  rw [hov]
  refine wpAny_mono (he.run _ s τ H1 _ I ht) (fun v s4 q => ?_) fun _ _ x => x.elim
  obtain ⟨x, H2, I2, rv, hs, hy, hg⟩ := q
  intro kap hk
  by_cases h0 : n - 1 = 0
  · exact .inl h0
  obtain ⟨m, rfl⟩ : ∃ m, n = m + 2 := ⟨n - 2, by omega⟩
  have I3 : Inv X pins σ H2 s4 := h.sleep b.inv hL I2
  have pA := I2.pin (Z.a, oa) (List.mem_append_right _ List.mem_cons_self)
  have pE := I2.pin (Z.e, oe) (List.mem_append_right _ (List.mem_cons_of_mem _ List.mem_cons_self))
  refine .inr ⟨j, σ, H2, x, by omega, I3, hW j σ _ _ hs b.w, rv, hy, I2.free, ?_, fun b' hb => ?_, fun s3 σ3 H3 b3 => hk s3 ?_⟩
  · obtain ⟨m', ⟨o, es, ep, ho, hd, _⟩, _⟩ := I2.loc
    exact ⟨o, ho, fun v z => by rw [hd] at z; cases z⟩
  · rcases hb with rfl | rfl
    · exact ⟨pA.2.1, fun o z => by rw [ea] at z; cases z; exact pA.1⟩
    · exact ⟨pE.2.1, fun o z => by rw [ee] at z; cases z; exact pE.1⟩
  · exact go (m + 1) s4 H2 s3 σ3 H3 (by omega) ((Frm.of h.noc I2).keeps b3.fr) hg b3
/-- the pins of a run of the sleeper -/
theorem Bk.pind {j : Nat} {s s2 : Shared} {H H2 : Hp} {σ2 : L2.St} (hZ : env.locals < Z.a ∧ env.locals < Z.e) (b : Bk X env pins Z j s H s2 σ2 H2) : ∃ oa oe, s2.heap.get? Z.a = some oa ∧ s2.heap.get? Z.e = some oe ∧
    ∀ p ∈ [(Z.a, oa), (Z.e, oe)], s2.heap.get? p.1 = some p.2 ∧ H2 p.1 = none ∧ env.locals < p.1 ∧ ∀ v, p.2.data ≠ .cell v := by
  obtain ⟨na, oa, ea, da⟩ := b.oa
  obtain ⟨ne, oe, ee, de⟩ := b.oe
  refine ⟨oa, oe, ea, ee, fun p hp => ?_⟩
  rcases List.mem_cons.mp hp with hp | hp
  · rw [hp]; exact ⟨ea, na, hZ.1, da⟩
  · rw [List.mem_singleton.mp hp]; exact ⟨ee, ne, hZ.2, de⟩

/-- one turn of the sleeper's loop -/
theorem gen_turn {tst e2 : Expr} {p2 : List Stmt} {y2 q2 : Pos} {G : Nat → L2.St → Hp → Prop} {c : Code} {n j : Nat} {s1 s2 : Shared} {H1 H2 : Hp} {σ2 τ : L2.St} {k : Result → Sem PySem.Fin} {l kp : List Value} {p : Pos}
    (h : Home X env pins) (hZ : env.locals < Z.a ∧ env.locals < Z.e) (hW : ∀ j σ H H', Same H H' → Z.W j σ H → Z.W j σ H') (hov : Ag.over c [] = A) (hA : A.handled = none) (hf : A.frames = some (env :: X.stack)) (hco : env.scope.isCoroutine = false) (hi : interactive env = false)
    (turn : ∀ sB HB j τ, 1 ≤ j → G j τ HB → ∃ tc t te, PT (gX X A NG env sB HB) tst tc ∧ PSs (gX X A NG env sB HB) p2 t ∧ PE (gX X A NG env sB HB) e2 te ∧
      tc τ HB fun b H => b = true ∧ t { nx := fun τ2 H1 => te τ2 H1 fun x H2 => Same HB H2 ∧ Z.Y j x H2 ∧ G (j + 1) τ2 H2, rt := fun _ _ => False } τ H)
    (hn : n + j = Z.n) (hj : 1 ≤ j) (F : Frm env NG τ s2) (g : G j τ H2) (b : Bk X env pins Z j s1 H1 s2 σ2 H2)
    (go : ∀ m s H3 s3 σ3 H4 τ4, m + (j + 1) = Z.n → Frm env NG τ4 s3 → G (j + 1) τ4 H3 → Bk X env pins Z (j + 1) s H3 s3 σ3 H4 →
      Seg (model X.prog X.w) Ag Nend (Otp X env NG pins Z) m s3 (.whileLoop tst (p2 ++ [.Expr (.Yield (some e2) y2) q2]) [] env) ((model X.prog X.w).den (.whileLoop tst (p2 ++ [.Expr (.Yield (some e2) y2) q2]) [] env)) [.ret k none false l c p kp] s3) :
    Seg (model X.prog X.w) Ag Nend (Otp X env NG pins Z) n s2 (.whileLoop tst (p2 ++ [.Expr (.Yield (some e2) y2) q2]) [] env) ((model X.prog X.w).den (.whileLoop tst (p2 ++ [.Expr (.Yield (some e2) y2) q2]) [] env)) [.ret k none false l c p kp] s2 := by
  have hov2 : Ag.over (.whileLoop tst (p2 ++ [.Expr (.Yield (some e2) y2) q2]) [] env) [.ret k none false l c p kp] = A := (over_loop rfl rfl).trans hov
  obtain ⟨oa, oe, ea, ee, hp⟩ := b.pind hZ
  have hL : env.locals < s2.heap.objs.size := by
    obtain ⟨_, m, hm, _⟩ := F
    exact hm.lt
  have I0 := h.wake (A := A) b.inv hA hf F b.hL hp
  obtain ⟨tc, t, te, hc, hb, he, ht⟩ := turn (cutS s2 env.locals) H2 j τ hj g
  refine seg_whileLoop ?_
  rw [hov2]
  refine wpAny_mono (hc.run _ s2 τ H2 _ I0 ht) (fun b' s3 q => ?_) fun _ _ x => x.elim
  obtain ⟨H3, I3, rfl, q3⟩ := q
  rw [if_pos rfl]
  refine seg_join ?_
  rw [hov2]
  refine wpAny_mono (hb.run _ s3 τ H3 _ I3 q3) (fun f s4 q => ?_) fun _ _ x => x.elim
  cases f with
  | brk => obtain ⟨_, _, _, q⟩ := q; exact q.elim
  | cont => obtain ⟨_, _, _, q⟩ := q; exact q.elim
  | ret u => obtain ⟨_, _, _, _, _, q⟩ := q; exact q.elim
  | next =>
    obtain ⟨τ4, H4, I4, q4⟩ := q
    refine ⟨rfl, seg_execs_cons ?_⟩
    refine seg_item (A := A) (G := G) (τ := τ4) h hZ hW rfl rfl hov2 hn b ea ee hco hi hL he I4 q4 fun m s H5 s5 σ5 H6 hm F5 g5 b5 => ?_
    exact seg_again rfl (go m s H5 s5 σ5 H6 τ4 hm F5 g5 b5)

theorem gen_loop {tst e2 : Expr} {p2 : List Stmt} {y2 q2 : Pos} {G : Nat → L2.St → Hp → Prop} {c : Code}
    (h : Home X env pins) (hZ : env.locals < Z.a ∧ env.locals < Z.e) (hW : ∀ j σ H H', Same H H' → Z.W j σ H → Z.W j σ H') (hov : Ag.over c [] = A) (hA : A.handled = none) (hf : A.frames = some (env :: X.stack)) (hco : env.scope.isCoroutine = false) (hi : interactive env = false)
    (turn : ∀ sB HB j τ, 1 ≤ j → G j τ HB → ∃ tc t te, PT (gX X A NG env sB HB) tst tc ∧ PSs (gX X A NG env sB HB) p2 t ∧ PE (gX X A NG env sB HB) e2 te ∧
      tc τ HB fun b H => b = true ∧ t { nx := fun τ2 H1 => te τ2 H1 fun x H2 => Same HB H2 ∧ Z.Y j x H2 ∧ G (j + 1) τ2 H2, rt := fun _ _ => False } τ H)
    (hG : ∀ j τ H H', Same H H' → G j τ H → G j τ H') :
    ∀ (n j : Nat) (s1 s2 : Shared) (H1 H2 : Hp) (σ2 τ : L2.St) (k : Result → Sem PySem.Fin) (l kp : List Value) (p : Pos), n + j = Z.n → 1 ≤ j → Frm env NG τ s2 → G j τ H2 → Bk X env pins Z j s1 H1 s2 σ2 H2 →
      Seg (model X.prog X.w) Ag Nend (Otp X env NG pins Z) n s2 (.whileLoop tst (p2 ++ [.Expr (.Yield (some e2) y2) q2]) [] env) ((model X.prog X.w).den (.whileLoop tst (p2 ++ [.Expr (.Yield (some e2) y2) q2]) [] env)) [.ret k none false l c p kp] s2 := by
  intro n
  induction n with
  | zero =>
    intro j s1 s2 H1 H2 σ2 τ k l kp p hn hj F g b
    exact gen_turn h hZ hW hov hA hf hco hi turn hn hj F g b fun m s H3 s3 σ3 H4 τ4 hm => absurd hm (by omega)
  | succ n ih =>
    intro j s1 s2 H1 H2 σ2 τ k l kp p hn hj F g b
    refine gen_turn h hZ hW hov hA hf hco hi turn hn hj F g b fun m s H3 s3 σ3 H4 τ4 hm F4 g4 b4 => ?_
    obtain rfl : m = n := by omega
    exact ih (j + 1) s s3 H3 H4 σ3 τ4 k l kp p hm (Nat.le_add_left _ _) F4 (hG _ _ _ _ b4.same g4) b4
end
end Ser
end
section
set_option maxRecDepth 100000
set_option maxHeartbeats 4000000
/-! a generator that a for walks: from its first turn on -/
namespace Ser
open PySem L2 GenW PySem.Slp
open PyProof.Rows hiding St RelV
section
variable {X : Cx} {env : Env} {pins : List (Addr × Obj)} {A Ag : Around} {NG : List Str} {Z : Wlk}
theorem gen_fresh {body : List Stmt} {s1 s2 : Shared} {H0 H2 : Hp} {σ2 τ0 : L2.St}
    (h : Home X env pins) (hZ : env.locals < Z.a ∧ env.locals < Z.e) (hW : ∀ j σ H H', Same H H' → Z.W j σ H → Z.W j σ H') (hov : Ag.over (.func body env) [] = A) (hA : A.handled = none) (hf : A.frames = some (env :: X.stack)) (hco : env.scope.isCoroutine = false) (hi : interactive env = false)
    (B : GBody X A env NG H0 τ0 Z body) (F : Frm env NG τ0 s2) (b : Bk X env pins Z 0 s1 H0 s2 σ2 H2) :
    Seg (model X.prog X.w) Ag Nend (Otp X env NG pins Z) Z.n s2 (.func body env) ((model X.prog X.w).den (.func body env)) [] s2 := by
  obtain ⟨p1, p2, e1, e2, tst, y1, q1, y2, q2, pos, G, rfl, hG, first, turn⟩ := B.run
  obtain ⟨oa, oe, ea, ee, hp⟩ := b.pind hZ
  have hL : env.locals < s2.heap.objs.size := by
    obtain ⟨_, m, hm, _⟩ := F
    exact hm.lt
  have I0 := h.wake (A := A) b.inv hA hf F b.hL hp
  obtain ⟨t, te, hb, he, ht⟩ := first (cutS s2 env.locals) H2 b.same
  refine seg_func (seg_join ?_)
  rw [hov]
  refine wpAny_mono (hb.run _ s2 τ0 H2 _ I0 ht) (fun f s4 q => ?_) fun _ _ x => x.elim
  cases f with
  | brk => obtain ⟨_, _, _, q⟩ := q; exact q.elim
  | cont => obtain ⟨_, _, _, q⟩ := q; exact q.elim
  | ret u => obtain ⟨_, _, _, _, _, q⟩ := q; exact q.elim
  | next =>
    obtain ⟨τ4, H4, I4, q4⟩ := q
    refine ⟨rfl, seg_execs_cons ?_⟩
    refine seg_item (A := A) (G := G) (τ := τ4) h hZ hW rfl rfl hov (Nat.add_zero _) b ea ee hco hi hL he I4 q4 fun m s H5 s5 σ5 H6 hm F5 g5 b5 => ?_
    refine seg_execs_cons (seg_While fun p => ?_)
    exact gen_loop h hZ hW hov hA hf hco hi turn hG m 1 s s5 H5 H6 σ5 τ4 _ _ _ p hm (Nat.le_refl _) F5 (hG _ _ _ _ b5.same g5) b5
end

/-! ### the walker's side: one item through enumerate -/
section
variable {prog : Program} {w : World} {A : Around} {E : Value → Shared → Prop} {s : Shared}
theorem resume_susp {M : Model} {Y : Protocol} {g n : Nat} {gs : GenState} {r : Resume} {l : List Value} {α : Type} {k : GenResult → Sem α} {Q : α → Shared → Prop} (hg : s.gens[g]? = some gs) (hgo : gs.Goes M A Nend Y n r (s.setGen g .running))
    (hY : ∀ v s1 k1 l1 c1 p1 f1, s.gens.size ≤ s1.gens.size → Y (n - 1) (s.setGen g .running) v s1 (fun r' s2 => Seg.next M A Nend Y n c1 (k1 r') f1 s2) → wpAny M A (k (.yielded v)) Q E (s1.setGen g (.suspended k1 l1 c1 p1 f1 false))) :
    wpAny M A (.resume g r l k) Q E s := by
  intro Γ p hΓ
  rw [Sem.wp_resume]
  have run : ∀ (c : Code) (t : Sem PySem.Fin) (fs : List Frame) (p0 : Pos), Seg M A Nend Y n (s.setGen g .running) c t fs (s.setGen g .running) → ∃ e1 s1, Runs M (Γ.wake c p) p0 t fs (s.setGen g .running) e1 s1 ∧ e1.quiet = true ∧
      Sem.wp M Γ (k e1.result) (fun a _ s' => Q a s') (fun e _ s' => E e s') p (s1.setGen g e1.genState) := by
    intro c t fs p0 hs
    obtain ⟨e1, s1, hr, he⟩ := seg_iff.mp hs (Γ.wake c p) p0 rfl (hΓ.wake c p)
    cases e1 with
    | ret x => exact he.elim
    | susp v g0 l0 k0 c0 p0 fs0 =>
      have hb : (End.susp v g0 l0 k0 c0 p0 fs0).genState = .suspended k0 l0 c0 p0 fs0 false := by
        have q := End.bare_of_quiet he.1
        show GenState.suspended k0 l0 c0 p0 fs0 _ = _
        have q' : (!(g0 || fs0.any Frame.guarded)) = true := q
        rw [show (g0 || fs0.any Frame.guarded) = false from by simpa using q']
      refine ⟨_, s1, hr, he.1, ?_⟩
      rw [hb]
      have hz := runs_gsz hr
      rw [setGen_size] at hz
      exact hY v s1 k0 l0 c0 p0 fs0 hz he.2 Γ p hΓ
  cases gs with
  | fresh c =>
    obtain ⟨rfl, hs⟩ := hgo
    obtain ⟨e1, s1, hr, hq, h⟩ := run c _ [] p hs
    exact ⟨_, _, by unfold Wakes; rw [hg]; exact ⟨e1, s1, hr, hq, rfl, rfl⟩, h⟩
  | suspended k0 l0 c0 p0 fs0 cl =>
    obtain ⟨e1, s1, hr, hq, h⟩ := run c0 _ fs0 p0 hgo
    exact ⟨_, _, by unfold Wakes; rw [hg]; exact ⟨e1, s1, hr, hq, rfl, rfl⟩, h⟩
  | running => exact hgo.elim
  | finished => exact hgo.elim
theorem gen_nextOf {a : Addr} {g n : Nat} {gs : GenState} {Y : Protocol} {Q : Value → Shared → Prop} (hl : s.heap.NoLimit) (hroom : A.depth < recursionLimit) (hg : s.heap.IsGen a g) (hgs : s.gens[g]? = some gs)
    (hgo : gs.Goes (model prog w) A.in1 Nend Y n (.send .none) (s.setGen g .running))
    (hY : ∀ v s1 k1 l1 c1 p1 f1, s.gens.size ≤ s1.gens.size → Y (n - 1) (s.setGen g .running) v s1 (fun r' s2 => Seg.next (model prog w) A.in1 Nend Y n c1 (k1 r') f1 s2) → Q v (s1.setGen g (.suspended k1 l1 c1 p1 f1 false))) :
    wpAny (model prog w) A (Builtin.SmallTypes.nextOf (.ref a)) Q E s := by
  unfold Builtin.SmallTypes.nextOf
  refine wpAny_bind (wpAny_callSpecial?_slot (name := Str.ofString "__next__") hg.typeIs slot_gen_next (wpAny_call_entry slot_gen_next hg.typeIs entry_gen_next ?_ (args_gen_next _)))
  show wpAny _ A.in1 (Builtin.Generator.genWake (.ref a) (.send .none)) _ _ s
  unfold Builtin.Generator.genWake
  refine wpAny_bind (wpAny_holding (wpAny_genNumber hg (wpAny_bind (wpAny_genState hgs ?_))))
  cases gs with
  | running => exact hgo.elim
  | finished => exact hgo.elim
  | _ =>
    refine wpAny_bind (wpAny_roomToWake hl hroom ?_)
    show wpAny _ A.in1 (.resume g (.send .none) [] _) _ _ s
    refine resume_susp hgs hgo fun v s1 k1 l1 c1 p1 f1 hz hv => wpAny_pure ⟨v, rfl, wpAny_pure (hY v s1 k1 l1 c1 p1 f1 hz hv)⟩
theorem enum_gives {e it : Addr} {c : Int} {old : Value} {Q : Value → Shared → Prop} (he : IsEnum s.heap e it c old)
    (hn : wpAny (model prog w) A (Builtin.SmallTypes.nextOf (.ref it)) (fun x s1 => IsEnum s1.heap e it c old ∧ ∀ h' tk tk', IsEnumOut h' e it (c + 1) x s1.heap.objs.size → h'.get? s1.heap.objs.size = some { cls := .type "tuple", data := .seq #[.int c tk, x] } →
      (∀ b o, b ≠ e → s1.heap.get? b = some o → h'.get? b = some o) → Q (.ref s1.heap.objs.size) { s1 with heap := h', toks := tk' }) E s) :
    wpAny (model prog w) A (Builtin.«enumerate.__next__» ⟨[.ref e], []⟩) (fun fin s' => ∃ v, fin = .done (.ret v) ∧ Q v s') E s := by
  show wpAny _ A (field (.ref e) 2 >>= _) _ _ s
  refine wpAny_bind (wpAny_field he rfl (x := .ref it) rfl (wpAny_bind (wpAny_mono hn (fun x s1 q => ?_) fun _ _ z => z)))
  obtain ⟨e1, hQ⟩ := q
  obtain ⟨h1, g, d, tk, os⟩ := s1
  replace e1 : IsEnum h1 e it c old := e1
  have el : e < h1.objs.size := Heap.lt_size e1
  show wpAny _ A (field (.ref e) 3 >>= _) _ _ (⟨h1, g, d, tk, os⟩ : Shared)
  refine wpAny_bind (wpAny_field e1 rfl (x := rawInt c) rfl ?_)
  show wpAny _ A (field (.ref e) 4 >>= _) _ _ (⟨h1, g, d, tk, os⟩ : Shared)
  refine wpAny_bind (wpAny_field e1 rfl (x := .none) rfl ?_)
  show wpAny _ A (mkInt c >>= _) _ _ (⟨h1, g, d, tk, os⟩ : Shared)
  refine wpAny_bind (wpAny_mkInt ?_)
  show wpAny _ A (setField (.ref e) 3 (rawInt (c + 1)) >>= _) _ _ (⟨h1, g, d, tk + 1, os⟩ : Shared)
  refine wpAny_bind (wpAny_setField_rec e1 (by simp) fun h2 e2 k2 => ?_)
  replace k2 : Heap.SameBut e h1 h2 := k2
  replace e2 : IsEnum h2 e it (c + 1) old := e2
  show wpAny _ A (setField (.ref e) 4 .none >>= _) _ _ (⟨h2, g, d, tk + 1, os⟩ : Shared)
  refine wpAny_bind (wpAny_setField_rec e2 (by simp) fun h3 e3 k3 => ?_)
  replace k3 : Heap.SameBut e h2 h3 := k3
  replace e3 : IsEnum h3 e it (c + 1) old := e3
  show wpAny _ A (newTuple [.int c tk, x] >>= _) _ _ (⟨h3, g, d, tk + 1, os⟩ : Shared)
  refine wpAny_bind (wpAny_newTuple ?_)
  have e4 : IsEnum (h3.push { cls := .type "tuple", data := .seq #[.int c tk, x] }) e it (c + 1) old := Heap.get?_push_of_some _ e3
  have z3 : h3.objs.size = h1.objs.size := by rw [k3.1, k2.1]
  have t4 : (h3.push { cls := .type "tuple", data := .seq #[.int c tk, x] }).get? h1.objs.size = some { cls := .type "tuple", data := .seq #[.int c tk, x] } := by rw [← z3]; exact Heap.get?_push_size _ rfl
  have k4 : ∀ b o, b ≠ e → h1.get? b = some o → (h3.push { cls := .type "tuple", data := .seq #[.int c tk, x] }).get? b = some o := fun b o hb q => Heap.get?_push_of_some _ (k3.extBut b o hb (k2.extBut b o hb q))
  generalize h3.push { cls := .type "tuple", data := .seq #[.int c tk, x] } = h4 at e4 t4 k4
  show wpAny _ A (Builtin.SmallTypes.ownedTupleIsFree (.ref e) >>= _) _ _ (⟨h4, g, d, tk + 1, os⟩ : Shared)
  rw [z3]
  refine wpAny_bind ?_
  unfold Builtin.SmallTypes.ownedTupleIsFree
  refine wpAny_bind (wpAny_field e4 rfl (x := .none) rfl (wpAny_pure ?_))
  simp only [if_true]
  refine wpAny_bind (wpAny_rule (wpAny_bind (wpAny_field e4 rfl (x := old) rfl (wpAny_bind (wpAny_setField_rec e4 (by simp) fun h5 e5 k5 => ?_)))))
  replace k5 : Heap.SameBut e h4 h5 := k5
  replace e5 : IsEnum h5 e it (c + 1) x := e5
  show wpAny _ A (Builtin.SmallTypes.ownedTupleHandOut (.ref e) (.ref h1.objs.size) >>= _) _ _ (⟨h5, g, d, tk + 1, os⟩ : Shared)
  refine wpAny_bind ?_
  unfold Builtin.SmallTypes.ownedTupleHandOut
  refine wpAny_bind (wpAny_setField_rec e5 (by simp) fun h6 e6 k6 => ?_)
  replace k6 : Heap.SameBut e h5 h6 := k6
  replace e6 : IsEnumOut h6 e it (c + 1) x h1.objs.size := e6
  refine wpAny_setField_rec e6 (by simp) fun h7 e7 k7 => ?_
  replace k7 : Heap.SameBut e h6 h7 := k7
  replace e7 : IsEnumOut h7 e it (c + 1) x h1.objs.size := e7
  refine wpAny_bind (wpAny_letGo (wpAny_pure ⟨_, rfl, hQ h7 tk (tk + 1) e7 ?_ fun b o hb q => ?_⟩))
  · exact k7.extBut _ _ (Nat.ne_of_gt el) (k6.extBut _ _ (Nat.ne_of_gt el) (k5.extBut _ _ (Nat.ne_of_gt el) t4))
  · exact k7.extBut b o hb (k6.extBut b o hb (k5.extBut b o hb (k4 b o hb q)))
theorem enum_next {e it : Addr} {c : Int} {old : Value} {Q : Option Value → Shared → Prop} (he : IsEnum s.heap e it c old)
    (hn : wpAny (model prog w) A.in1 (Builtin.SmallTypes.nextOf (.ref it)) (fun x s1 => IsEnum s1.heap e it c old ∧ ∀ h' tk tk', IsEnumOut h' e it (c + 1) x s1.heap.objs.size → h'.get? s1.heap.objs.size = some { cls := .type "tuple", data := .seq #[.int c tk, x] } →
      (∀ b o, b ≠ e → s1.heap.get? b = some o → h'.get? b = some o) → Q (some (.ref s1.heap.objs.size)) { s1 with heap := h', toks := tk' }) (fun _ _ => False) s) :
    wpAny (model prog w) A (pyNext (.ref e)) Q E s := by
  have hT : s.TypeIs (.ref e) "enumerate" := ⟨_, he, rfl⟩
  unfold pyNext
  refine wpAny_bind (wpAny_attempt (wpAny_callSpecial?_slot (name := Str.ofString "__next__") hT F.slot_enumerate_next (wpAny_call_entry F.slot_enumerate_next hT F.entry_enumerate_next ?_ (F.args_enumerate_next_1 _))))
  exact enum_gives he (wpAny_mono hn (fun x s1 q => ⟨q.1, fun h' tk tk' a b d => wpAny_pure (q.2 h' tk tk' a b d)⟩) fun _ _ z => z.elim)
end

/-! ### enumerate of a generator -/
theorem meets_enumG (a : Addr) (g : Nat) :
    Meets (Builtin.«enumerate.__new__» ⟨[.type "enumerate", .ref a], []⟩) (fun _ R s => s.heap.IsGen a g ∧
      R (.ok (.ret (.ref s.heap.objs.size))) { s with heap := s.heap.push { cls := .type "enumerate", data := .fields #[.none, .bool false, .ref a, rawInt 0, .none, .none] } }) :=
  .of_wp fun prog w A R s h => by
    obtain ⟨hp, gs, d, tk, os⟩ := s
    obtain ⟨hg, h⟩ := h
    have hsub := sub_enumerate
    have q1 : ∀ {A' : Around} {E : Value → Shared → Prop} {Q : Value → Shared → Prop}, Q (.ref a) ⟨hp, gs, d, tk, os⟩ → wpAny (model prog w) A' (pyIter (.ref a)) Q E ⟨hp, gs, d, tk, os⟩ := fun q => wpAny_pyIter_gen hg q
    obtain ⟨o, nm, qn, ho, hc, hd, hsl⟩ := id hg
    wp_walk using q1, wpAny_loadPart' ho
    refine wpAny_stack_any fun st => wpAny_pure ?_
    split
    · rename_i c _ _ _ _ _
      cases (c == Value.type "enumerate")
      · wp_walk using q1, wpAny_loadPart' ho
        exact ⟨_, rfl, h⟩
      · wp_walk using q1, wpAny_loadPart' ho
        exact ⟨_, rfl, h⟩
    · wp_walk using q1, wpAny_loadPart' ho
      exact ⟨_, rfl, h⟩
theorem call_enumG {prog : Program} {w : World} {A : Around} {E : Value → Shared → Prop} {s : Shared} {a : Addr} {g : Nat} {Q : Value → Shared → Prop} (hg : s.heap.IsGen a g)
    (h : ∀ h', IsEnum h' s.heap.objs.size a 0 .none → h'.objs.size = s.heap.objs.size + 1 → (∀ b o, s.heap.get? b = some o → h'.get? b = some o) → Q (.ref s.heap.objs.size) { s with heap := h' }) :
    wpAny (model prog w) A (call (.type "enumerate") [.ref a]) Q E s := by
  refine callType_new F.called_enumerate (by decide) (F.typeCall_enumerate_1 _) (F.newCall_enumerate_1 _) (fun obj => F.args_object_init_2 obj _) F.entry_enumerate_new (meets_enumG a g) ⟨hg, ?_⟩
  have he : IsEnum (s.heap.push { cls := .type "enumerate", data := .fields #[.none, .bool false, .ref a, rawInt 0, .none, .none] }) s.heap.objs.size a 0 .none := Heap.get?_push_size _ rfl
  exact ⟨⟨_, he, rfl⟩, h _ he (Heap.size_push ..) fun b o x => Heap.get?_push_of_some _ x⟩
end Ser
end
section
set_option maxRecDepth 100000
set_option maxHeartbeats 4000000
/-! a generator that a for walks: the statement -/
namespace Ser
open PySem L2 GenW PySem.Slp
open PyProof.Rows hiding St RelV
/-- a generator that has not begun: its frame env, its object a, its number g -/
structure Made (X : Cx) (pins : List (Addr × Obj)) (σ : L2.St) (H : Hp) (NG : List Str) (body : List Stmt) (scope : Scope) (τ0 : L2.St) (env : Env) (a : Addr) (g : Nat) (s' : Shared) : Prop where
  gen : s'.heap.IsGen a g
  gs : s'.gens[g]? = some (.fresh (.func body env))
  lt : env.locals < a
  inv : Inv X pins σ H s'
  home : Home X env pins
  frm : Frm env NG τ0 s'
  hL : H env.locals = none
  ha : H a = none
  sc : env.scope = scope
  big : ∀ b o, s'.heap.get? b = some o → b ≤ a
theorem cells_none {x : Str} : ∀ (names : List (Str × NameKind)) (n : Nat) (acc : List (Str × Addr)), (∀ y ∈ names, y.2 ≠ .cell) → acc.lookup x = none → (cellsFrom n names acc).lookup x = none
  | [], _, _, _, h => h
  | (y, k) :: r, n, acc, hn, h => by
    unfold cellsFrom
    have hk : k ≠ .cell := hn (y, k) List.mem_cons_self
    have hk' : (k == NameKind.cell) = false := by
      cases k <;> first | rfl | exact absurd rfl hk
    rw [hk']
    exact cells_none r _ _ (fun z hz => hn z (List.mem_cons_of_mem _ hz)) h
/-- what a parameter's slot holds at the start -/
theorem start_at {N : List Str} {vs : List V} {i : Nat} {v : V} (h : (L2.start N vs)[i]? = some (some v)) : vs[i]? = some v := by
  have e : L2.start N vs = vs.map some ++ List.replicate (N.length - vs.length) none := rfl
  rw [e, List.getElem?_append] at h
  split at h
  · rw [List.getElem?_map] at h
    obtain ⟨a, q1, q2⟩ := Option.map_eq_some_iff.mp h
    rw [q1, Option.some.inj q2]
  · exact nomatch List.eq_of_mem_replicate (List.mem_of_getElem? h)
theorem gen_made {X : Cx} {pins : List (Addr × Obj)} {σ : L2.St} {H : Hp} {s : Shared} {x qual : Str} {params : Arguments} {body : List Stmt} {scope : Scope} {f : Addr} {fd : FuncData} {N ps : List Str} {us : List Value} {vs : List V} {E1 : Value → Shared → Prop}
    (F : FunD X.K x qual params body scope [] [] f fd) (S : GScope N ps scope) (hnc : ∀ y ∈ scope.names, y.2 ≠ .cell) (hpn : ps.length ≤ N.length) (hex : X.ex = []) (hr : X.A.depth < recursionLimit) (I : Inv X pins σ H s) (hb : BindsTo s fd ⟨us, []⟩ (ps.zip us)) (hl : vs.length = ps.length) (r : Vals vs us) :
    wpAny (model X.prog X.w) X.A (call (.ref f) us) (fun u s' => ∃ a g L cd, u = .ref a ∧ Made X pins σ H N body scope (start N vs) (envOfC qual scope L f cd) a g s') E1 s := by
  obtain ⟨oc, od, dV, kV, doc, pm, an, cdv, ct, osl, rfl, lk, hcd, _, _⟩ := F.ex
  have KX : X.K.In s.heap := I.kIn
  have hsl : ∀ x, scope.names.lookup x ≠ some .cell ∧ scope.names.lookup x ≠ some .free := fun x => ⟨fun e => hnc _ (PySem.mem_of_lookup e) rfl, fun e => S.nofree _ (PySem.mem_of_lookup e) rfl⟩
  have hkind : ∀ y ∈ ps.zip us, scope.names.lookup y.1 = some .local ∨ (scope.names.lookup y.1 = some .cell ∧ ((cellsFrom (s.heap.objs.size + 1) scope.names []).lookup y.1).isSome = true) := fun ⟨n, v⟩ hy => by
    rcases S.par n (List.of_mem_zip hy).1 with q | q
    · exact .inl q
    · exact absurd q (hsl n).1
  refine wpAny_call (codeAny_call_generator hr (KX _ _ lk) rfl S.co S.gen rfl (PySem.W.codeRec_of KX hcd) (hb _ _ _ _ ?_))
  refine wpAny_newFunctionEnv_cells S.kind hkind fun env he s1 q => ?_
  subst he
  have lim1 : s1.heap.NoLimit := I.nolimit.keeps q.toInCall.keep
  refine ⟨lim1, ?_⟩
  obtain ⟨h1, tk, es1, hk1⟩ := q.done
  have kp1 : ∀ b o, s.heap.get? b = some o → s1.heap.get? b = some o := q.toInCall.keep
  have lt1 : s.heap.objs.size < s1.heap.objs.size := q.toInCall.ns.lt
  have ns1 := q.toInCall.ns
  refine ⟨s1.heap.objs.size, s1.gens.size, s.heap.objs.size, cdv, rfl, ⟨⟨_, _, _, Heap.get?_push_size _ rfl, rfl, rfl, rfl⟩, Array.getElem?_push_size .., lt1, ?_, ?_, ?_, I.hok.fresh (Nat.le_refl _), I.hok.fresh (Nat.le_of_lt lt1), rfl, fun b o e => ?_⟩⟩
  · subst es1
    exact Ser.Inv.regen (I.kept (h' := h1.push _) (t' := _) fun b u e => Heap.get?_push_of_some _ (hk1 b u e)) (AllBare.push I.bare rfl)
  · refine ⟨S.kind, rfl, rfl, fun x => ?_, hsl, rfl, I.sz, fun b hb => ?_, I.lt, fun x c e => ?_, fun p hp => ?_, hex⟩
    · exact cells_none _ _ _ hnc rfl
    · obtain ⟨_, o, ho, _⟩ := I.stack.mem hb
      exact Heap.lt_size ho
    · obtain ⟨v, o, ho, _⟩ := I.cell x c e
      exact Heap.lt_size ho
    · exact Heap.lt_size (I.pin p hp).1
  · refine ⟨?_, _, ns1.push _, fun i y v h1 h2 h3 => ?_⟩
    · unfold L2.start
      rw [List.length_append, List.length_map, List.length_replicate]
      omega
    · have ha := start_at h2
      obtain ⟨u, hu, rv⟩ := r.get ha
      have lt : i < ps.length := hl ▸ (List.getElem?_eq_some_iff.mp ha).1
      have hp : ps[i]? = some y := (congrArg (fun l => l[i]?) S.pre).symm.trans ((List.getElem?_take_of_lt lt).trans h1)
      have ndP : ps.Nodup := S.pre ▸ S.nd.sublist (List.take_sublist ps.length N)
      rcases S.par y (List.mem_of_getElem? hp) with k | k
      · exact ⟨u, rv, k, bindL_get ndP hp hu k⟩
      · exact absurd k (hsl y).1
  · exact Nat.lt_succ_iff.mp (Nat.lt_of_lt_of_le (Heap.lt_size e) (Nat.le_of_eq (Heap.size_push ..)))

/-! ### one turn of the walk -/
/-- the walker and the sleeper ahead of turn j -/
structure Zz (X : Cx) (env : Env) (NG : List Str) (pins : List (Addr × Obj)) (Z : Wlk) (g : Nat) (j : Nat) (s : Shared) (σ : L2.St) (H : Hp) : Prop where
  inv : Inv X pins σ H s
  w : Z.W j σ H
  gen : s.heap.IsGen Z.a g
  enum : ∃ old, IsEnum s.heap Z.e Z.a (j : Int) old
  no : ∀ b, b = env.locals ∨ b = Z.a ∨ b = Z.e → H b = none
  fr : ∃ o, s.heap.get? env.locals = some o ∧ ∀ v, o.data ≠ .cell v
  gs : ∃ gs, s.gens[g]? = some gs ∧ ∀ s2 σ2 H2, Bk X env pins Z j s H s2 σ2 H2 → gs.Goes (model X.prog X.w) X.A.in1.in1 Nend (Otp X env NG pins Z) (Z.n - j) (.send .none) s2
/-- amid turn j: the pair at T is out -/
structure Zm (X : Cx) (env : Env) (NG : List Str) (pins : List (Addr × Obj)) (Z : Wlk) (g : Nat) (j : Nat) (s : Shared) (σ : L2.St) (H : Hp) (T : Addr) (x : V) : Prop where
  inv : Inv X pins σ (upd H T (.tup [.int j, x])) s
  w : Z.W j σ H
  y : Z.Y j x H
  new : H T = none
  pin : ∀ b, b = env.locals ∨ b = Z.a ∨ b = Z.e → (upd H T (.tup [.int j, x])) b = none ∧ ∃ o, s.heap.get? b = some o ∧ ∀ v, o.data ≠ .cell v
  susp : ∃ k l c p fs, s.gens[g]? = some (.suspended k l c p fs false)
  next : ∀ s2 σ2 H2, Inv X pins σ2 H2 s2 → Z.W (j + 1) σ2 H2 → Same (upd H T (.tup [.int j, x])) H2 → (∀ b, b = env.locals ∨ b = Z.a ∨ b = Z.e → H2 b = none ∧ ∀ o, s.heap.get? b = some o → s2.heap.get? b = some o) → s2.gens[g]? = s.gens[g]? →
    Zz X env NG pins Z g (j + 1) s2 σ2 H2
theorem setGen_at {s : Shared} {g : Nat} {x y : GenState} (h : s.gens[g]? = some x) : (s.setGen g y).gens[g]? = some y := by
  have hlt : g < s.gens.size := (Array.getElem?_eq_some_iff.mp h).1
  show (s.gens.setIfInBounds g y)[g]? = some y
  rw [Array.getElem?_setIfInBounds_self_of_lt hlt]
section
variable {X : Cx} {env : Env} {pins : List (Addr × Obj)} {NG : List Str} {Z : Wlk}
theorem Home.fp (h : Home X env pins) {σ : L2.St} {H : Hp} {s : Shared} (I : Inv X pins σ H s) {b : Addr} (hb : env.locals ≤ b) (hn : H b = none) : FpOk X pins H b := by
  refine ⟨hn, Nat.ne_of_gt (Nat.lt_of_lt_of_le h.loc hb), fun z => ?_, .inr (Nat.le_trans h.above hb), fun x c e => Nat.ne_of_lt (Nat.lt_of_lt_of_le (h.cel x c e) hb), fun p hp => Nat.ne_of_lt (Nat.lt_of_lt_of_le (h.pin p hp) hb)⟩
  have z' : b ∈ frs X.stack := by
    rcases I.ok.stk with e | ⟨e, hf⟩
    · rw [e]; exact z
    · rw [e]
      unfold frs
      rw [List.filterMap_cons, hf]
      exact List.mem_cons_of_mem _ z
  exact absurd (h.stk b z') (Nat.not_lt.mpr hb)
theorem gen_item {g j : Nat} {s : Shared} {σ : L2.St} {H : Hp} {elts : List Expr} {x1 : Nat} {tpos : Pos} {E : Value → Shared → Prop} (h : Home X env pins) (hZ : env.locals < Z.a ∧ env.locals < Z.e) (hae : Z.a ≠ Z.e) (hroom : X.A.in1.depth < recursionLimit)
    (z : Zz X env NG pins Z g j s σ H) (hj : j + 2 ≤ Z.n) :
    wpAny (model X.prog X.w) X.A (pyNext (.ref Z.e)) (fun r s4 => ∃ T, r = some (.ref T) ∧ wpAny (model X.prog X.w) X.A (letOwnedTupleGo (.Tuple elts x1 tpos) (.ref Z.e) (.ref T)) (fun _ s5 => ∃ σ1 H1 x, Zm X env NG pins Z g j s5 σ1 H1 T x) E s4) E s := by
  obtain ⟨old, he⟩ := z.enum
  obtain ⟨gs, hgs, hgo⟩ := z.gs
  obtain ⟨og, nm, qn, hog, hgc, hgd, hgsl⟩ := id z.gen
  have bk : Bk X env pins Z j s H (s.setGen g .running) σ H := by
    refine ⟨Ser.Inv.regen z.inv (allBare_setGen z.inv.bare rfl), z.w, fun _ _ e => e, fun o e => e, z.no _ (.inl rfl), ⟨z.no _ (.inr (.inl rfl)), og, hog, fun v q => ?_⟩, z.no _ (.inr (.inr rfl)), _, he, fun v q => nomatch q⟩
    rw [hgd] at q; cases q
  refine enum_next he (gen_nextOf z.inv.nolimit hroom z.gen hgs (hgo _ _ _ bk) fun v s1 k1 l1 c1 p1 f1 hz hv => ?_)
  rcases hv with hv | ⟨j', σ1, H1, x, ej, I1, w1, rv, y1, nL, oL, kae, kap⟩
  · omega
  obtain rfl : j' = j := by omega
  obtain ⟨na, ka⟩ := kae Z.a (.inl rfl)
  obtain ⟨ne, ke⟩ := kae Z.e (.inr rfl)
  have I1' : Inv X pins σ1 H1 (s1.setGen g (.suspended k1 l1 c1 p1 f1 false)) := Ser.Inv.regen I1 (allBare_setGen I1.bare rfl)
  have e1 : IsEnum s1.heap Z.e Z.a (j' : Int) old := ke _ he
  refine ⟨e1, fun h2 tk tk2 e2 hT k2 => ⟨_, rfl, ?_⟩⟩
  replace hT : h2.get? s1.heap.objs.size = some { cls := .type "tuple", data := .seq #[.int (j' : Int) tk, v] } := hT
  replace k2 : ∀ b o, b ≠ Z.e → s1.heap.get? b = some o → h2.get? b = some o := k2
  have hTe : s1.heap.objs.size ≠ Z.e := Nat.ne_of_gt (Heap.lt_size e1)
  refine wpAny_letOwnedTupleGo_enum e2 fun h3 e3 k3 => ?_
  replace k3 : Heap.SameBut Z.e h2 h3 := k3
  have kk : ∀ b o, b ≠ Z.e → s1.heap.get? b = some o → h3.get? b = some o := fun b o hb q => k3.extBut b o hb (k2 b o hb q)
  have hT3 : h3.get? s1.heap.objs.size = some { cls := .type "tuple", data := .seq #[.int (j' : Int) tk, v] } := k3.extBut _ _ hTe hT
  have new : ObjOk X.prog X.w (upd H1 s1.heap.objs.size (.tup [.int j', x])) h3 s1.heap.objs.size (.tup [.int j', x]) := ⟨by show 2 ≤ sizeLine; decide, [.int (j' : Int) tk, v], .cons ⟨_, rfl⟩ (.cons rv .nil), ⟨_, hT3, rfl, _, rfl⟩⟩
  have hn : H1 s1.heap.objs.size = none := I1.hok.fresh (Nat.le_refl _)
  have I3 := I1'.turnedNew (t' := tk2) (h' := h3) (ch := [Z.e]) (fun b o hb q => kk b o (fun w => hb (by simp [w])) q) (fun b hb => by rw [List.mem_singleton.mp hb]; exact h.fp I1' (Nat.le_of_lt hZ.2) ne) (Nat.le_refl _) new
  have sz : ∀ b, (∃ o, s1.heap.get? b = some o) → b ≠ s1.heap.objs.size := fun b ⟨o, q⟩ => Nat.ne_of_lt (Heap.lt_size q)
  obtain ⟨oL, hoL, hdL⟩ := oL
  have hLe : env.locals ≠ Z.e := Nat.ne_of_lt hZ.2
  have hg1 : g < s1.gens.size := Nat.lt_of_lt_of_le (Array.getElem?_eq_some_iff.mp hgs).1 hz
  have eg := setGen_at (y := .suspended k1 l1 c1 p1 f1 false) (s := s1) (g := g) (Array.getElem?_eq_getElem hg1)
  refine ⟨σ1, H1, x, I3, w1, y1, hn, fun b hb => ?_, ⟨k1, l1, c1, p1, f1, eg⟩, fun s6 σ6 H6 I6 w6 same6 keep6 gs6 => ?_⟩
  · rcases hb with rfl | rfl | rfl
    · exact ⟨(upd_ne (sz _ ⟨_, hoL⟩)).trans nL, oL, kk _ _ hLe hoL, hdL⟩
    · refine ⟨(upd_ne (sz _ ⟨_, ka _ hog⟩)).trans na, og, kk _ _ hae (ka _ hog), fun v q => ?_⟩
      rw [hgd] at q; cases q
    · exact ⟨(upd_ne (sz _ ⟨_, e1⟩)).trans ne, _, e3, fun v q => nomatch q⟩
  · refine ⟨I6, w6, ⟨og, nm, qn, (keep6 _ (.inr (.inl rfl))).2 _ (kk _ _ hae (ka _ hog)), hgc, hgd, hgsl⟩, ⟨_, (keep6 _ (.inr (.inr rfl))).2 _ e3⟩, fun b hb => (keep6 b hb).1, ⟨oL, (keep6 _ (.inl rfl)).2 _ (kk _ _ hLe hoL), hdL⟩, _, gs6.trans eg, fun s7 σ7 H7 b7 => ?_⟩
    obtain ⟨m, hm⟩ : ∃ m, Z.n - j' = m + 1 := ⟨Z.n - j' - 1, by omega⟩
    have em : Z.n - (j' + 1) = m := by omega
    have q := kap s7 σ7 H7 ⟨b7.inv, b7.w, fun a u q => b7.same a u (same6 a u ((upd_ne (ne_of_none q hn)).trans q)), fun o q => b7.fr o ((keep6 _ (.inl rfl)).2 _ (kk _ _ hLe q)), b7.hL, b7.oa, b7.oe⟩
    rw [hm] at q
    rw [em]
    exact q
end
end Ser
end
section
set_option maxRecDepth 100000
set_option maxHeartbeats 4000000
/-! for i, x in enumerate(generator(..)): the statement -/
namespace Ser
open PySem L2 GenW PySem.Slp
open PyProof.Rows hiding St RelV
/-- a def of a generator, as it stands -/
structure GDef (K : PySem.W.Frag) (mg : Str → Option Value) (fx : Str) (NG ps : List Str) (scope : Scope) (body : List Stmt) (f : Addr) (fd : FuncData) : Prop where
  fun_ : ∃ params, FunD K fx fx params body scope [] [] f fd
  sc : GScope NG ps scope
  nc : ∀ y ∈ scope.names, y.2 ≠ .cell
  gl : mg fx = some (.ref f)
  kp : PySem.W.keepIn K (.ref f) = true
  bi : Binds K fd ps []
def tForGen (X : Cx) (k : Nat) (fx : Str) (NG : List Str) (n0 : Nat) (scope : Scope) (bodyG : List Stmt) (ta : TA) (g : TG) (tb : TS) : TS := fun D σ H => ta σ H fun vs H1 => vs.length = n0 ∧
  ∃ (W : Nat → L2.St → Hp → Prop) (Y : Nat → V → Hp → Prop) (n : Nat), W 0 σ H1 ∧ (∀ j σ H H', Same H H' → W j σ H → W j σ H') ∧ (∀ j σ H, W j σ H → j + 2 ≤ n) ∧
    (∀ L f cd A a e, Room k A → GBody X A (envOfC fx scope L f cd) NG H1 (L2.start NG vs) ⟨W, Y, n, a, e⟩ bodyG) ∧
    ∀ j σ x H2, W j σ H2 → Y j x H2 → ∀ T, H2 T = none → g (.ref T) σ (upd H2 T (.tup [.int j, x])) fun σ3 H3 =>
      tb { D with nx := fun σ4 H4 => Same (upd H2 T (.tup [.int j, x])) H4 ∧ W (j + 1) σ4 H4, ct := fun σ4 H4 => Same (upd H2 T (.tup [.int j, x])) H4 ∧ W (j + 1) σ4 H4, bk := D.nx } σ3 H3
theorem ps_forGen {X : Cx} {k : Nat} {fx : Str} {NG ps : List Str} {scope : Scope} {bodyG : List Stmt} {f : Addr} {fd : FuncData} {ta : TA} {g : TG} {tb : TS} {elts : List Expr} {kk : Nat} {tpos p1 p2 p3 p4 pos : Pos} {e : Expr} {es : List Expr} {body : List Stmt}
    (hp : PassesOwn (model X.prog X.w) X.A X.env X.xe) (hex : X.ex = []) (hr : Room (k + 3) X.A) (G : GDef X.K X.mg fx NG ps scope bodyG f fd) (hpl : ps.length ≤ NG.length)
    (ha : PA X (e :: es) ta) (hg : PG X.nox (.Tuple elts kk tpos) g) (hb : PSs X.nox body tb) (gE : Gl X "enumerate") (mE : X.mg "enumerate" = none) (gF : Gl X fx)
    (hdb : (fx == ("__debug__" : Str)) = false := by decide) (he : starEach (e :: es) X.env = (false, eval e X.env) :: starEach es X.env := by rfl) (hq : (backTo p3 (starEach es X.env)).any (·.1) = false := by rfl)
    (he1 : starEach [.Call (.Name fx p2) (e :: es) [] p3] X.env = (false, eval (.Call (.Name fx p2) (e :: es) [] p3) X.env) :: starEach [] X.env := by rfl)
    (hs : ∀ x, foldedSetIterable (.Call (.Name "enumerate" p1) [.Call (.Name fx p2) (e :: es) [] p3] [] p4) X.env x = pure x := by intro _; rfl) :
    PS X (.For (.Tuple elts kk tpos) (.Call (.Name "enumerate" p1) [.Call (.Name fx p2) (e :: es) [] p3] [] p4) body [] pos) (tForGen X k fx NG ps.length scope bodyG ta g tb) := by
  refine ⟨fun pins s σ H D I h => ?_⟩
  refine wpAny_For (wpAny_Call_Name_kw (ld_blt I gE mE boot_enumerate (PyProof.Rows.callWith_type1 ?_ he1 rfl))) hs
  rw [he1]
  show wpAny _ _ (spliced ((false, eval (.Call (.Name fx p2) (e :: es) [] p3) X.env) :: backTo p4 (starEach [] X.env))) _ _ s
  refine Calls.spliced_cons ?_
  refine wpAny_Call_Name_kw (ld_glob I gF G.gl ?_ hdb)
  refine PySem.W.callWith_K (h₀ := X.base) I.ok.mod.kin G.kp (thn (ha.run p3 pins s σ H _ I h) fun us s1 ⟨vs, H1, I1, r, hl, W, Y, n, w0, hW, hn, hG, hbody⟩ => ⟨I1.kIn, ?_⟩) he hq
  obtain ⟨params, hF⟩ := G.fun_
  have hb0 := G.bi s1 us I1.kIn (by rw [List.append_nil]; exact r.length.symm.trans hl)
  rw [List.append_nil] at hb0
  refine thn (gen_made (N := NG) hF G.sc G.nc hpl hex hr.depth I1 hb0 hl r) fun u s2 ⟨a, gn, L, cd, hu, M⟩ => ?_
  subst hu
  refine Calls.spliced_nil (call_enumG M.gen fun h3 he3 hz3 hk3 => wpAny_pyIter_enum he3 ?_)
  have hZ : (envOfC fx scope L f cd).locals < a ∧ (envOfC fx scope L f cd).locals < s2.heap.objs.size := by
    refine ⟨M.lt, Nat.lt_trans M.lt ?_⟩
    obtain ⟨o, _, _, ho, _⟩ := M.gen
    exact Heap.lt_size ho
  have hae : a ≠ s2.heap.objs.size := by
    obtain ⟨o, _, _, ho, _⟩ := M.gen
    exact Nat.ne_of_lt (Heap.lt_size ho)
  have hA : (X.A.in1.in1.deeper (envOfC fx scope L f cd)).handled = none := hr.in1.in1.hd
  have hf : (X.A.in1.in1.deeper (envOfC fx scope L f cd)).frames = some (envOfC fx scope L f cd :: X.stack) := Around.frames_deeper (show X.A.in1.in1.frames = some X.stack from I1.ok.frames)
  have hi : interactive (envOfC fx scope L f cd) = false := by
    unfold interactive
    rw [show (envOfC fx scope L f cd).scope.kind = .function from G.sc.kind]
    rfl
  have he0 : H1 s2.heap.objs.size = none := M.inv.hok.fresh (Nat.le_refl _)
  have I3 : Inv X pins σ H1 { s2 with heap := h3 } := M.inv.kept (t' := s2.toks) hk3
  obtain ⟨mf, ⟨oL, es, ep, hoL, hdL, _⟩, _⟩ := M.frm.2
  have z0 : Zz X (envOfC fx scope L f cd) NG pins ⟨W, Y, n, a, s2.heap.objs.size⟩ gn 0 { s2 with heap := h3 } σ H1 := by
    refine ⟨I3, w0, M.gen.keeps hk3, ⟨_, he3⟩, fun b hb => ?_, ⟨oL, hk3 _ _ hoL, fun v q => ?_⟩, _, M.gs, fun s4 σ4 H4 b4 => ⟨rfl, ?_⟩⟩
    · rcases hb with rfl | rfl | rfl
      · exact M.hL
      · exact M.ha
      · exact he0
    · rw [hdL] at q; cases q
    · exact gen_fresh (A := X.A.in1.in1.deeper (envOfC fx scope L f cd)) M.home hZ hW over_func hA hf G.sc.co hi (hG L f cd _ a _ (hr.in1.in1.deeper _)) (M.frm.keeps fun o q => b4.fr o (hk3 _ _ q)) b4
  refine codeAny_forLoop_any (fun m s' => ∃ j σ' H', m = n - j ∧ Zz X (envOfC fx scope L f cd) NG pins ⟨W, Y, n, a, s2.heap.objs.size⟩ gn j s' σ' H') ?_ n ⟨0, σ, H1, rfl, z0⟩
  rintro m s4 ⟨j, σ4, H4, rfl, z⟩
  have hj : j + 2 ≤ n := hn j σ4 H4 z.w
  refine thn (gen_item (elts := elts) (x1 := kk) (tpos := tpos) M.home hZ hae (show X.A.in1.depth < _ from hr.in1.depth) z hj) fun r s5 ⟨T, hr5, q5⟩ => ?_
  subst hr5
  refine thn q5 fun _ s6 ⟨σ6, H6, x, mid⟩ => ?_
  have bare6 : AllBare s6.gens := mid.inv.bare
  have S0 := sim_all s6.gens
  have fpo : ∀ b ∈ [L, a, s2.heap.objs.size], FpOk X pins (upd H6 T (.tup [.int j, x])) b := fun b hb => by
    rcases List.mem_cons.mp hb with rfl | hb
    · exact M.home.fp mid.inv (Nat.le_refl _) (mid.pin _ (.inl rfl)).1
    rcases List.mem_cons.mp hb with rfl | hb
    · exact M.home.fp mid.inv (Nat.le_of_lt hZ.1) (mid.pin _ (.inr (.inl rfl))).1
    rw [List.mem_singleton.mp hb]
    exact M.home.fp mid.inv (Nat.le_of_lt hZ.2) (mid.pin _ (.inr (.inr rfl))).1
  have obj : ∀ b ∈ [L, a, s2.heap.objs.size], ∃ o, s6.heap.get? b = some o ∧ ∀ v, o.data ≠ .cell v := fun b hb => by
    rcases List.mem_cons.mp hb with rfl | hb
    · exact (mid.pin _ (.inl rfl)).2
    rcases List.mem_cons.mp hb with rfl | hb
    · exact (mid.pin _ (.inr (.inl rfl))).2
    rw [List.mem_singleton.mp hb]
    exact (mid.pin _ (.inr (.inr rfl))).2
  have IP : Inv X.nox (pins ++ pinsAt [L, a, s2.heap.objs.size] s6.heap) σ6 (upd H6 T (.tup [.int j, x])) { s6 with gens := s6.gens.map GenState.psn } :=
    (Ser.Inv.regen (mid.inv.pinned fpo obj) (bare_psn bare6)).wish _
  have back : ∀ {s8 : Shared} {b : Array GenState} {σ8 : L2.St} {H8 : Hp}, Sim (slp s6.gens) s8.gens b → Inv X.nox (pins ++ pinsAt [L, a, s2.heap.objs.size] s6.heap) σ8 H8 s8 → Inv X pins σ8 H8 (wg s8 b) := fun S I => Ser.Inv.regen I.unwish.unpinned (S.bare I.bare bare6)
  have again : ∀ {s8 : Shared} {b : Array GenState} {σ8 : L2.St} {H8 : Hp}, Sim (slp s6.gens) s8.gens b → Inv X.nox (pins ++ pinsAt [L, a, s2.heap.objs.size] s6.heap) σ8 H8 s8 → Same (upd H6 T (.tup [.int j, x])) H8 → W (j + 1) σ8 H8 →
      ∃ m, m < n - j ∧ ∃ j' σ' H', m = n - j' ∧ Zz X (envOfC fx scope L f cd) NG pins ⟨W, Y, n, a, s2.heap.objs.size⟩ gn j' (wg s8 b) σ' H' := fun {s8 b σ8 H8} S I hs w => by
    refine ⟨n - (j + 1), by omega, j + 1, σ8, H8, rfl, mid.next _ _ _ (back S I) w hs (fun b' hb' => ?_) ?_⟩
    · have hm : b' ∈ [L, a, s2.heap.objs.size] := by
        rcases hb' with rfl | rfl | rfl
        · exact List.mem_cons_self
        · exact List.mem_cons_of_mem _ List.mem_cons_self
        · exact List.mem_cons_of_mem _ (List.mem_cons_of_mem _ List.mem_cons_self)
      obtain ⟨ob, eo, _⟩ := obj b' hm
      have p := I.pin (b', ob) (List.mem_append_right _ (List.mem_append_right _ (mem_pinsAt hm eo)))
      exact ⟨p.2.1, fun o q => by rw [eo] at q; cases q; exact p.1⟩
    · obtain ⟨k1, l1, c1, p1, f1, es⟩ := mid.susp
      exact (S.keeps es).trans es.symm
  refine wpAny_passesOwn hp (wpAny_mono (wpAny_sim (s := { s6 with gens := s6.gens.map GenState.psn }) S0 (hg.run _ _ σ6 _ (.ref T) (.ref T) _ IP rfl (hbody j σ6 x H6 mid.w mid.y T mid.new))) (fun _ s7 q7 => ?_) fun _ _ ⟨_, _, _, _, q⟩ => q.elim)
  obtain ⟨s8, b8, rfl, S8, σ8, H8, I8, q8⟩ := q7
  refine wpAny_passesOwn hp (wpAny_mono (wpAny_sim S8 (hb.run _ s8 σ8 H8 _ I8 q8)) (fun fl s9 q9 => ?_) fun _ _ ⟨_, _, _, _, q⟩ => q.elim)
  obtain ⟨t9, b9, rfl, S9, q9⟩ := q9
  cases fl with
  | next => obtain ⟨σ9, H9, I9, hs9, w9⟩ := q9; exact again S9 I9 hs9 w9
  | cont => obtain ⟨σ9, H9, I9, hs9, w9⟩ := q9; exact again S9 I9 hs9 w9
  | brk => obtain ⟨σ9, H9, I9, q9⟩ := q9; exact ⟨σ9, H9, back S9 I9, q9⟩
  | ret v => obtain ⟨x9, σ9, H9, I9, r9, q9⟩ := q9; exact ⟨x9, σ9, H9, back S9 I9, r9, q9⟩
end Ser
end
section
namespace SM
/-! ### counts by nodes -/
def cv : List (Nat × Int) → Nat → Int
  | [], _ => 0
  | p :: r, k => if p.1 = k then p.2 else cv r k
def hasN (cs : List (Nat × Int)) (k : Nat) : Bool := cs.any fun p => decide (p.1 = k)
def putN (cs : List (Nat × Int)) (k : Nat) (v : Int) : List (Nat × Int) := if hasN cs k = true then cs.map (fun p => if p.1 = k then (p.1, v) else p) else cs ++ [(k, v)]
theorem cv_no : ∀ {cs : List (Nat × Int)} {k : Nat}, k ∉ cs.map (·.1) → cv cs k = 0
  | [], _, _ => rfl
  | p :: r, k, h => by
    rw [List.map_cons, List.mem_cons, not_or] at h
    unfold cv
    rw [if_neg (fun e => h.1 e.symm)]
    exact cv_no h.2
theorem hasN_iff {cs : List (Nat × Int)} {k : Nat} : hasN cs k = true ↔ k ∈ cs.map (·.1) := by
  unfold hasN
  rw [List.any_eq_true, List.mem_map]
  constructor
  · rintro ⟨p, hp, e⟩
    exact ⟨p, hp, of_decide_eq_true e⟩
  · rintro ⟨p, hp, e⟩
    exact ⟨p, hp, decide_eq_true e⟩
theorem cv_map {v : Int} {k j : Nat} : ∀ {cs : List (Nat × Int)}, k ∈ cs.map (·.1) → cv (cs.map (fun p => if p.1 = k then (p.1, v) else p)) j = if j = k then v else cv cs j
  | [], h => by simp at h
  | p :: r, h => by
    rw [List.map_cons]
    by_cases e : p.1 = k
    · rw [if_pos e]
      unfold cv
      by_cases ej : j = k
      · subst ej; simp [e]
      · rw [if_neg ej]
        have e2 : ¬ p.1 = j := fun z => ej (z.symm.trans e)
        rw [if_neg e2, if_neg e2]
        by_cases hr : k ∈ r.map (·.1)
        · rw [cv_map hr, if_neg ej]
        · congr 1
          refine (List.map_congr_left fun q hq => ?_).trans (List.map_id r)
          rw [if_neg (fun z => hr (List.mem_map.mpr ⟨q, hq, z⟩))]; rfl
    · rw [if_neg e]
      have hr : k ∈ r.map (·.1) := by
        rw [List.map_cons, List.mem_cons] at h
        exact h.resolve_left fun z => e z.symm
      unfold cv
      by_cases ep : p.1 = j
      · rw [if_pos ep, if_pos ep, if_neg (fun z => e (ep.trans z))]
      · rw [if_neg ep, if_neg ep, cv_map hr]
theorem cv_app {v : Int} {k j : Nat} : ∀ {cs : List (Nat × Int)}, k ∉ cs.map (·.1) → cv (cs ++ [(k, v)]) j = if j = k then v else cv cs j
  | [], _ => by
    show (if k = j then v else 0) = if j = k then v else 0
    by_cases e : j = k
    · rw [if_pos e, if_pos e.symm]
    · rw [if_neg e, if_neg (fun z => e z.symm)]
  | p :: r, h => by
    rw [List.map_cons, List.mem_cons, not_or] at h
    show (if p.1 = j then p.2 else cv (r ++ [(k, v)]) j) = if j = k then v else (if p.1 = j then p.2 else cv r j)
    by_cases ep : p.1 = j
    · rw [if_pos ep, if_pos ep, if_neg (fun z => h.1 (z.symm.trans ep.symm))]
    · rw [if_neg ep, if_neg ep, cv_app h.2]
theorem cv_put (cs : List (Nat × Int)) (k : Nat) (v : Int) (j : Nat) : cv (putN cs k v) j = if j = k then v else cv cs j := by
  unfold putN
  split
  · rename_i h; exact cv_map (hasN_iff.mp h)
  · rename_i h; exact cv_app (fun z => h (hasN_iff.mpr z))
/-- keys that stand once, each a node -/
structure Kd (n : Nat) (cs : List (Nat × Int)) : Prop where
  nd : (cs.map (·.1)).Nodup
  lt : ∀ p ∈ cs, p.1 < n
theorem Kd.len {n : Nat} {cs : List (Nat × Int)} (h : Kd n cs) : cs.length ≤ n := by
  have := nodup_le (n := n) (js := cs.map (·.1)) h.nd fun x hx => by
    obtain ⟨p, hp, rfl⟩ := List.mem_map.mp hx
    exact h.lt p hp
  rw [List.length_map] at this
  exact this
theorem Kd.put {n : Nat} {cs : List (Nat × Int)} (h : Kd n cs) {k : Nat} (hk : k < n) (v : Int) : Kd n (putN cs k v) := by
  unfold putN
  split
  · refine ⟨?_, fun p hp => ?_⟩
    · have e : (cs.map (fun p => if p.1 = k then (p.1, v) else p)).map (·.1) = cs.map (·.1) := by
        rw [List.map_map]
        refine List.map_congr_left fun p _ => ?_
        show (if p.1 = k then (p.1, v) else p).1 = p.1
        split <;> rfl
      rw [e]; exact h.nd
    · obtain ⟨q, hq, rfl⟩ := List.mem_map.mp hp
      split
      · exact h.lt q hq
      · exact h.lt q hq
  · rename_i hn
    refine ⟨?_, fun p hp => ?_⟩
    · rw [List.map_append, List.map_cons, List.map_nil, List.nodup_append]
      refine ⟨h.nd, by simp, fun a ha b hb e => hn (hasN_iff.mpr ?_)⟩
      rw [List.mem_singleton] at hb
      have hb' : b = k := hb
      rw [← hb', ← e]; exact ha
    · rcases List.mem_append.mp hp with z | z
      · exact h.lt p z
      · rw [List.mem_singleton.mp z]; exact hk
def lsm (f : Nat → Int) (cs : List (Nat × Int)) : Int := cs.foldr (fun p s => p.2 * f p.1 + s) 0
theorem lsm_app (f : Nat → Int) (a : List (Nat × Int)) (p : Nat × Int) : lsm f (a ++ [p]) = lsm f a + p.2 * f p.1 := by
  induction a with
  | nil => show p.2 * f p.1 + 0 = 0 + p.2 * f p.1; omega
  | cons q a ih =>
    show q.2 * f q.1 + lsm f (a ++ [p]) = (q.2 * f q.1 + lsm f a) + p.2 * f p.1
    rw [ih]; omega
theorem lsm_sm {n : Nat} (f : Nat → Int) : ∀ {cs : List (Nat × Int)}, Kd n cs → lsm f cs = sm n fun j => cv cs j * f j
  | [], _ => by
    rw [sm_zero fun i _ => by show (0 : Int) * f i = 0; rw [Int.zero_mul]]; rfl
  | p :: r, h => by
    have hn := h.nd
    rw [List.map_cons, List.nodup_cons] at hn
    have hr : Kd n r := ⟨hn.2, fun q hq => h.lt q (List.mem_cons_of_mem _ hq)⟩
    have hp := h.lt p List.mem_cons_self
    have e : sm n (fun j => cv (p :: r) j * f j) = sm n fun j => (if j = p.1 then p.2 else 0) * f j + cv r j * f j := sm_congr fun j hj => by
      show (if p.1 = j then p.2 else cv r j) * f j = _
      by_cases ej : p.1 = j
      · rw [if_pos ej, if_pos ej.symm, cv_no (by rw [← ej]; exact hn.1)]; grind
      · rw [if_neg ej, if_neg (fun z => ej z.symm)]; grind
    rw [e, sm_add, sm_one hp (fun i _ hi => by rw [if_neg hi]; grind), if_pos rfl]
    show p.2 * f p.1 + lsm f r = _
    rw [lsm_sm f hr]
/-- the counts of a depth -/
structure Cn (T : Tree) (d : Nat) (cs : List (Nat × Int)) : Prop where
  kd : Kd T.length cs
  at_ : ∀ k, k < T.length → cv cs k = Wv T d k
theorem Cn.zero {T : Tree} (h : 0 < T.length) : Cn T 0 [(0, 1)] where
  kd := ⟨by simp, fun p hp => by rw [List.mem_singleton.mp hp]; exact h⟩
  at_ := fun k _ => by
    show (if 0 = k then 1 else 0) = ind (k = 0)
    unfold ind
    by_cases e : k = 0
    · rw [if_pos e, if_pos e.symm]
    · rw [if_neg e, if_neg (fun z => e z.symm)]
/-- what the rows that end at a place are, the first i nodes' -/
def gF (T : Tree) (cs : List (Nat × Int)) (i : Nat) (p : Int) : Int := lsm (fun k => ind (tl T k = p) + ind (tr T k = p)) (cs.take i)
theorem gF_all {T : Tree} {d : Nat} {cs : List (Nat × Int)} (h : Cn T d cs) (p : Int) : gF T cs cs.length p = sm T.length fun j => Wv T d j * (ind (tl T j = p) + ind (tr T j = p)) := by
  unfold gF
  rw [List.take_length, lsm_sm _ h.kd]
  exact sm_congr fun j hj => by rw [h.at_ j hj]
theorem gF_step {T : Tree} {cs : List (Nat × Int)} {i : Nat} {q : Nat × Int} (h : cs[i]? = some q) (p : Int) : gF T cs (i + 1) p = gF T cs i p + q.2 * ind (tl T q.1 = p) + q.2 * ind (tr T q.1 = p) := by
  unfold gF
  rw [List.take_add_one, h]
  show lsm _ (cs.take i ++ [q]) = _
  rw [lsm_app]
  grind
theorem gF_zero {T : Tree} {cs : List (Nat × Int)} (p : Int) : gF T cs 0 p = 0 := rfl
end SM
end
section
set_option maxRecDepth 100000
set_option maxHeartbeats 4000000
namespace Ser
open PySem L2
open PyProof.Rows hiding St RelV
section
variable {P : Program} {w : World} {K : PySem.W.Frag} {mg : Str → Option Value} {base : Heap} {aN aW : Addr}
/-! ### leaves_by_depth -/
abbrev sLeavesByDepth : Stmt := top 37
def NLeavesByDepth : List Str := ["many", "tree", "counts", "onward", "leaves", "node", "count", "place"]
theorem scLeavesByDepth : GScope NLeavesByDepth ["many", "tree"] (defScope sLeavesByDepth) := ⟨rfl, rfl, rfl, by decide +kernel, rfl, by decide +kernel, by decide +kernel⟩
def kI (cs : List (Nat × Int)) : List (Key × V) := cs.map fun p => (Sum.inl (p.1 : Int), V.int p.2)
theorem kI_get (k : Nat) : ∀ cs : List (Nat × Int), (valV (kI cs) (Sum.inl (k : Int))).getD (.int 0) = .int (SM.cv cs k)
  | [] => rfl
  | p :: r => by
    show (valV ((Sum.inl (p.1 : Int), V.int p.2) :: kI r) _).getD _ = _
    unfold SM.cv
    by_cases e : p.1 = k
    · rw [if_pos e, valV_pos (by show (Sum.inl (p.1 : Int) : Key) = _; rw [e])]; rfl
    · rw [if_neg e, valV_neg (fun z => e (by have := Sum.inl.inj z; omega))]
      exact kI_get k r
theorem kI_has (k : Nat) (cs : List (Nat × Int)) : ((kI cs).any fun kv => decide (kv.1 = Sum.inl (k : Int))) = SM.hasN cs k := by
  unfold kI SM.hasN
  rw [List.any_map]
  congr 1
  funext p
  show decide ((Sum.inl (p.1 : Int) : Key) = Sum.inl (k : Int)) = decide (p.1 = k)
  exact decide_eq_decide.mpr ⟨fun z => by have := Sum.inl.inj z; omega, fun z => by rw [z]⟩
theorem kI_put (k : Nat) (v : Int) (cs : List (Nat × Int)) : putK (kI cs) (Sum.inl (k : Int)) (.int v) = kI (SM.putN cs k v) := by
  unfold putK SM.putN
  rw [kI_has]
  split
  · unfold kI
    rw [List.map_map, List.map_map]
    refine List.map_congr_left fun p _ => ?_
    show (if (Sum.inl (p.1 : Int) : Key) = Sum.inl (k : Int) then (Sum.inl (p.1 : Int), V.int v) else (Sum.inl (p.1 : Int), V.int p.2)) = (Sum.inl (((if p.1 = k then (p.1, v) else p) : Nat × Int).1 : Int), V.int ((if p.1 = k then (p.1, v) else p) : Nat × Int).2)
    by_cases e : p.1 = k
    · rw [if_pos e, if_pos (by rw [e])]
    · rw [if_neg e, if_neg (fun z => e (by have := Sum.inl.inj z; omega))]
  · unfold kI
    rw [List.map_append]; rfl
def Exd (d : Addr) (H H' : Hp) : Prop := ∀ a u, H a = some u → a ≠ d → H' a = some u
theorem Exd.put {d p : Addr} {H H' : Hp} {o : HO} (e : Exd d H H') (h : H p = none) : Exd d H (upd H' p o) := fun a u q n => by rw [upd_ne (ne_of_none q h)]; exact e a u q n
theorem Exd.then {d : Addr} {H H' H2 : Hp} (e : Exd d H H') (s : Same H' H2) : Exd d H H2 := fun a u q n => s _ _ (e a u q n)
theorem Exd.new {d p : Addr} {H H' : Hp} {o : HO} (e : Exd d H H') (h : H' p = none) : Exd d H (upd H' p o) := e.then (Ser.Same.new h)
theorem Exd.tup {d : Addr} {H H' : Hp} (e : Exd d H H') {kvs : List (Key × V)} (h : H d = some (.dK kvs)) : TupEx H H' := fun a xs =>
  ⟨fun q => e a _ q (fun z => by rw [z, h] at q; cases q), fun o q => e a _ q (fun z => by rw [z, h] at q; cases q)⟩
/-- the leaves of a depth as they go out -/
def YLv (K : PySem.W.Frag) (m : Nat) (T : SM.Tree) : Nat → V → Hp → Prop := fun j x H => ∃ a, x = .ref a ∧ SqT K H a (rowV m fun i => SM.Lv T j i)
def GLv (K : PySem.W.Frag) (m : Nat) (T : SM.Tree) (tv : V) : Nat → L2.St → Hp → Prop := fun j τ H => ∃ (d : Addr) (cs : List (Nat × Int)) (v3 v4 v5 v6 v7 : Option V), τ = [some (.int m), some tv, some (.ref d), v3, v4, v5, v6, v7] ∧ TD K H tv (trD T) ∧ H d = some (.dK (kI cs)) ∧ SM.Cn T (j - 1) cs
def F2 (Tr : SM.Tree) (cs : List (Nat × Int)) (i nd : Nat) (cnt : Int) (k2 : Nat) (q : Int) : Int := SM.gF Tr cs i q + (if 1 ≤ k2 then cnt * SM.ind (SM.tl Tr nd = q) else 0) + (if 2 ≤ k2 then cnt * SM.ind (SM.tr Tr nd = q) else 0)
theorem gen_leaves {X : Cx} {A : Around} {H0 : Hp} {tv : V} {Tr : SM.Tree} {m L f a e n : Nat} {cd : Value} {W : Nat → L2.St → Hp → Prop} (hK : X.K = K) (hr : Room 0 A) (T : Tx K X.mg aN aW) (tvd : TD K H0 tv (trD Tr)) (O : SM.Ok m Tr) (hT : 0 < Tr.length) (hT60 : Tr.length ≤ 60) (hm : m ≤ 12) :
    GBody X A (envOfC "leaves_by_depth" (defScope sLeavesByDepth) L f cd) NLeavesByDepth H0 (L2.start NLeavesByDepth [.int m, tv]) ⟨W, YLv K m Tr, n, a, e⟩ (defBody sLeavesByDepth) := by
  subst hK
  have hu := hu_of hr
  refine ⟨(defBody sLeavesByDepth).take 1, (bodyS (nthS (defBody sLeavesByDepth) 2)).take 3, _, _, _, _, _, _, _, _, GLv X.K m Tr tv, rfl, ?_, ?_, ?_⟩
  · rintro j τ H H' s ⟨d, cs, v3, v4, v5, v6, v7, rfl, t, hd, c⟩
    exact ⟨d, cs, v3, v4, v5, v6, v7, rfl, t.mono (TupEx.of s), s _ _ hd, c⟩
  · intro sB HB s0
    refine ⟨_, _, (pss_one (ps_set (i := 2) scLeavesByDepth.nd rfl (lc_ rfl) (pe_disp (pps_cons pe_int pe_int pps_nil) (by rfl) (by rfl) (fun z => by cases z) (by decide)))), (pe_callTy (cTuple X.K) (by rfl) T.tuple_ (by decide +kernel) (pa_cons (pe_op op_rep (pe_lst (pa_cons (pe_callTy call_int1 (by rfl) T.int_ (by decide +kernel) (pa_cons (pe_cmpR (oEqD X.K hr.units) (pv 1) (pe_tup pa_nil) (nomark _)) pa_nil)) pa_nil)) (pv 0)) pa_nil)), ?_⟩
    have tH := tvd.mono (TupEx.of s0)
    obtain ⟨a0, xs0, rfl, h0, hl0, hx0⟩ := tree_td tH
    refine fun d hd => ⟨upd_same, [(Sum.inl 0, V.int 1)], rfl, (by show 1 ≤ 15; decide), ?_⟩
    have s1 : Same HB (upd (upd HB d (.dK [])) d (.dK (kI [(0, 1)]))) := Ser.Same.put (Ser.Same.new hd) hd
    have q0 : (100000 : Nat) ≤ sizeLine := by decide
    have hne : decide (Tr = []) = false := decide_eq_false fun z => by rw [z] at hT; exact absurd hT (Nat.lt_irrefl 0)
    have em : mergeK [] [((Sum.inl 0 : Key), V.int 1)] = kI [(0, 1)] := rfl
    rw [em]
    generalize eH1 : upd (upd HB d (.dK [])) d (.dK (kI [(0, 1)])) = H1 at s1 ⊢
    have h1d : H1 d = some (.dK (kI [(0, 1)])) := by rw [← eH1]; exact upd_same
    refine ⟨_, rfl, (by show 0 ≤ sizeLine; omega), fun q hq => ?_⟩
    have s2 : Same H1 (upd H1 q (.tup [])) := Ser.Same.new hq
    refine ⟨trD Tr, .tuple [], (tH.mono (TupEx.of (s1.trans s2))).dp, .tup (SqT.mk upd_same) .nil, (Shp.tree Tr).ok (by decide), rfl, ?_⟩
    rw [eqv_tree, hne]
    refine .inr ⟨false, rfl, (by show 1 ≤ sizeLine; omega), fun p1 hp1 => ⟨_, rfl, p1, _, _, rfl, rfl, upd_same, by omega, by omega, by rw [Int.toNat_natCast]; show 1 * m ≤ sizeLine; omega, fun A1 hA1 => ?_⟩⟩
    have s3 : Same (upd H1 q (.tup [])) (upd (upd (upd H1 q (.tup [])) p1 (.lst [V.int (if false = true then 1 else 0)])) A1 (.lst (List.replicate ((m : Nat) : Int).toNat [V.int (if false = true then 1 else 0)]).flatten)) := (Ser.Same.new hp1).trans (Ser.Same.new hA1)
    refine ⟨A1, _, rfl, .inl ⟨SqL.mk upd_same, fun l hl => ?_⟩⟩
    have s4 := s2.trans (s3.trans (Ser.Same.new (o := .tup (List.replicate ((m : Nat) : Int).toNat [V.int (if false = true then 1 else 0)]).flatten) hl))
    refine ⟨s1.trans s4, ⟨l, rfl, ?_⟩, d, [(0, 1)], none, none, none, none, none, rfl, tH.mono (TupEx.of (s1.trans s4)), s4 _ _ h1d, SM.Cn.zero hT⟩
    rw [rep_row]
    exact SqT.mk upd_same
  · intro sB HB j τ hj ⟨d, cs, v3, v4, v5, v6, v7, eτ, t, hd, c⟩
    subst eτ
    refine ⟨_, _, _, (pt_val pe_bl), (pss_cons (ps_par (i := 3) (j := 4) rfl scLeavesByDepth.nd rfl rfl (by decide) rfl rfl (pa_cons pe_dnewK (pa_cons (pe_op op_rep (pe_lst (pa_cons pe_int pa_nil)) (pv 0)) pa_nil)) (by rfl))
      (pss_cons (ps_lock (ps_for PassesOwn.never rfl (pi_items (pv 2)) (gTup' X.K (pgs_cons (pg_name (i := 5) scLeavesByDepth.nd rfl (lc_ rfl)) (pgs_cons (pg_name (i := 6) scLeavesByDepth.nd rfl (lc_ rfl)) pgs_nil))) (pss_one (ps_for PassesOwn.never rfl (piT X.K (pe_ifExp (pt_cmpR (oNeD X.K hr.units) (pv 1) (pe_tup pa_nil) (nomark _)) (pe_ix (ixT X.K) (pv 1) (pv 5) (fun _ _ => rfl)) (pe_tup pa_nil))) (pg_name (i := 7) scLeavesByDepth.nd rfl (lc_ rfl)) (pss_one (ps_if (pt_cmp (pc_lt (pv 7) pe_int)) (pss_one (ps_augS (pv 4) (pe_op op_sub (pe_un un_neg pe_int) (pv 7)) (get_list X.K) (pv 6) ip_add set_list)) (pss_one (ps_dput hu (pv 3) (pv 7) (pe_op op_add (pe_dget2 hu (pv 3) (pv 7) pe_int ⟨rfl, rfl, rfl, rfl⟩) (pv 6)) rfl))))))))
      (pss_one (ps_set (i := 2) scLeavesByDepth.nd rfl (lc_ rfl) (pv 3))))), (pe_callTy (cTuple X.K) (by rfl) T.tuple_ (by decide +kernel) (pa_cons (pv 4) pa_nil)), ?_⟩
    obtain ⟨a0, xs0, rfl, h0, hl0, hx0⟩ := tree_td t
    have q0 : (100000 : Nat) ≤ sizeLine := by decide
    have hne : decide (Tr = []) = false := decide_eq_false fun z => by rw [z] at hT; exact absurd hT (Nat.lt_irrefl 0)
    refine ⟨true, rfl, rfl, ?_⟩
    refine fun D hD => ⟨(by show 1 ≤ sizeLine; omega), fun p1 hp1 => ⟨_, rfl, p1, _, _, rfl, rfl, upd_same, by omega, by omega, by rw [Int.toNat_natCast]; show 1 * m ≤ sizeLine; omega, fun L1 hL1 => ?_⟩⟩
    rw [rep_row]
    generalize e1 : upd HB D (.dK []) = H1 at hp1 hL1 ⊢
    have s1 : Same HB H1 := by rw [← e1]; exact Ser.Same.new hD
    have d1 : H1 D = some (.dK []) := by rw [← e1]; exact upd_same
    have s2 : Same H1 (upd (upd H1 p1 (.lst [V.int 0])) L1 (.lst (rowV m fun _ => 0))) := (Ser.Same.new hp1).trans (Ser.Same.new hL1)
    have hL1H : H1 L1 = none := (Ser.Same.new (o := .lst [V.int 0]) hp1).free hL1
    have hDL : D ≠ L1 := fun z => by rw [← z, d1] at hL1H; cases hL1H
    generalize e2 : upd (upd H1 p1 (.lst [V.int 0])) L1 (.lst (rowV m fun _ => 0)) = H2 at s2 ⊢
    have l2 : H2 L1 = some (.lst (rowV m fun _ => 0)) := by rw [← e2]; exact upd_same
    have d2 : H2 D = some (.dK []) := s2 _ _ d1
    have hd2 : H2 d = some (.dK (kI cs)) := s2 _ _ (s1 _ _ hd)
    have hdD : d ≠ D := fun z => by rw [z, hD] at hd; cases hd
    have hLB : HB L1 = none := s1.free hL1H
    have hdL : d ≠ L1 := fun z => by rw [z, hLB] at hd; cases hd
    have s12 := s1.trans s2
    have lt31 : Tr.length < 2 ^ 20 := by omega
    refine ⟨_, _, rfl, d, .dK (kI cs), hd2, trivial, fun od => ?_⟩
    refine ⟨_, rfl, d, od, kI cs, rfl, upd_same, ?_⟩
    refine for_it walk_items (fun i σ H' => ∃ (ns : List (Nat × Int)) (v5 v6 v7 : Option V), σ = [some (.int m), some (.ref a0), some (.ref d), some (.ref D), some (.ref L1), v5, v6, v7] ∧ Exd d HB H' ∧ H' d = some (.frz od (.dK (kI cs))) ∧ H' D = some (.dK (kI ns)) ∧
      H' L1 = some (.lst (rowV m fun x => SM.gF Tr cs i (-1 - (x : Int)))) ∧ SM.Kd Tr.length ns ∧ ∀ k, k < Tr.length → SM.cv ns k = SM.gF Tr cs i (k : Int)) ⟨[], v5, v6, v7, rfl, fun a u q n => ?_, upd_same, ?_, ?_, ⟨List.nodup_nil, fun p hp => by cases hp⟩, fun k hk => rfl⟩ (fun i σ H' _ ⟨_, _, _, _, _, _, h, _⟩ => h) ?_ ?_
    · rw [upd_ne n]; exact s12 _ _ q
    · rw [upd_ne (Ne.symm hdD)]; exact d2
    · rw [upd_ne (Ne.symm hdL)]; exact l2
    · rintro i x σ H3 H4 hi ⟨ns, v5, v6, v7, rfl, ex, f1, f2, f3, kd, cvs⟩ ⟨Tp, x1, x2, rfl, hTp, rfl, hx1, hx2⟩
      have hi' : i < cs.length := by unfold kI at hi; rw [List.length_map] at hi; exact hi
      obtain ⟨⟨nd, cnt⟩, hq⟩ : ∃ q, cs[i]? = some q := ⟨cs[i], by simp [hi']⟩
      have hk : (kI cs)[i]? = some (Sum.inl (nd : Int), V.int cnt) := by unfold kI; rw [List.getElem?_map, hq]; rfl
      replace hx1 : ((kI cs)[i]?).map (fun kv => kV kv.1) = some x1 := hx1
      replace hx2 : ((kI cs)[i]?).map Prod.snd = some x2 := hx2
      rw [hk] at hx1 hx2
      cases hx1
      cases hx2
      have hnd : nd < Tr.length := c.kd.lt _ (List.mem_of_getElem? hq)
      obtain ⟨qn, hqn, hqs⟩ := hx0 nd hnd
      refine ⟨Tp, _, rfl, SqT.mk upd_same, rfl, _, _, rfl, _, _, rfl, rfl, ?_⟩
      have s4 : Same H3 (upd H3 Tp (.tup [V.int nd, V.int cnt])) := Ser.Same.new hTp
      change Same H3 (upd H3 Tp (.tup [kV (Sum.inl (nd : Int)), V.int cnt])) at s4
      show iTup _ _ _ _ _
      have ex4 := ex.then s4
      generalize upd H3 Tp (.tup [kV (Sum.inl (nd : Int)), V.int cnt]) = H4 at s4 ex4 ⊢
      refine ⟨_, rfl, (by show 0 ≤ sizeLine; omega), fun q hq0 => ?_⟩
      have s5 : Same H4 (upd H4 q (.tup [])) := Ser.Same.new hq0
      have ex5 := ex4.then s5
      have s45 := s4.trans s5
      have g1 := s45 _ _ f1
      have g2 := s45 _ _ f2
      have g3 := s45 _ _ f3
      refine ⟨trD Tr, .tuple [], (t.mono (ex5.tup hd)).dp, .tup (SqT.mk upd_same) .nil, (Shp.tree Tr).ok (by decide), rfl, ?_⟩
      generalize upd H4 q (.tup []) = H5 at s5 ex5 s45 g1 g2 g3 ⊢
      rw [eqv_tree, hne]
      refine ⟨_, rfl, iteB rfl ⟨_, rfl, _, rfl, a0, xs0, nd, _, rfl, rfl, (ex5.tup hd).sqT h0, atI_nat hqn, qn, rfl, ⟨_, (ex5.tup hd).sqT hqs⟩, ?_⟩⟩
      refine for_it (walk_tup (xs := [V.int (SM.tl Tr nd), V.int (SM.tr Tr nd)])) (fun k2 σ H' => ∃ (ns : List (Nat × Int)) (v7 : Option V), σ = [some (.int m), some (.ref a0), some (.ref d), some (.ref D), some (.ref L1), some (.int nd), some (.int cnt), v7] ∧ Exd d HB H' ∧ H' d = some (.frz od (.dK (kI cs))) ∧ H' D = some (.dK (kI ns)) ∧
        H' L1 = some (.lst (rowV m fun x => F2 Tr cs i nd cnt k2 (-1 - (x : Int)))) ∧ SM.Kd Tr.length ns ∧ ∀ k, k < Tr.length → SM.cv ns k = F2 Tr cs i nd cnt k2 (k : Int)) ⟨ns, v7, rfl, ex5, g1, g2, ?_, kd, ?_⟩ (fun i σ H' _ ⟨_, _, _, ex, _⟩ => (ex.tup hd).sqT hqs) ?_ ?_
      · rw [g3]
        congr 2
        exact rowV_congr fun j hj => by unfold F2; simp
      · intro k hk
        rw [cvs k hk]; unfold F2; simp
      · rintro k2 x σ H6 H7 hk ⟨ns, v7, rfl, ex6, f1, f2, f3, kd, cvs⟩ ⟨rfl, hx⟩
        have key : ∃ c : Int, x = .int c ∧ -(m : Int) ≤ c ∧ c < Tr.length ∧ ∀ q, F2 Tr cs i nd cnt (k2 + 1) q = F2 Tr cs i nd cnt k2 q + cnt * SM.ind (c = q) := by
          have : k2 = 0 ∨ k2 = 1 := by have : k2 < 2 := hk; omega
          rcases this with rfl | rfl
          · cases hx
            exact ⟨_, rfl, (O.rl nd hnd).1, (O.rl nd hnd).2, fun q => by unfold F2; simp⟩
          · cases hx
            exact ⟨_, rfl, (O.rr nd hnd).1, (O.rr nd hnd).2, fun q => by unfold F2; simp⟩
        obtain ⟨c, rfl, c1, c2, fs⟩ := key
        refine ⟨_, rfl, _, _, rfl, rfl, _, rfl, iteB2 (fun hc => ?_) (fun hc => ?_)⟩
        · have hc : c < 0 := of_decide_eq_true hc
          obtain ⟨x, hxm, rfl⟩ : ∃ x : Nat, x < m ∧ c = -1 - (x : Int) := ⟨(-1 - c).toNat, by omega, by omega⟩
          have ei : (-1 : Int) - (-1 - (x : Int)) = (x : Int) := by omega
          refine ⟨_, rfl, _, rfl, _, rfl, _, _, rfl, rfl, ?_⟩
          refine ⟨L1, _, (x : Int), _, rfl, congrArg V.int ei, SqL.mk f3, atI_nat (rowV_get hxm), ?_⟩
          refine ⟨_, rfl, _, _, rfl, rfl, L1, _, (x : Int), x, rfl, congrArg V.int ei, f3, ixN_nat (by rw [rowV_len]; exact hxm), ns, some (.int (-1 - (x : Int))), rfl, ex6.put hLB, ?_, ?_, ?_, kd, fun k hk => ?_⟩
          · rw [upd_ne hdL]; exact f1
          · rw [upd_ne hDL]; exact f2
          · rw [upd_same, rowV_set]
            congr 2
            refine rowV_congr fun j hj => ?_
            rw [fs]
            by_cases e : j = x
            · rw [if_pos e, e, SM.ind_t rfl, Int.mul_one]
            · rw [if_neg e, SM.ind_f (by omega)]; omega
          · rw [cvs k hk, fs, SM.ind_f (by omega)]; omega
        · have hc : ¬ c < 0 := of_decide_eq_false hc
          obtain ⟨k0, rfl⟩ : ∃ k0 : Nat, c = (k0 : Int) := ⟨c.toNat, by omega⟩
          have hk0 : k0 < Tr.length := by omega
          have hln := kd.len
          refine ⟨_, rfl, D, rfl, .inl ⟨_, .inl f2⟩, _, rfl, _, DGet.k (k := Sum.inl (k0 : Int)) f2, _, rfl, _, _, kI_get k0 ns, rfl, _, rfl, _, rfl, D, _, rfl, DPut.k (k := Sum.inl (k0 : Int)) f2 (by unfold kI; rw [List.length_map]; omega), ?_⟩
          rw [kI_put]
          refine ⟨SM.putN ns k0 _, some (.int (k0 : Int)), rfl, ex6.put hD, ?_, upd_same, ?_, kd.put hk0 _, fun k hk => ?_⟩
          · rw [upd_ne hdD]; exact f1
          · rw [upd_ne (Ne.symm hDL), f3]
            congr 2
            exact rowV_congr fun j hj => by rw [fs, SM.ind_f (by omega)]; omega
          · rw [SM.cv_put, fs]
            by_cases e : k = k0
            · rw [if_pos e, e, SM.ind_t rfl, cvs k0 hk0]; omega
            · rw [if_neg e, SM.ind_f (by omega), cvs k hk]; omega
      · rintro σ H6 ⟨ns, v7, rfl, ex6, f1, f2, f3, kd, cvs⟩
        have hF : ∀ q, F2 Tr cs i nd cnt 2 q = SM.gF Tr cs (i + 1) q := fun q => by
          rw [SM.gF_step hq]; unfold F2; simp
        refine ⟨ns, _, _, v7, rfl, ex6, f1, f2, ?_, kd, fun k hk => (cvs k hk).trans (hF _)⟩
        have f3' : H6 L1 = some (.lst (rowV m fun x => F2 Tr cs i nd cnt 2 (-1 - (x : Int)))) := f3
        rw [f3']
        congr 2
        exact rowV_congr fun j hj => hF _
    · rintro σ H3 ⟨ns, v5, v6, v7, rfl, ex, f1, f2, f3, kd, cvs⟩
      have hl : (kI cs).length = cs.length := by unfold kI; rw [List.length_map]
      rw [hl] at f3 cvs
      have sm : Same HB (upd H3 d (.dK (kI cs))) := fun a u q => by
        by_cases e : a = d
        · rw [e, hd] at q
          rw [e, upd_same]; exact q
        · rw [upd_ne e]; exact ex a u q e
      have f3' : (upd H3 d (.dK (kI cs))) L1 = some (.lst (rowV m fun x => SM.gF Tr cs cs.length (-1 - (x : Int)))) := by rw [upd_ne (Ne.symm hdL)]; exact f3
      have f2' : (upd H3 d (.dK (kI cs))) D = some (.dK (kI ns)) := by rw [upd_ne (Ne.symm hdD)]; exact f2
      obtain ⟨j, rfl⟩ : ∃ j0, j = j0 + 1 := ⟨j - 1, by omega⟩
      have c' : SM.Cn Tr j cs := c
      have cn : SM.Cn Tr (j + 1) ns := ⟨kd, fun k hk => (cvs k hk).trans (SM.gF_all c' (k : Int))⟩
      refine ⟨f1, _, rfl, _, rfl, L1, _, rfl, .inl ⟨SqL.mk f3', fun l hl => ?_⟩⟩
      have s9 := Ser.Same.new (o := .tup (rowV m fun x => SM.gF Tr cs cs.length (-1 - (x : Int)))) hl
      refine ⟨sm.trans s9, ⟨l, rfl, ?_⟩, D, ns, _, _, _, _, _, rfl, t.mono (TupEx.of (sm.trans s9)), s9 _ _ f2', cn⟩
      have e9 : (rowV m fun x => SM.gF Tr cs cs.length (-1 - (x : Int))) = rowV m fun x => SM.Lv Tr (j + 1) x := rowV_congr fun x hx => SM.gF_all c' _
      rw [e9]
      exact SqT.mk upd_same
end
end Ser
end
section
set_option maxRecDepth 100000
set_option maxHeartbeats 4000000
namespace Ser
open PySem L2
open PyProof.Rows hiding St RelV
/-! ### unlike_depth: the plain side -/
theorem exF_iff {m : Nat} {T : SM.Tree} (L : Lv m T) (h1 : 1 ≤ m) (h2 : m ≤ 12) : exF m T = (0, 1) ↔ mnS m T = SM.bst m := by
  have p1 := mnS_pos L
  have p2 := SM.bst_pos h1 h2
  have r2 : SM.fr (SM.bst m).1 (SM.bst m).2 = SM.bst m := (SM.bst_fr h1 h2).symm
  have r1 : SM.fr (mnS m T).1 (mnS m T).2 = mnS m T := by
    unfold mnS
    split
    · rfl
    · rcases L with ⟨rfl, _⟩ | ⟨_, hL⟩
      · contradiction
      · exact SM.fr_fr (SM.dT_pos hL)
  have e : mnS m T = SM.bst m ↔ (mnS m T).1 * (SM.bst m).2 = (SM.bst m).1 * (mnS m T).2 := by
    conv => lhs; rw [← r1, ← r2]
    exact SM.fr_iff p1 p2
  rw [e]
  unfold exF mns
  have p3 := Int.mul_pos p1 p2
  have z : SM.fr 0 1 = (0, 1) := rfl
  rw [← z, SM.fr_iff p3 (by decide), Int.mul_one, Int.zero_mul]
  exact ⟨fun h => by omega, fun h => by omega⟩
/-- leaves as the figures have them, to a depth -/
def Alk (m : Nat) (T : SM.Tree) (D : Nat) : Prop := ∀ D' x, D' < D → x < m → SM.Lv T D' x = SM.dig m D'
def UnAt (m : Nat) (T : SM.Tree) (D : Nat) : Prop := Alk m T D ∧ ∃ x, x < m ∧ SM.Lv T D x ≠ SM.dig m D
theorem even_of {m : Nat} {T : SM.Tree} (V0 : Va m T) (h : EvenT m T) : SM.Even m T where
  ok := V0.ok
  live := h.1
  same := fun x hx => by
    have hne : T ≠ [] := fun z => by have := V0.ok.pos; rw [z] at this; exact absurd this (Nat.lt_irrefl 0)
    have h2 := h.2
    unfold shS at h2
    rw [if_neg hne] at h2
    exact h2 _ (List.mem_map.mpr ⟨x, List.mem_range.mpr hx, rfl⟩) _ (List.mem_map.mpr ⟨0, List.mem_range.mpr V0.m0, rfl⟩)
theorem mn_best {m : Nat} {T : SM.Tree} (V0 : Va m T) (h : EvenT m T) (N : Nat) (hN : T.length + ((SM.rnd m).1 + (SM.rnd m).2) + 1 < N) (a : Alk m T N) : mnS m T = SM.bst m := by
  have hne : T ≠ [] := fun z => by have := V0.ok.pos; rw [z] at this; exact absurd this (Nat.lt_irrefl 0)
  unfold mnS
  rw [if_neg hne]
  exact (even_of V0 h).mean V0.m0 V0.m12 (N - 1) (by omega) fun D x hD hx => a D x (by omega) hx
theorem rnd_le {m : Nat} (h1 : 1 ≤ m) (h2 : m ≤ 12) : (SM.rnd m).1 + (SM.rnd m).2 ≤ 10 := by
  have h : ((List.range 13).all fun m => decide ((SM.rnd m).1 + (SM.rnd m).2 ≤ 10)) = true := by decide +kernel
  exact of_decide_eq_true (List.all_eq_true.mp h m (List.mem_range.mpr (by omega)))
theorem dig_le (m D : Nat) : SM.dig m D = 0 ∨ SM.dig m D = 1 := by unfold SM.dig; omega
theorem row_eqv {m : Nat} (f g : Nat → Int) : PyData.eqv (.tuple ((List.range m).map fun i => PyData.int (f i))) (.tuple ((List.range m).map fun i => PyData.int (g i))) = decide (∀ x, x < m → f x = g x) := by
  have e : ∀ f : Nat → Int, ((List.range m).map fun i => PyData.int (f i)) = ((List.range m).map f).map PyData.int := fun f => by rw [List.map_map]; rfl
  show PyData.eqvAll _ _ = _
  rw [e f, e g, eqv_ints]
  refine decide_eq_decide.mpr ⟨fun h x hx => ?_, fun h => List.map_congr_left fun x hx => h x (List.mem_range.mp hx)⟩
  have q := congrArg (fun l => l[x]?) h
  simp only [List.getElem?_map, List.getElem?_range hx, Option.map_some] at q
  exact Option.some.inj q
theorem tds_row {K : PySem.W.Frag} {H : Hp} (m : Nat) (f : Nat → Int) : TDs K H (rowV m f) ((List.range m).map fun i => PyData.int (f i)) := by
  have e : ((List.range m).map fun i => PyData.int (f i)) = ((List.range m).map f).map PyData.int := by rw [List.map_map]; rfl
  rw [e]
  have e2 : rowV m f = ((List.range m).map f).map V.int := by unfold rowV; rw [List.map_map]; rfl
  rw [e2]
  exact TDs.ints _
/-! ### unlike_depth -/
section
variable {P : Program} {w : World} {K : PySem.W.Frag} {mg : Str → Option Value} {base : Heap} {aN aW : Addr}
abbrev sUnlikeDepth : Stmt := top 38
def NUnlikeDepth : List Str := ["many", "tree", "depth", "leaves"]
theorem scUnlikeDepth : FnScope NUnlikeDepth ["many", "tree"] (defScope sUnlikeDepth) := ⟨rfl, rfl, rfl, by decide +kernel, rfl, by decide +kernel, by decide +kernel⟩
def spUnlike (K : PySem.W.Frag) (CE CU : Addr) : Sp := fun vs H Q E => ∃ (v : V) (T : SM.Tree) (m : Nat), vs = [.int m, v] ∧ TD K H v (trD T) ∧ Fit m T ∧ (EvenT m T → mnS m T = SM.bst m → ∀ H', Same H H' → Q .non H') ∧ (EvenT m T → mnS m T ≠ SM.bst m → ∀ D H', Same H H' → UnAt m T D → Q (.int (D : Nat)) H') ∧
  (AllLive T → ¬ AllEq (shS m T) → RaisesU K CU m T H E) ∧ (¬ AllLive T → RaisesE K CE T H E)
theorem ok_unlike_depth {f f1 f2 f3 CE CU : Addr} {fd fd1 fd2 fd3 : FuncData} (F : FnP K "unlike_depth" sUnlikeDepth f fd) (T : Tx K mg aN aW) (G_excess : Def P w K mg base (L2.CX P w) "excess" 6 ["many", "tree"] (spExcess K CE CU) f1 fd1)
    (G_leaves_at : Def P w K mg base CX0 "leaves_at" 3 ["many", "depth"] spLeavesAt f2 fd2) (G_leaves_by_depth : GDef K mg "leaves_by_depth" NLeavesByDepth ["many", "tree"] (defScope sLeavesByDepth) (defBody sLeavesByDepth) f3 fd3) : FnOk P w K mg base (L2.CX P w) 8 f fd ["many", "tree"] (spUnlike K CE CU) := by
  refine F.ok scUnlikeDepth (fun vs H Q E h => ?_) (fun cdv A outer s H vs Q E hr h => ?_)
  · obtain ⟨_, _, _, rfl, _⟩ := h
    rfl
  · obtain ⟨v, Tr, m, rfl, tv, L, k0, k1, kU, kE⟩ := h
    have q0 : (100000 : Nat) ≤ sizeLine := by decide
    refine ⟨_, (pss_cons (ps_if (pt_cmpR (oEqD K hr.units) (dcallX G_excess (hr.mono (by decide)) (passes_call (takes_of rfl rfl rfl rfl) (fun _ _ _ _ h => h)) (pa_cons (pv 0) (pa_cons (pv 1) pa_nil))) (pe_gr T.nought) (nomark _)) (pss_one (ps_ret pe_non)) pss_nil)
      (pss_cons (ps_forGen (k := 0) (passes_of rfl) rfl (hr.mono (by decide)) G_leaves_by_depth (by decide) (pa_cons (pv 0) (pa_cons (pv 1) pa_nil)) (gTup' K (pgs_cons (pg_name (i := 2) scUnlikeDepth.nd rfl (lc_ rfl)) (pgs_cons (pg_name (i := 3) scUnlikeDepth.nd rfl (lc_ rfl)) pgs_nil))) (pss_one (ps_if (pt_cmpR (oNeD K hr.units) (pv 3) (pe_op (oRepT K) (pe_tup (pa_cons (pe_callTy call_int1 (by rfl) T.int_ (by decide +kernel) (pa_cons (pe_cmp (pc_gt (dcall G_leaves_at (hr.mono (by decide)) (pa_cons (pv 0) (pa_cons (pv 2) pa_nil))) pe_int)) pa_nil)) pa_nil)) (pv 0)) (nomark _)) (pss_one (ps_ret (pv 2))) pss_nil)) (by rfl) T.enumerate_ (by rfl))
      (pss_one (ps_ret pe_non)))), ?_⟩
    refine ⟨_, rfl, _, rfl, v, Tr, m, rfl, tv, L, fun hE v' H1 s1 t1 => ?_, kU, kE⟩
    have Lv' := L.lv hE.1
    refine ⟨_, _, t1.dp, (TD.fr_mk (x := (0, 1)) (T.nought_at H1)).dp, shaped_fr, shaped_fr, ?_⟩
    rw [eqv_fr]
    refine ⟨_, rfl, iteB2 (fun e => ?_) (fun e => ?_)⟩
    · exact k0 hE ((exF_iff Lv' L.pos L.m12).mp (of_decide_eq_true e)) H1 s1
    · have hne : mnS m Tr ≠ SM.bst m := fun z => of_decide_eq_false e ((exF_iff Lv' L.pos L.m12).mpr z)
      have V0 : Va m Tr := by
        rcases L with ⟨rfl, rfl⟩ | V0
        · exact absurd rfl hne
        · exact V0
      have mm := V0.m12
      have m0 := V0.m0
      have hle := V0.le
      have tv1 := tv.mono (TupEx.of s1)
      have jb : ∀ j, Alk m Tr j → j + 2 ≤ 80 := fun j al => by
        have := rnd_le m0 mm
        exact Decidable.byContradiction fun z => hne (mn_best V0 hE 72 (by omega) fun D' x hD => al D' x (by omega))
      refine ⟨_, rfl, _, rfl, rfl, fun j σ H' => (∃ v2 v3 : Option V, σ = [some (.int m), some v, v2, v3]) ∧ Same H1 H' ∧ Alk m Tr j, YLv K m Tr, 80, ⟨⟨none, none, rfl⟩, fun a u q => q, fun D' x h => absurd h (Nat.not_lt_zero _)⟩, fun j σ H' H2 s w => ⟨w.1, w.2.1.trans s, w.2.2⟩, fun j σ H' w => jb j w.2.2, fun L f cd A a e hr => ?_, ?_⟩
      · exact gen_leaves rfl hr T tv1 V0.ok V0.ok.pos hle mm
      · rintro j σ x H2 ⟨⟨v2, v3, rfl⟩, s2, al⟩ ⟨b, rfl, hb⟩ Tp hTp
        have s3 : Same H2 (upd H2 Tp (.tup [.int j, .ref b])) := Ser.Same.new hTp
        refine ⟨Tp, _, rfl, SqT.mk upd_same, rfl, _, _, rfl, _, _, rfl, rfl, ?_⟩
        have hb3 := Ser.Same.sqT s3 hb
        generalize upd H2 Tp (.tup [V.int j, .ref b]) = H3 at s3 hb3 ⊢
        refine ⟨_, rfl, _, rfl, _, rfl, m, j, rfl, m0, ?_, fun H4 s4 => ?_⟩
        · have := jb j al
          omega
        · have hdg : (if decide (lvs m j > 0) = true then (1 : Int) else 0) = SM.dig m j := by
            unfold lvs
            rcases dig_le m j with e | e
            · rw [e, Int.mul_zero]; rfl
            · rw [e, Int.mul_one, if_pos (decide_eq_true (by omega))]
          refine ⟨_, _, rfl, rfl, .inr ⟨_, rfl, (by show 1 ≤ sizeLine; omega), fun p hp => ⟨_, rfl, p, (m : Nat), _, rfl, rfl, SqT.mk upd_same, List.cons_ne_nil _ _, by omega, by omega, by show 1 ≤ 1000; omega, fun hm1 => ?_, fun hm1 q hq => ?_⟩⟩⟩
          all_goals rw [hdg] at *
          · have hx : SqT K (upd H4 p (.tup [V.int (SM.dig m j)])) p (rowV m fun _ => SM.dig m j) := by
              obtain rfl : m = 1 := by omega
              exact SqT.mk upd_same
            have sx : Same H3 (upd H4 p (.tup [V.int (SM.dig m j)])) := s4.trans (Ser.Same.new hp)
            generalize upd H4 p (.tup [V.int (SM.dig m j)]) = Hx at sx hx ⊢
            generalize p = l at hx ⊢
            refine ⟨.tuple ((List.range m).map fun i => PyData.int (SM.Lv Tr j i)), .tuple ((List.range m).map fun _ => PyData.int (SM.dig m j)), (TD.tup (Ser.Same.sqT sx hb3) (tds_row _ _)).dp, (TD.tup hx (tds_row _ _)).dp, ?_, ?_, ?_⟩
            · exact (Shp.tuple (n := 0) fun d hd => by obtain ⟨x, _, rfl⟩ := List.mem_map.mp hd; exact Shp.int _).ok (by decide)
            · exact (Shp.tuple (n := 0) fun d hd => by obtain ⟨x, _, rfl⟩ := List.mem_map.mp hd; exact Shp.int _).ok (by decide)
            rw [row_eqv]
            refine ⟨_, rfl, iteB2 (fun z => ?_) (fun z => ?_)⟩
            · refine ⟨_, rfl, k1 hE hne j Hx (s1.trans (s2.trans (s3.trans sx))) ⟨al, ?_⟩⟩
              refine Classical.byContradiction fun w => ?_
              have z2 : decide (∀ x, x < m → SM.Lv Tr j x = SM.dig m j) = true := decide_eq_true fun x hx => Classical.byContradiction fun q => w ⟨x, hx, q⟩
              rw [z2] at z
              cases z
            · have z2 : ∀ x, x < m → SM.Lv Tr j x = SM.dig m j := by
                refine of_decide_eq_true (p := ∀ x, x < m → SM.Lv Tr j x = SM.dig m j) ?_
                cases q : decide (∀ x, x < m → SM.Lv Tr j x = SM.dig m j) with
                | true => rfl
                | false => rw [q] at z; cases z
              refine ⟨sx, ⟨_, _, rfl⟩, s2.trans (s3.trans sx), fun D' x hD hx => ?_⟩
              by_cases e : D' = j
              · rw [e]; exact z2 x hx
              · exact al D' x (by omega) hx
          · have sx : Same H3 (upd (upd H4 p (.tup [V.int (SM.dig m j)])) q (.tup (List.replicate ((m : Nat) : Int).toNat [V.int (SM.dig m j)]).flatten)) := (s4.trans (Ser.Same.new hp)).trans (Ser.Same.new hq)
            have hx : SqT K (upd (upd H4 p (.tup [V.int (SM.dig m j)])) q (.tup (List.replicate ((m : Nat) : Int).toNat [V.int (SM.dig m j)]).flatten)) q (rowV m fun _ => SM.dig m j) := by
              rw [rep_row]; exact SqT.mk upd_same
            generalize upd (upd H4 p (.tup [V.int (SM.dig m j)])) q (.tup (List.replicate ((m : Nat) : Int).toNat [V.int (SM.dig m j)]).flatten) = Hx at sx hx ⊢
            generalize q = l at hx ⊢
            refine ⟨.tuple ((List.range m).map fun i => PyData.int (SM.Lv Tr j i)), .tuple ((List.range m).map fun _ => PyData.int (SM.dig m j)), (TD.tup (Ser.Same.sqT sx hb3) (tds_row _ _)).dp, (TD.tup hx (tds_row _ _)).dp, ?_, ?_, ?_⟩
            · exact (Shp.tuple (n := 0) fun d hd => by obtain ⟨x, _, rfl⟩ := List.mem_map.mp hd; exact Shp.int _).ok (by decide)
            · exact (Shp.tuple (n := 0) fun d hd => by obtain ⟨x, _, rfl⟩ := List.mem_map.mp hd; exact Shp.int _).ok (by decide)
            rw [row_eqv]
            refine ⟨_, rfl, iteB2 (fun z => ?_) (fun z => ?_)⟩
            · refine ⟨_, rfl, k1 hE hne j Hx (s1.trans (s2.trans (s3.trans sx))) ⟨al, ?_⟩⟩
              refine Classical.byContradiction fun w => ?_
              have z2 : decide (∀ x, x < m → SM.Lv Tr j x = SM.dig m j) = true := decide_eq_true fun x hx => Classical.byContradiction fun q => w ⟨x, hx, q⟩
              rw [z2] at z
              cases z
            · have z2 : ∀ x, x < m → SM.Lv Tr j x = SM.dig m j := by
                refine of_decide_eq_true (p := ∀ x, x < m → SM.Lv Tr j x = SM.dig m j) ?_
                cases q : decide (∀ x, x < m → SM.Lv Tr j x = SM.dig m j) with
                | true => rfl
                | false => rw [q] at z; cases z
              refine ⟨sx, ⟨_, _, rfl⟩, s2.trans (s3.trans sx), fun D' x hD hx => ?_⟩
              by_cases e : D' = j
              · rw [e]; exact z2 x hx
              · exact al D' x (by omega) hx
end
end Ser
end
section
set_option maxRecDepth 100000
set_option maxHeartbeats 4000000
/-! the sum of a pair of ints -/
namespace Ser
open PySem L2
open PyProof.Rows hiding St RelV
def rSumP (K : PySem.W.Frag) : List V → Hp → VK → Prop := fun vs H Q => ∃ (a : Addr) (i j : Nat), vs = [V.ref a] ∧ SqT K H a [.int i, .int j] ∧ i ≤ 1000 ∧ j ≤ 1000 ∧ Q (.int ((i : Int) + j)) H
theorem cr_sumP {X : Cx} (hc : X.calm = true) : CallR X (.builtin "sum") (rSumP X.K) := by
  intro pins s σ H vs us Q I r h
  obtain ⟨a, i, j, rfl, hs, hi, hj, q⟩ := h
  obtain ⟨its, rv, pl, hz⟩ := I.tuple hs
  rw [Vals.ref1 r]
  cases rv with
  | cons r1 rr =>
    cases rr with
    | cons r2 rr =>
      cases rr
      obtain ⟨t1, rfl⟩ := r1
      obtain ⟨t2, rfl⟩ := r2
      have ha : a < s.heap.objs.size := pl.lt
      refine call_sum_walk (iter_tuple pl ⟨s.heap.objs.size, [s.heap.objs.size, a], [s.heap.objs.size], 2, _, _, fun k => if k = 0 then (i : Int) else j, rfl, Walks.tuple (A := X.A.in1) (I.ok.hd hc) s.heap.objs.size a (Nat.ne_of_lt ha) #[Value.int i t1, Value.int j t2], ⟨⟨_, Heap.get?_push_size _ rfl, rfl, rfl⟩, pl.push _⟩, fun b hb => ?_, fun k v hv => ?_, fun k hk => ?_, fun h' tk t' hk => ?_⟩)
      · rcases List.mem_cons.mp hb with rfl | hb
        · show s.heap.objs.size < (s.heap.push _).objs.size
          rw [Heap.size_push]; exact Nat.lt_succ_self _
        · rw [List.mem_singleton.mp hb]
          show a < (s.heap.push _).objs.size
          rw [Heap.size_push]; exact Nat.lt_succ_of_lt ha
      · match k, hv with
        | 0, hv => exact ⟨t1, (Option.some.inj hv).symm⟩
        | 1, hv => exact ⟨t2, (Option.some.inj hv).symm⟩
      · unfold InLong
        match k, hk with
        | 0, _ => simp [preSum]; omega
        | 1, _ => simp [preSum]; omega
      · refine ⟨.int ((i : Int) + j), H, I.kept (t' := tk) (fun b o e => hk b o (fun z => ?_) (Heap.get?_push_of_some _ e)), ⟨t', ?_⟩, q⟩
        · rw [List.mem_singleton.mp z] at e
          exact absurd (Heap.lt_size e) (Nat.lt_irrefl _)
        · simp [preSum]
theorem cSumT (K : PySem.W.Frag) {X : Cx} (hc : X.calm = true := by rfl) (e : X.K = K := by rfl) : CallR X (.builtin "sum") (rSumP K) := by subst e; exact cr_sumP hc
end Ser
end
section
set_option maxRecDepth 100000
namespace SM
/-! ### even by its leaves -/
theorem bound_all (y : Nat → Int) : ∀ n, ∃ B : Int, 0 ≤ B ∧ ∀ k, k < n → -B ≤ y k ∧ y k ≤ B
  | 0 => ⟨0, Int.le_refl _, fun k h => absurd h (Nat.not_lt_zero _)⟩
  | n + 1 => by
    obtain ⟨B, b0, h⟩ := bound_all y n
    refine ⟨B + (y n).natAbs, by omega, fun k hk => ?_⟩
    by_cases e : k = n
    · subst e; omega
    · have := h k (by omega); omega
theorem even_of_leaves {m : Nat} {T : Tree} (O : Ok m T) (hL : ∀ t, t < T.length → Live T t) (h1 : 0 < m) (h : ∀ D x, x < m → Lv T D x = dig m D) : Even m T := by
  refine ⟨O, hL, fun x hx => ?_⟩
  have s := sol_cc (m := m) O hL
  unfold shF
  suffices e : ee (cc m T) T.length 0 (T.length + x) = ee (cc m T) T.length 0 (T.length + 0) by rw [e]
  have s1 := s.sh
  generalize dT m T = d at s1
  have s2 : ∀ t, t < T.length → 2 * (ee (cc m T) T.length t (T.length + x) - ee (cc m T) T.length t (T.length + 0)) =
      pv T.length (fun k => ee (cc m T) T.length k (T.length + x) - ee (cc m T) T.length k (T.length + 0)) (fun p => sm m (fun i => d * (ind (i = x) - ind (i = 0)) * ind (p = -1 - (i : Int)))) (tl T t) +
      pv T.length (fun k => ee (cc m T) T.length k (T.length + x) - ee (cc m T) T.length k (T.length + 0)) (fun p => sm m (fun i => d * (ind (i = x) - ind (i = 0)) * ind (p = -1 - (i : Int)))) (tr T t) + 0 := fun t ht => by
    have q : ∀ p, sm m (fun i => d * (ind (i = x) - ind (i = 0)) * ind (p = -1 - (i : Int))) = d * ind (p = -1 - (x : Int)) - d * ind (p = -1 - ((0 : Nat) : Int)) := fun p => by
      rw [sm_congr (g := fun i => d * ind (i = x) * ind (p = -1 - (i : Int)) - d * ind (i = 0) * ind (p = -1 - (i : Int))) fun i _ => by grind, sm_sub,
        sm_one hx (fun i _ hn => by rw [ind_f hn]; simp), sm_one h1 (fun i _ hn => by rw [ind_f hn]; simp), ind_t rfl, ind_t rfl, Int.mul_one]
    simp only [q]
    have a := s1 t x ht hx
    have b := s1 t 0 ht h1
    have pq : ∀ p, pv T.length (fun k => ee (cc m T) T.length k (T.length + x) - ee (cc m T) T.length k (T.length + 0)) (fun p => d * ind (p = -1 - (x : Int)) - d * ind (p = -1 - ((0 : Nat) : Int))) p =
        pv T.length (fun k => ee (cc m T) T.length k (T.length + x)) (fun p => d * ind (p = -1 - (x : Int))) p - pv T.length (fun k => ee (cc m T) T.length k (T.length + 0)) (fun p => d * ind (p = -1 - ((0 : Nat) : Int))) p := fun p => by
      unfold pv; split <;> rfl
    rw [pq, pq]
    omega
  have step := dot_step (m := m) (T := T) _ _ 0 s2
  have pow : ∀ D, dot T D (fun k => ee (cc m T) T.length k (T.length + x) - ee (cc m T) T.length k (T.length + 0)) = 2 ^ D * (ee (cc m T) T.length 0 (T.length + x) - ee (cc m T) T.length 0 (T.length + 0)) := fun D => by
    induction D with
    | zero => rw [dot_zero O.pos, Int.pow_zero, Int.one_mul]
    | succ D ih =>
      have e := step D
      have z : sm m (fun i => d * (ind (i = x) - ind (i = 0)) * Lv T (D + 1) i) = 0 := by
        rw [sm_congr (g := fun i => d * dig m (D + 1) * ind (i = x) - d * dig m (D + 1) * ind (i = 0)) fun i hi => by rw [h (D + 1) i hi]; grind, sm_sub,
          sm_one hx (fun i _ hn => by rw [ind_f hn]; simp), sm_one h1 (fun i _ hn => by rw [ind_f hn]; simp), ind_t rfl, ind_t rfl]
        omega
      rw [z, ih] at e
      rw [Int.pow_succ]
      grind
  obtain ⟨B, b0, hB⟩ := bound_all (fun k => ee (cc m T) T.length k (T.length + x) - ee (cc m T) T.length k (T.length + 0)) T.length
  have bd : ∀ D, -(B * m) ≤ dot T D (fun k => ee (cc m T) T.length k (T.length + x) - ee (cc m T) T.length k (T.length + 0)) ∧ dot T D (fun k => ee (cc m T) T.length k (T.length + x) - ee (cc m T) T.length k (T.length + 0)) ≤ B * m := fun D => by
    have w : Wt T D = rem m D := Wt_of_leaves O h1 h D
    have l := rem_lt h1 D
    have wl : B * Wt T D ≤ B * m := Int.mul_le_mul_of_nonneg_left (by omega) b0
    have u1 : 0 ≤ sm T.length (fun k => Wv T D k * (B - (ee (cc m T) T.length k (T.length + x) - ee (cc m T) T.length k (T.length + 0)))) := sm_nonneg fun k hk => Int.mul_nonneg (Wv_nonneg T D k) (by have := (hB k hk).2; omega)
    have u2 : 0 ≤ sm T.length (fun k => Wv T D k * (B + (ee (cc m T) T.length k (T.length + x) - ee (cc m T) T.length k (T.length + 0)))) := sm_nonneg fun k hk => Int.mul_nonneg (Wv_nonneg T D k) (by have := (hB k hk).1; omega)
    rw [sm_congr (g := fun k => B * Wv T D k - Wv T D k * (ee (cc m T) T.length k (T.length + x) - ee (cc m T) T.length k (T.length + 0))) fun k _ => by grind, sm_sub, sm_mul] at u1
    rw [sm_congr (g := fun k => B * Wv T D k + Wv T D k * (ee (cc m T) T.length k (T.length + x) - ee (cc m T) T.length k (T.length + 0))) fun k _ => by grind, sm_add, sm_mul] at u2
    have e3 : dot T D (fun k => ee (cc m T) T.length k (T.length + x) - ee (cc m T) T.length k (T.length + 0)) = sm T.length (fun k => Wv T D k * (ee (cc m T) T.length k (T.length + x) - ee (cc m T) T.length k (T.length + 0))) := rfl
    have e4 : sm T.length (Wv T D) = Wt T D := rfl
    rw [e3]
    rw [e4] at u1 u2
    omega
  have z : ee (cc m T) T.length 0 (T.length + x) - ee (cc m T) T.length 0 (T.length + 0) = 0 := by
    have b := bd (B * m).natAbs
    rw [pow] at b
    have g := two_pow_gt (B * m).natAbs
    generalize ee (cc m T) T.length 0 (T.length + x) - ee (cc m T) T.length 0 (T.length + 0) = y at b ⊢
    refine Decidable.byContradiction fun hy => ?_
    generalize (2 : Int) ^ (B * m).natAbs = p at b g
    have bm : 0 ≤ B * m := Int.mul_nonneg b0 (by omega)
    by_cases hp : 0 < y
    · have := Int.mul_le_mul_of_nonneg_left (show (1 : Int) ≤ y by omega) (show 0 ≤ p by omega)
      omega
    · have := Int.mul_le_mul_of_nonneg_left (show (1 : Int) ≤ -y by omega) (show 0 ≤ p by omega)
      have e : p * -y = -(p * y) := by grind
      omega
  omega
/-! ### a fast count -/
def acc (p : Int) : Tree → List Int → Int
  | t :: T, w :: ws => (if t.1 = p then w else 0) + (if t.2 = p then w else 0) + acc p T ws
  | _, _ => 0
def stp (T : Tree) (w : List Int) : List Int := (List.range T.length).map fun (k : Nat) => acc k T w
def zs (T : Tree) : Nat → List Int
  | 0 => (List.range T.length).map fun k => if k = 0 then 1 else 0
  | i + 1 => stp T (zs T i)
theorem acc_sm (p : Int) : ∀ (T : Tree) (f : Nat → Int), acc p T ((List.range T.length).map f) = sm T.length fun j => f j * (ind (tl T j = p) + ind (tr T j = p))
  | [], f => rfl
  | t :: T, f => by
    have e : (List.range (t :: T).length).map f = f 0 :: (List.range T.length).map fun j => f (j + 1) := by
      rw [List.length_cons, List.range_succ_eq_map, List.map_cons, List.map_map]; rfl
    rw [e]
    show (if t.1 = p then f 0 else 0) + (if t.2 = p then f 0 else 0) + acc p T _ = _
    rw [acc_sm p T]
    have e2 : sm (t :: T).length (fun j => f j * (ind (tl (t :: T) j = p) + ind (tr (t :: T) j = p))) = f 0 * (ind (t.1 = p) + ind (t.2 = p)) + sm T.length fun j => f (j + 1) * (ind (tl T j = p) + ind (tr T j = p)) := by
      have : ∀ (g : Nat → Int) n, sm (n + 1) g = g 0 + sm n fun j => g (j + 1) := fun g n => by
        induction n with
        | zero => simp [sm]
        | succ n ih =>
          have a : sm (n + 1 + 1) g = sm (n + 1) g + g (n + 1) := rfl
          have b : sm (n + 1) (fun j => g (j + 1)) = sm n (fun j => g (j + 1)) + g (n + 1) := rfl
          rw [a, b, ih]; omega
      rw [List.length_cons, this]; rfl
    rw [e2]
    unfold ind
    split <;> split <;> omega
theorem zs_eq (T : Tree) : ∀ i, zs T i = (List.range T.length).map fun k => Wv T i k
  | 0 => rfl
  | i + 1 => by
    show stp T (zs T i) = _
    rw [zs_eq T i]
    unfold stp
    exact List.map_congr_left fun k _ => acc_sm (k : Int) T _
theorem Lv_acc (T : Tree) (i x : Nat) : Lv T (i + 1) x = acc (-1 - (x : Int)) T (zs T i) := by rw [zs_eq, acc_sm]; rfl
end SM
end
section
set_option maxRecDepth 100000
namespace SM
/-! ### the tree of the figures -/
def off (m d : Nat) : Int := ((List.range d).map (rem m)).sum
def plc (m d : Nat) (p : Int) : Int := if p < m * dig m d then -1 - p else off m (if d = (rnd m).1 + (rnd m).2 then (rnd m).1 else d) + p - m * dig m d
def ltr (m : Nat) : Tree := (List.range ((rnd m).1 + (rnd m).2)).flatMap fun d => (List.range (rem m d).toNat).map fun (p : Nat) => (plc m (d + 1) (2 * p), plc m (d + 1) (2 * p + 1))
def okB (m : Nat) (T : Tree) : Bool := decide (0 < T.length) && T.all fun p => decide (-(m : Int) ≤ p.1) && decide (p.1 < T.length) && decide (-(m : Int) ≤ p.2) && decide (p.2 < T.length)
def roB (T : Tree) : Bool := (List.range T.length).all fun j => decide (j = 0) || (T.take j).any fun p => decide (p.1 = (j : Int)) || decide (p.2 = (j : Int))
def lvS (T : Tree) : Nat → List Bool
  | 0 => T.map fun p => decide (p.1 < 0) || decide (p.2 < 0)
  | k + 1 => T.map fun p => decide (p.1 < 0) || decide (p.2 < 0) || (decide (0 ≤ p.1) && (lvS T k).getD p.1.toNat false) || (decide (0 ≤ p.2) && (lvS T k).getD p.2.toNat false)
def chk (m : Nat) (T : Tree) : Nat → Nat → List Int → List Int → Bool
  | 0, _, w, w1 => decide (w = w1)
  | n + 1, i, w, w1 => ((List.range m).all fun x => decide (acc (-1 - (x : Int)) T w = dig m (i + 1))) && chk m T n (i + 1) (stp T w) w1
theorem ok_of {m : Nat} {T : Tree} (h : okB m T = true) : Ok m T := by
  unfold okB at h
  rw [Bool.and_eq_true] at h
  have a := List.all_eq_true.mp h.2
  have g : ∀ t, t < T.length → -(m : Int) ≤ tl T t ∧ tl T t < T.length ∧ -(m : Int) ≤ tr T t ∧ tr T t < T.length := fun t ht => by
    have q := a _ (List.mem_of_getElem? (tree_at ht))
    simp only [Bool.and_eq_true, decide_eq_true_eq] at q
    exact ⟨q.1.1.1, q.1.1.2, q.1.2, q.2⟩
  exact ⟨of_decide_eq_true h.1, fun t ht => ⟨(g t ht).1, (g t ht).2.1⟩, fun t ht => ⟨(g t ht).2.2.1, (g t ht).2.2.2⟩⟩
theorem ro_of {T : Tree} (h : roB T = true) : ∀ t, t < T.length → Reach T 0 t := by
  intro t
  induction t using Nat.strongRecOn with
  | ind t ih =>
    intro ht
    have a := List.all_eq_true.mp h t (List.mem_range.mpr ht)
    rw [Bool.or_eq_true] at a
    rcases a with a | a
    · rw [of_decide_eq_true a]; exact .refl
    · obtain ⟨p, hp, q⟩ := List.any_eq_true.mp a
      obtain ⟨i, hi⟩ := List.getElem?_of_mem hp
      have hit : i < t := by
        have := (List.getElem?_eq_some_iff.mp hi).1
        rw [List.length_take] at this
        omega
      rw [List.getElem?_take_of_lt hit] at hi
      have r := ih i hit (by omega)
      rw [Bool.or_eq_true] at q
      rcases q with q | q
      · exact .left r (by rw [tl_at hi]; exact of_decide_eq_true q)
      · exact .right r (by rw [tr_at hi]; exact of_decide_eq_true q)
theorem lvS_live {T : Tree} : ∀ k t, (lvS T k).getD t false = true → Live T t
  | 0, t, h => by
    unfold lvS at h
    rw [List.getD_eq_getElem?_getD, List.getElem?_map] at h
    cases e : T[t]? with
    | none => rw [e] at h; cases h
    | some p =>
      rw [e] at h
      have h : (decide (p.1 < 0) || decide (p.2 < 0)) = true := h
      simp only [Bool.or_eq_true, decide_eq_true_eq] at h
      refine ⟨t, .refl, ?_⟩
      rw [tl_at e, tr_at e]
      exact h
  | k + 1, t, h => by
    unfold lvS at h
    rw [List.getD_eq_getElem?_getD, List.getElem?_map] at h
    cases e : T[t]? with
    | none => rw [e] at h; cases h
    | some p =>
      rw [e] at h
      have h : (decide (p.1 < 0) || decide (p.2 < 0) || (decide (0 ≤ p.1) && (lvS T k).getD p.1.toNat false) || (decide (0 ≤ p.2) && (lvS T k).getD p.2.toNat false)) = true := h
      simp only [Bool.or_eq_true, Bool.and_eq_true, decide_eq_true_eq] at h
      rcases h with ((h | h) | h) | h
      · exact ⟨t, .refl, .inl (by rw [tl_at e]; exact h)⟩
      · exact ⟨t, .refl, .inr (by rw [tr_at e]; exact h)⟩
      · exact Live.of (.left .refl (by rw [tl_at e]; omega)) (lvS_live k p.1.toNat h.2)
      · exact Live.of (.right .refl (by rw [tr_at e]; omega)) (lvS_live k p.2.toNat h.2)
theorem lv_of {T : Tree} {k : Nat} (h : (lvS T k).all id = true) : ∀ t, t < T.length → Live T t := fun t ht => by
  refine lvS_live k t ?_
  have hl : (lvS T k).length = T.length := by
    cases k <;> (unfold lvS; rw [List.length_map])
  rw [List.getD_eq_getElem?_getD, List.getElem?_eq_getElem (by rw [hl]; exact ht)]
  exact List.all_eq_true.mp h _ (List.getElem_mem _)
theorem chk_of {m : Nat} {T : Tree} {w1 : List Int} : ∀ n i, chk m T n i (zs T i) w1 = true → zs T (i + n) = w1 ∧ ∀ j, i ≤ j → j < i + n → ∀ x, x < m → acc (-1 - (x : Int)) T (zs T j) = dig m (j + 1)
  | 0, i, h => ⟨of_decide_eq_true h, fun j h1 h2 => by omega⟩
  | n + 1, i, h => by
    unfold chk at h
    rw [Bool.and_eq_true] at h
    obtain ⟨a, b⟩ := chk_of n (i + 1) h.2
    refine ⟨by rw [← a]; congr 1; omega, fun j h1 h2 x hx => ?_⟩
    by_cases e : j = i
    · rw [e]; exact of_decide_eq_true (List.all_eq_true.mp h.1 x (List.mem_range.mpr hx))
    · exact b j (by omega) (by omega) x hx
def good (m : Nat) : Bool := okB m (ltr m) && roB (ltr m) && (lvS (ltr m) 9).all id && chk m (ltr m) ((rnd m).1 + (rnd m).2) 0 (zs (ltr m) 0) (zs (ltr m) (rnd m).1) && decide ((ltr m).length ≤ 55)
theorem good_all : ((List.range 13).all fun m => decide (m < 2) || good m) = true := by decide +kernel
/-- all that is asked of it -/
structure Lst (m : Nat) (T : Tree) : Prop where
  ok : Ok m T
  ro : ∀ t, t < T.length → Reach T 0 t
  live : ∀ t, t < T.length → Live T t
  leaves : ∀ D x, x < m → Lv T D x = dig m D
  le : T.length ≤ 55
theorem ltr_lst {m : Nat} (h1 : 2 ≤ m) (h2 : m ≤ 12) : Lst m (ltr m) := by
  have h := List.all_eq_true.mp good_all m (List.mem_range.mpr (by omega))
  rw [decide_eq_false (by omega), Bool.false_or] at h
  unfold good at h
  simp only [Bool.and_eq_true] at h
  obtain ⟨⟨⟨⟨a, b⟩, c⟩, d⟩, e⟩ := h
  have O := ok_of a
  obtain ⟨d1, d2⟩ := chk_of _ 0 d
  have hc := (uOk_parts (by omega : 1 ≤ m) h2).1
  have z : ∀ i, zs (ltr m) i = zs (ltr m) (posn m i) := fun i => by
    induction i with
    | zero => rfl
    | succ i ih =>
      show stp (ltr m) (zs (ltr m) i) = zs (ltr m) (nxt m (posn m i))
      rw [ih]
      have e1 : stp (ltr m) (zs (ltr m) (posn m i)) = zs (ltr m) (posn m i + 1) := rfl
      rw [e1]
      unfold nxt
      split
      · rename_i q
        rw [q, ← d1, Nat.zero_add]
      · rfl
  refine ⟨O, ro_of b, lv_of c, fun D x hx => ?_, of_decide_eq_true e⟩
  cases D with
  | zero =>
    show (0 : Int) = ((2 ^ 0 / m % 2 : Nat) : Int)
    rw [Nat.pow_zero, Nat.div_eq_of_lt (by omega)]; rfl
  | succ i =>
    rw [Lv_acc, z i, d2 (posn m i) (Nat.zero_le _) (by rw [Nat.zero_add]; exact posn_lt (by omega) h2 i) x hx]
    exact posn_dig (by omega) h2 i
end SM
end
section
set_option maxRecDepth 100000
set_option maxHeartbeats 4000000
namespace Ser
open PySem L2
section
variable {P : Program} {w : World} {K : PySem.W.Frag} {mg : Str → Option Value} {base : Heap} {aN aW : Addr}
/-! ### place_at -/
abbrev sPlaceAt : Stmt := top 39
def NPlaceAt : List Str := ["leaves", "depth", "place", "offsets", "ends"]
theorem scPlaceAt : FnScope NPlaceAt ["leaves", "depth", "place", "offsets", "ends"] (defScope sPlaceAt) := ⟨rfl, rfl, rfl, by decide +kernel, rfl, by decide +kernel, by decide +kernel⟩
def spPlaceAt (K : PySem.W.Frag) : Sp := fun vs H Q _ => ∃ (aL aO aE : Addr) (d m : Nat) (p : Int), vs = [.ref aL, .int d, .int p, .ref aO, .ref aE] ∧ 1 ≤ m ∧ m ≤ 12 ∧ d ≤ (SM.rnd m).1 + (SM.rnd m).2 ∧ SqL K H aL (rowV ((SM.rnd m).1 + (SM.rnd m).2 + 1) (lvs m)) ∧ SqL K H aO (rowV ((SM.rnd m).1 + (SM.rnd m).2) (SM.off m)) ∧
  SqT K H aE [.int (SM.rnd m).1, .int (SM.rnd m).2] ∧ Q (.int (SM.plc m d p)) H
theorem ok_place_at {f : Addr} {fd : FuncData} (F : FnP K "place_at" sPlaceAt f fd) (T : Tx K mg aN aW) : FnOk P w K mg base CX0 1 f fd ["leaves", "depth", "place", "offsets", "ends"] (spPlaceAt K) := by
  refine F.ok scPlaceAt (fun vs H Q E h => ?_) (fun cdv A outer s H vs Q E hr h => ?_)
  · obtain ⟨_, _, _, _, _, _, rfl, _⟩ := h
    rfl
  · obtain ⟨aL, aO, aE, d, m, p, rfl, m1, m2, hd, hL, hO, hE, k⟩ := h
    refine ⟨_, PSs.nox <| (pss_cons (ps_if (pt_cmp (pc_lt (pv 2) (pe_ix (ixL K) (pv 0) (pv 1) (fun _ _ => rfl)))) (pss_one (ps_ret (pe_op op_sub (pe_un un_neg pe_int) (pv 2)))) pss_nil)
      (pss_one (ps_ret (pe_op op_sub (pe_op op_add (pe_ix (ixL K) (pv 3) (pe_ifExp (pt_cmp (pc_eqI (pv 1) (pe_callB (cSumT K) (by rfl) T.sum_ (by decide +kernel) (pa_cons (pv 4) pa_nil)))) (pe_ix (ixT K) (pv 4) pe_int (fun _ _ => rfl)) (pv 1)) (fun _ _ => rfl)) (pv 2)) (pe_ix (ixL K) (pv 0) (pv 1) (fun _ _ => rfl)))))), ?_⟩
    refine ⟨_, rfl, _, rfl, _, rfl, aL, _, d, _, rfl, rfl, hL, atI_nat (rowV_get (by omega)), ?_⟩
    have hr20 := rnd_small m2
    have q1 := SM.uOk_parts m1 m2
    refine ⟨_, _, rfl, rfl, _, rfl, iteB2 (fun e => ?_) (fun e => ?_)⟩
    · refine ⟨_, rfl, _, rfl, _, _, rfl, rfl, ?_⟩
      have e' : p < lvs m d := of_decide_eq_true e
      have : SM.plc m d p = -1 - p := if_pos e'
      rw [this] at k
      exact k
    · have e' : ¬ p < lvs m d := of_decide_eq_false e
      have ep : SM.plc m d p = SM.off m (if d = (SM.rnd m).1 + (SM.rnd m).2 then (SM.rnd m).1 else d) + p - lvs m d := if_neg e'
      rw [ep] at k
      refine ⟨_, rfl, _, rfl, _, rfl, aE, (SM.rnd m).1, (SM.rnd m).2, rfl, hE, by omega, by omega, _, _, rfl, rfl, ?_⟩
      refine ⟨_, rfl, iteB2 (fun e2 => ?_) (fun e2 => ?_)⟩
      · have e3 : d = (SM.rnd m).1 + (SM.rnd m).2 := by have := of_decide_eq_true e2; omega
        rw [if_pos e3] at k
        exact ⟨_, rfl, aE, _, 0, _, rfl, rfl, hE, atI_nat (j := 0) rfl, aO, _, (SM.rnd m).1, _, rfl, rfl, hO, atI_nat (rowV_get (by omega)), _, rfl, _, _, rfl, rfl, _, rfl, _, rfl, aL, _, d, _, rfl, rfl, hL, atI_nat (rowV_get (by omega)), _, _, rfl, rfl, k⟩
      · have e3 : ¬ d = (SM.rnd m).1 + (SM.rnd m).2 := by have := of_decide_eq_false e2; omega
        rw [if_neg e3] at k
        exact ⟨_, rfl, aO, _, d, _, rfl, rfl, hO, atI_nat (rowV_get (by omega)), _, rfl, _, _, rfl, rfl, _, rfl, _, rfl, aL, _, d, _, rfl, rfl, hL, atI_nat (rowV_get (by omega)), _, _, rfl, rfl, k⟩
end
end Ser
end
section
set_option maxRecDepth 100000
set_option maxHeartbeats 4000000
namespace Ser
open PySem L2
section
variable {P : Program} {w : World} {K : PySem.W.Frag} {mg : Str → Option Value} {base : Heap} {aN aW : Addr}
/-! ### least_tree -/
abbrev sLeastTree : Stmt := top 40
def NLeastTree : List Str := ["many", "ends", "opens", "leaves", "offsets", "depth", "found", "count", "place", "both", "toss"]
theorem scLeastTree : FnScope NLeastTree ["many"] (defScope sLeastTree) := ⟨rfl, rfl, rfl, by decide +kernel, rfl, by decide +kernel, by decide +kernel⟩
def spLeastTree (K : PySem.W.Frag) : Sp := fun vs H Q _ => ∃ m : Nat, vs = [.int m] ∧ 1 ≤ m ∧ m ≤ 12 ∧ ∀ v H', Same H H' → TD K H' v (trD (SM.ltr m)) → Q v H'
def ndT (m d p : Nat) : Int × Int := (SM.plc m (d + 1) (2 * p), SM.plc m (d + 1) (2 * p + 1))
def preT (m i : Nat) : SM.Tree := (List.range i).flatMap fun d => (List.range (SM.rem m d).toNat).map (ndT m d)
theorem preT_succ (m i : Nat) : preT m (i + 1) = preT m i ++ (List.range (SM.rem m i).toNat).map (ndT m i) := by
  unfold preT
  rw [List.range_succ, List.flatMap_append]
  simp
theorem preT_len {m : Nat} (hm : 0 < m) : ∀ i, (preT m i).length ≤ i * m
  | 0 => Nat.zero_le _
  | i + 1 => by
    have := preT_len hm i
    have l := SM.rem_lt hm i
    rw [preT_succ, List.length_append, List.length_map, List.length_range, Nat.succ_mul]
    omega
theorem rowV_take {n i : Nat} {f : Nat → Int} (h : i ≤ n) : (rowV n f).take i = rowV i f := by
  unfold rowV
  rw [← List.map_take, List.take_range, Nat.min_eq_left h]
theorem ok_least_tree {f f1 f2 f3 f4 : Addr} {fd fd1 fd2 fd3 fd4 : FuncData} (F : FnP K "least_tree" sLeastTree f fd) (T : Tx K mg aN aW) (G_open_round : Def P w K mg base CX0 "open_round" 1 ["many"] (spRound K) f1 fd1) (G_opens_to : Def P w K mg base CX0 "opens_to" 1 ["many", "depth"] spOpens f2 fd2)
    (G_leaves_to : Def P w K mg base CX0 "leaves_to" 2 ["many", "depth"] spLeaves f3 fd3) (G_place_at : Def P w K mg base CX0 "place_at" 1 ["leaves", "depth", "place", "offsets", "ends"] (spPlaceAt K) f4 fd4) : FnOk P w K mg base CX0 3 f fd ["many"] (spLeastTree K) := by
  refine F.ok scLeastTree (fun vs H Q E h => ?_) (fun cdv A outer s H vs Q E hr h => ?_)
  · obtain ⟨_, rfl, _⟩ := h
    rfl
  · obtain ⟨m, rfl, m1, m2, k⟩ := h
    refine ⟨_, PSs.nox <| (pss_cons (ps_set (i := 1) scLeastTree.nd rfl (lc_ rfl) (dcall G_open_round (hr.mono (by decide)) (pa_cons (pv 0) pa_nil)))
      (pss_cons (ps_asg (pe_tup (pa_cons (dcall G_opens_to (hr.mono (by decide)) (pa_cons (pv 0) (pa_cons (pe_op op_sub (pe_callB (cSumT K) (by rfl) T.sum_ (by decide +kernel) (pa_cons (pv 1) pa_nil)) pe_int) pa_nil))) (pa_cons (dcall G_leaves_to (hr.mono (by decide)) (pa_cons (pv 0) (pa_cons (pe_callB (cSumT K) (by rfl) T.sum_ (by decide +kernel) (pa_cons (pv 1) pa_nil)) pa_nil))) pa_nil))) (gTup' K (pgs_cons (pg_name (i := 2) scLeastTree.nd rfl (lc_ rfl)) (pgs_cons (pg_name (i := 3) scLeastTree.nd rfl (lc_ rfl)) pgs_nil))))
      (pss_cons (ps_set (i := 4) scLeastTree.nd rfl (lc_ rfl) (pe_lc (own := [("depth", 5)]) (g := (gName 5)) (tt := tYes) (by rfl) scLeastTree.nd (pi_range1 (by rfl) T.range_ (pa_cons (pe_callB (cLen K) (by rfl) T.len_ (by decide +kernel) (pa_cons (pv 2) pa_nil)) pa_nil)) (blkOk_by (N := NLeastTree) (sc := defScope sLeastTree) (by decide +kernel)) (fun _ _ _ _ _ => (pg_name (i := 5) scLeastTree.nd rfl (lc_ rfl))) (fun _ _ _ _ _ => pts_nil) (fun _ _ _ _ _ => (pe_callB (cSum K) (by rfl) T.sum_ (by decide +kernel) (pa_cons (pe_slice (slL K) (pv 2) po_none (po_some (pv 5))) pa_nil)))))
      (pss_cons (ps_set (i := 6) scLeastTree.nd rfl (lc_ rfl) (pe_lst pa_nil))
      (pss_cons (ps_for PassesOwn.never rfl (piEnum K (by rfl) T.enumerate_ (pa_cons (pv 2) pa_nil)) (gTup' K (pgs_cons (pg_name (i := 5) scLeastTree.nd rfl (lc_ rfl)) (pgs_cons (pg_name (i := 7) scLeastTree.nd rfl (lc_ rfl)) pgs_nil))) (pss_one (ps_for PassesOwn.never rfl (pi_range1 (by rfl) T.range_ (pa_cons (pv 7) pa_nil)) (pg_name (i := 8) scLeastTree.nd rfl (lc_ rfl)) (pss_cons (ps_setLc (i := 9) (own := [("toss", 10)]) (g := (gName 10)) (tt := tYes) (by rfl) scLeastTree.nd rfl rfl (sw_true rfl rfl rfl (by decide +kernel)) (piT K (pe_tup (pa_cons pe_int (pa_cons pe_int pa_nil)))) (blkOk_by (N := NLeastTree) (sc := defScope sLeastTree) (by decide +kernel)) (fun _ _ _ _ _ => (pg_name (i := 10) scLeastTree.nd rfl (lc_ rfl))) (fun _ _ _ _ _ => pts_nil) (fun _ _ _ _ _ => (dcall G_place_at (hr.mono (by decide)) (pa_cons (pv 3) (pa_cons (pe_op op_add (pv 5) pe_int) (pa_cons (pe_op op_add (pe_op op_mul pe_int (pv 8)) (pv 10)) (pa_cons (pv 4) (pa_cons (pv 1) pa_nil))))))))
      (pss_one (ps_expr (pBm K PySem.F.plainAttrs_list PySem.F.slot_list_append PySem.F.type_list_append mt_append (pv 6) (pa_cons (pe_callTy (cTuple K) (by rfl) T.tuple_ (by decide +kernel) (pa_cons (pv 9) pa_nil)) pa_nil))))))))
      (pss_one (ps_ret (pe_callTy (cTuple K) (by rfl) T.tuple_ (by decide +kernel) (pa_cons (pv 6) pa_nil))))))))), ?_⟩
    have hr20 := rnd_small m2
    have q1 := SM.uOk_parts m1 m2
    refine ⟨_, rfl, m, rfl, m1, m2, fun v H1 s1 t1 => ?_⟩
    obtain ⟨aE, rfl, hE⟩ := t1.fr
    refine ⟨_, rfl, _, rfl, aE, (SM.rnd m).1, (SM.rnd m).2, rfl, hE, by omega, by omega, _, _, rfl, rfl, ?_⟩
    have q0 : (100000 : Nat) ≤ sizeLine := by decide
    generalize hf : (SM.rnd m).1 = f0 at *
    generalize hc : (SM.rnd m).2 = c0 at *
    obtain ⟨S, hS⟩ : ∃ S, S = f0 + c0 := ⟨_, rfl⟩
    have e1 : (f0 : Int) + c0 - 1 = ((S - 1 : Nat) : Int) := by omega
    have e2 : (f0 : Int) + c0 = ((S : Nat) : Int) := by omega
    refine ⟨m, S - 1, by rw [← e1]; rfl, by omega, by omega, fun D1 H2 n2 s2 h2 => ?_⟩
    have eS : S - 1 + 1 = S := by omega
    rw [eS] at h2
    refine ⟨_, rfl, _, rfl, aE, f0, c0, rfl, Ser.Same.sqT s2 hE, by omega, by omega, m, S, by rw [← e2]; rfl, by omega, by omega, fun D2 H3 n3 s3 h3 => ?_⟩
    have h2' := s3 _ _ h2
    refine ⟨(by show 2 ≤ sizeLine; omega), fun p1 hp1 => ⟨p1, _, rfl, SqT.mk upd_same, rfl, _, _, rfl, _, _, rfl, rfl, ?_⟩⟩
    have s4 : Same H3 (upd H3 p1 (.tup [.ref D1, .ref D2])) := Ser.Same.new hp1
    have h2'' := s4 _ _ h2'
    have h3'' := s4 _ _ h3
    have s14 := (s1.trans s2).trans (s3.trans s4)
    have hE4 := Ser.Same.sqT (s2.trans (s3.trans s4)) hE
    generalize upd H3 p1 (.tup [V.ref D1, V.ref D2]) = H4 at s4 h2'' h3'' s14 hE4 ⊢
    -- offsets
    have ln : (rowV S (SM.rem m)).length = S := rowV_len ..
    refine ⟨_, rfl, D1, _, rfl, .inl (SqL.mk h2''), (S : Nat), by rw [ln], by omega, by omega, fun D0 hD0 => ?_⟩
    refine lc_tdY (K := K) (walk_range (lo := 0) (n := S)) (fun i => .int (SM.off m i)) hD0 (by omega) (fun _ _ => trivial) ?_ ?_
    · rintro i x H5 H6 k2 hi s5 ⟨xs, hxs⟩ ⟨rfl, rfl⟩ kk
      have e0 : (0 : Int) + (i : Int) = i := by omega
      show gName 5 (V.int (0 + (i : Int))) _ _ _
      rw [e0]
      refine ⟨rfl, _, rfl, _, rfl, _, rfl, D1, _, rfl, SqL.mk (s5 _ _ h2''), fun p hp => ?_⟩
      refine ⟨p, (List.range i).map (SM.rem m), rfl, SqL.mk ?_, kk _ _ (Ser.Same.new hp) (.int _)⟩
      rw [upd_same, cut_take (by rw [ln]; omega), rowV_take (by omega)]
      unfold rowV
      rw [List.map_map]; rfl
    · intro ys H5 s5 hy t
      rw [ints_of t] at hy
      have s15 := s14.trans s5
      have hE5 := Ser.Same.sqT s5 hE4
      have o5 := s5 _ _ h2''
      have l5 := s5 _ _ h3''
      refine ⟨(by show 0 ≤ sizeLine; omega), fun F hF => ?_⟩
      have sF : ∀ x, Same H5 (upd H5 F x) := fun x => Ser.Same.new hF
      refine ⟨_, rfl, D1, _, rfl, SqL.mk (sF _ _ _ o5), ?_⟩
      refine for_it walk_enum (fun i σ H' => ∃ (ys : List V) (v5 v7 v8 v9 v10 : Option V), σ = [some (.int m), some (.ref aE), some (.ref D1), some (.ref D2), some (.ref D0), v5, some (.ref F), v7, v8, v9, v10] ∧ Same H5 H' ∧ H' F = some (.lst ys) ∧ TDs K H' ys ((preT m i).map frD)) ⟨[], _, _, _, _, _, rfl, sF _, upd_same, .nil⟩ (fun i σ H' _ ⟨_, _, _, _, _, _, _, s, _⟩ => SqL.mk (s _ _ o5)) ?_ ?_
      · rintro i x σ H6 H7 hi ⟨ys, v5, v7, v8, v9, v10, rfl, s6, hF6, ht6⟩ ⟨Tp, x1, x2, rfl, hTp, rfl, hx1, hx2⟩
        rw [ln] at hi
        cases hx1
        have hx2' : (rowV S (SM.rem m))[i]? = some x2 := hx2
        rw [rowV_get hi] at hx2'
        cases hx2'
        refine ⟨Tp, _, rfl, SqT.mk upd_same, rfl, _, _, rfl, _, _, rfl, rfl, ?_⟩
        have s7 : Same H6 (upd H6 Tp (.tup [.int (i : Nat), .int (SM.rem m i)])) := Ser.Same.new hTp
        have hF7 := s7 _ _ hF6
        have ht7 := ht6.mono (TupEx.of s7)
        have s67 := s6.trans s7
        generalize upd H6 Tp (.tup [V.int (i : Nat), V.int (SM.rem m i)]) = H7 at s7 hF7 ht7 s67 ⊢
        have rl := SM.rem_lt (by omega : 0 < m) i
        have rn := SM.rem_nonneg m i
        refine ⟨_, rfl, SM.rem m i, rfl, by omega, by omega, ?_⟩
        refine for_it (walk_range (lo := 0) (n := (SM.rem m i).toNat)) (fun p σ H' => ∃ (ys : List V) (v8 v9 v10 : Option V), σ = [some (.int m), some (.ref aE), some (.ref D1), some (.ref D2), some (.ref D0), some (.int i), some (.ref F), some (.int (SM.rem m i)), v8, v9, v10] ∧ Same H5 H' ∧ H' F = some (.lst ys) ∧ TDs K H' ys ((preT m i ++ (List.range p).map (ndT m i)).map frD)) ⟨ys, _, _, _, rfl, s67, hF7, by rw [List.range_zero, List.map_nil, List.append_nil]; exact ht7⟩ (fun _ _ _ _ _ => trivial) ?_ ?_
        · rintro p x σ H8 H9 hp ⟨ys, v8, v9, v10, rfl, s8, hF8, ht8⟩ ⟨rfl, rfl⟩
          have e0 : (0 : Int) + (p : Int) = p := by omega
          show gName 8 (V.int (0 + (p : Int))) _ _ _
          rw [e0]
          refine ⟨(by show 2 ≤ sizeLine; omega), fun q hq => ⟨q, rfl, ⟨_, SqT.mk upd_same⟩, fun D hD => ?_⟩⟩
          have s9 : Same H9 (upd H9 q (.tup [.int 0, .int 1])) := Ser.Same.new hq
          have hq9 : SqT K (upd H9 q (.tup [.int 0, .int 1])) q [.int 0, .int 1] := SqT.mk upd_same
          generalize upd H9 q (.tup [V.int 0, V.int 1]) = H10 at s9 hq9 hD ⊢
          refine lc_tdY (K := K) (walk_tup (xs := [V.int 0, V.int 1])) (fun t => .int (SM.plc m (i + 1) (2 * (p : Int) + (t : Nat)))) hD (by decide) (fun H' s => Ser.Same.sqT s hq9) ?_ ?_
          · rintro t x H11 H12 k2 hi2 s11 ⟨xs, hxs⟩ ⟨rfl, hx⟩ kk
            have ex : x = V.int (t : Nat) := by
              match t, hi2, hx with
              | 0, _, hx => exact (Option.some.inj hx).symm
              | 1, _, hx => exact (Option.some.inj hx).symm
            subst ex
            have sX := s8.trans (s9.trans s11)
            refine ⟨rfl, _, rfl, _, rfl, _, _, rfl, rfl, _, rfl, _, _, rfl, rfl, .inl ⟨by decide, by decide⟩, _, rfl, _, _, rfl, rfl, _, rfl, _, rfl, D2, D0, aE, i + 1, m, 2 * (p : Int) + (t : Nat), rfl, m1, m2, ?_, ?_, ?_, ?_, kk _ _ (fun _ _ e => e) (.int _)⟩
            · rw [hf, hc]; omega
            · rw [hf, hc, ← hS]; exact SqL.mk (sX _ _ l5)
            · rw [hf, hc, ← hS]; exact SqL.mk (sX _ _ hy)
            · rw [hf, hc]; exact Ser.Same.sqT sX hE5
          · intro ys2 H11 s11 hy2 t2
            have hF11 := s11 _ _ (s9 _ _ hF8)
            have sX := s8.trans (s9.trans s11)
            have t2' : TDs K H11 ys2 [.int (ndT m i p).1, .int (ndT m i p).2] := by
              have e : ((List.range [V.int 0, V.int 1].length).map fun t : Nat => PyData.int (SM.plc m (i + 1) (2 * (p : Int) + (t : Nat)))) = [.int (ndT m i p).1, .int (ndT m i p).2] := by
                show [PyData.int (SM.plc m (i + 1) (2 * (p : Int) + ((0 : Nat) : Int))), PyData.int (SM.plc m (i + 1) (2 * (p : Int) + ((1 : Nat) : Int)))] = _
                rw [show (2 * (p : Int) + ((0 : Nat) : Int)) = 2 * (p : Int) from Int.add_zero _]; rfl
              rw [e] at t2
              exact t2
            have hl := ht8.length
            refine ⟨_, rfl, .inl ⟨rfl, _, SqL.mk hF11⟩, _, rfl, D, ys2, rfl, .inl ⟨SqL.mk hy2, fun l hl2 => ?_⟩⟩
            have s12 : Same H11 (upd H11 l (.tup ys2)) := Ser.Same.new hl2
            have len1 := preT_len (m := m) (by omega) i
            have len2 : i * m ≤ 40 * 12 := Nat.mul_le_mul (by omega) m2
            rw [List.length_map, List.length_append, List.length_map, List.length_range] at hl
            refine ⟨F, ys, _, rfl, rfl, s12 _ _ hF11, by omega, ?_⟩
            have hFl : F ≠ l := fun z => by rw [← z, hF11] at hl2; cases hl2
            refine ⟨ys ++ [.ref l], _, _, _, rfl, Ser.Same.put (sX.trans s12) hF, upd_same, ?_⟩
            have tX : TupEx H9 (upd (upd H11 l (.tup ys2)) F (.lst (ys ++ [.ref l]))) := (TupEx.of ((s9.trans s11).trans s12)).trans (TupEx.lst (s12 _ _ hF11))
            have tp : TD K (upd (upd H11 l (.tup ys2)) F (.lst (ys ++ [.ref l]))) (.ref l) (frD (ndT m i p)) := by
              refine .tup (SqT.mk (by rw [upd_ne hFl.symm, upd_same])) (t2'.mono ((TupEx.of s12).trans (TupEx.lst (s12 _ _ hF11))))
            have e3 : (preT m i ++ (List.range (p + 1)).map (ndT m i)).map frD = (preT m i ++ (List.range p).map (ndT m i)).map frD ++ [frD (ndT m i p)] := by
              rw [List.range_succ, List.map_append, List.map_append, List.map_append, List.map_append, List.append_assoc]; rfl
            rw [e3]
            exact (ht8.mono tX).append (.one tp)
        · rintro σ H8 ⟨ys, v8, v9, v10, rfl, s8, hF8, ht8⟩
          refine ⟨ys, _, _, _, _, _, rfl, s8, hF8, ?_⟩
          rw [preT_succ]
          exact ht8
      · rintro σ H6 ⟨ys, v5, v7, v8, v9, v10, rfl, s6, hF6, ht6⟩
        rw [ln] at ht6
        have eT : preT m S = SM.ltr m := by
          unfold preT SM.ltr
          rw [hf, hc, ← hS]; rfl
        rw [eT] at ht6
        refine ⟨_, rfl, F, ys, rfl, .inl ⟨SqL.mk hF6, fun l hl => ?_⟩⟩
        have s7 : Same H6 (upd H6 l (.tup ys)) := Ser.Same.new hl
        exact k _ _ ((s15.trans s6).trans s7) (.tup (SqT.mk upd_same) (ht6.mono (TupEx.of s7)))
end
end Ser
end
section
set_option maxRecDepth 100000
set_option maxHeartbeats 4000000
namespace Ser
open PySem L2
section
variable {P : Program} {w : World} {K : PySem.W.Frag} {mg : Str → Option Value} {base : Heap} {aN aW : Addr}
/-! ### the deck -/
structure Dck (D C : Addr) (n : Nat) (H : Hp) : Prop where
  ne : D ≠ C
  at_ : ∃ x : Int, 0 ≤ x ∧ x < 2 ^ 40 ∧ H D = some (.dK [(Sum.inr "cells", V.ref C), (Sum.inr "mixed", V.int x), (Sum.inr "draws", V.int (n : Nat))])
  cs : ∃ cs : List Int, H C = some (.lst (cs.map V.int)) ∧ cs.length ≤ 63
theorem cut_ints {ns : List Int} (x y : Option Int) : ∃ cs : List Int, cutV (ns.map V.int) x y = cs.map V.int ∧ cs.length ≤ ns.length := by
  unfold cutV
  generalize HT.sIx (List.map V.int ns).length 0 x = i
  generalize HT.sIx (List.map V.int ns).length (List.map V.int ns).length y = j
  exact ⟨(ns.drop i).take (j - i), by rw [List.map_take, List.map_drop], by rw [List.length_take, List.length_drop]; omega⟩
abbrev sLDeck : Stmt := top 42
def NLDeck : List Str := ["_law_script", "_law_cells", "_law_mixed", "_law_cell"]
theorem scLDeck : FnScope NLDeck ["_law_script"] (defScope sLDeck) := ⟨rfl, rfl, rfl, by decide +kernel, rfl, by decide +kernel, by decide +kernel⟩
def spLDeck (K : PySem.W.Frag) : Sp := fun vs H Q _ => ∃ (a : Addr) (ns : List Int), vs = [.ref a] ∧ SqL K H a (ns.map V.int) ∧ ns.length ≤ 63 ∧ ∀ D C H', H D = none → H C = none → Same H H' → Dck D C 0 H' → Q (.ref D) H'
theorem ok_l_deck {f : Addr} {fd : FuncData} (F : FnP K "_law_deck" sLDeck f fd) (T : Tx K mg aN aW) : FnOk P w K mg base CX0 1 f fd ["_law_script"] (spLDeck K) := by
  refine F.ok scLDeck (fun vs H Q E h => ?_) (fun cdv A outer s H vs Q E hr h => ?_)
  · obtain ⟨_, _, rfl, _⟩ := h
    rfl
  · obtain ⟨a, ns, rfl, ha, h63, k⟩ := h
    refine ⟨_, PSs.nox <| (pss_cons (ps_par (i := 1) (j := 2) rfl scLDeck.nd rfl rfl (by decide) rfl rfl (pa_cons (pe_callTy (cList K) (by rfl) T.list_ (by decide +kernel) (pa_cons (pe_slice (slL K) (pv 0) po_none (po_some pe_int)) pa_nil)) (pa_cons pe_int pa_nil)) (by rfl))
      (pss_cons (ps_for PassesOwn.never rfl (piL K (pv 1)) (pg_name (i := 3) scLDeck.nd rfl (lc_ rfl)) (pss_one (ps_set (i := 2) scLDeck.nd rfl (lc_ rfl) (pe_op op_mod (pe_callTy call_int1 (by rfl) T.int_ (by decide +kernel) (pa_cons (pe_op op_add (pe_op op_add (pe_op op_mul (pv 2) pe_int) (pe_op op_mod (pe_callTy call_int1 (by rfl) T.int_ (by decide +kernel) (pa_cons (pv 3) pa_nil)) pe_int)) pe_int) pa_nil)) pe_int))))
      (pss_one (ps_ret (pe_disp (pps_cons pe_str (pRevL K (pv 1)) (pps_cons pe_str (pv 2) (pps_cons pe_str pe_int pps_nil))) (by rfl) (by rfl) (fun z => by cases z) (by decide)))))), ?_⟩
    have q0 : (100000 : Nat) ≤ sizeLine := by decide
    refine ⟨_, rfl, _, rfl, a, _, rfl, ha, fun p hp => ?_⟩
    obtain ⟨cs, ec, lc⟩ := cut_ints (ns := ns) none (some 63)
    rw [ec]
    have s1 : Same H (upd H p (.lst (cs.map V.int))) := Ser.Same.new hp
    have hp1 : (upd H p (.lst (cs.map V.int))) p = some (.lst (cs.map V.int)) := upd_same
    generalize upd H p (.lst (cs.map V.int)) = H1 at s1 hp1 ⊢
    refine ⟨p, _, rfl, .inl (SqL.mk hp1), fun l hl => ?_⟩
    have s2 : Same H1 (upd H1 l (.lst (cs.map V.int))) := Ser.Same.new hl
    have hl2 : (upd H1 l (.lst (cs.map V.int))) l = some (.lst (cs.map V.int)) := upd_same
    generalize upd H1 l (.lst (cs.map V.int)) = H2 at s2 hl2 ⊢
    refine ⟨_, _, rfl, ?_⟩
    refine ⟨_, rfl, l, rfl, ⟨_, SqL.mk hl2⟩, ?_⟩
    refine for_list (K := K) (a := l) (xs := cs.map V.int) (fun i σ H' => ∃ (x : Int) (v3 : Option V), 0 ≤ x ∧ x < 2 ^ 40 ∧ σ = [some (.ref a), some (.ref l), some (.int x), v3] ∧ H' = H2) ⟨1086546, none, by decide, by decide, rfl, rfl⟩ (fun i σ H' _ ⟨_, _, _, _, _, e⟩ => by rw [e]; exact SqL.mk hl2) ?_ ?_
    · rintro i x σ H' hx ⟨y, v3, y0, y1, rfl, rfl⟩
      obtain ⟨n, hn, rfl⟩ := int_at hx
      refine ⟨_, rfl, _, _, rfl, rfl, .inr ⟨by decide, by decide⟩, _, rfl, .inl ⟨_, rfl, _, _, rfl, rfl, (by show (0 : Int) < 2147483629; decide), _, _, rfl, rfl, _, _, rfl, rfl, .inl ⟨_, rfl, _, _, rfl, rfl, (by show (0 : Int) < 2147483587; decide), ?_⟩⟩⟩
      refine ⟨_, _, ?_, ?_, rfl, rfl⟩
      · exact Int.emod_nonneg _ (by decide)
      · have := Int.emod_lt_of_pos (y * 48271 + n % 2147483629 + 546) (b := 2147483587) (by decide)
        exact Int.lt_trans this (by decide)
    · rintro σ H' ⟨y, v3, y0, y1, rfl, rfl⟩
      refine fun D hD => ⟨_, rfl, l, _, rfl, SqL.mk (Ser.Same.new hD _ _ hl2), fun C hC => ⟨_, rfl, ?_⟩⟩
      have hDC : D ≠ C := fun z => by rw [← z, upd_same] at hC; cases hC
      have hC2 : H' C = none := by rw [upd_ne hDC.symm] at hC; exact hC
      refine ⟨by rw [upd_ne hDC, upd_same], [(Sum.inr "cells", V.ref C), (Sum.inr "mixed", V.int y), (Sum.inr "draws", V.int 0)], rfl, (by show 3 ≤ 15; decide), ?_⟩
      have s12 := s1.trans s2
      refine k D C _ (s12.free hD) (s12.free hC2) (s12.trans (Ser.Same.put (Ser.Same.put (Ser.Same.new hD) hC2) hD)) ⟨hDC, ⟨y, y0, y1, ?_⟩, cs.reverse, ?_, by rw [List.length_reverse]; omega⟩
      · rw [upd_same]; rfl
      · rw [upd_ne hDC.symm, upd_same, List.map_reverse]
end
end Ser
end
section
set_option maxRecDepth 100000
set_option maxHeartbeats 4000000
namespace Ser
open PySem L2
section
variable {P : Program} {w : World} {K : PySem.W.Frag} {mg : Str → Option Value} {base : Heap} {aN aW : Addr}
/-- all but the deck's two stand -/
def DkS (D C : Addr) (H H' : Hp) : Prop := ∀ a o, H a = some o → a ≠ D → a ≠ C → H' a = some o
abbrev dkv (C : Addr) (x : Int) (n : Int) : List (Key × V) := [(Sum.inr "cells", V.ref C), (Sum.inr "mixed", V.int x), (Sum.inr "draws", V.int n)]
theorem dkv_c (C : Addr) (x n : Int) : valV (dkv C x n) (Sum.inr "cells") = some (.ref C) := rfl
theorem dkv_m (C : Addr) (x n : Int) : valV (dkv C x n) (Sum.inr "mixed") = some (.int x) := rfl
theorem dkv_d (C : Addr) (x n : Int) : valV (dkv C x n) (Sum.inr "draws") = some (.int n) := rfl
theorem dkv_put (C : Addr) (x n v : Int) : putK (dkv C x n) (Sum.inr "draws") (.int v) = dkv C x v := rfl
theorem made_sq (y : Int) : -(2 ^ 64) < y % 2147483647 ∧ y % 2147483647 < 2 ^ 64 := by
  have a := Int.emod_nonneg y (b := 2147483647) (by decide)
  have b := Int.emod_lt_of_pos y (b := 2147483647) (by decide)
  omega
theorem mod_nat {b : Nat} (hb : 0 < b) (y : Int) : ∃ r : Nat, y % (b : Int) = (r : Int) ∧ r < b := by
  have h1 := Int.emod_nonneg y (b := (b : Int)) (by omega)
  have h2 := Int.emod_lt_of_pos y (b := (b : Int)) (by omega)
  exact ⟨(y % b).toNat, by omega, by omega⟩
abbrev sLDraw : Stmt := top 43
def NLDraw : List Str := ["_law_deck_here", "_law_much", "_law_turn", "_law_made", "_law_cell"]
theorem scLDraw : FnScope NLDraw ["_law_deck_here", "_law_much"] (defScope sLDraw) := ⟨rfl, rfl, rfl, by decide +kernel, rfl, by decide +kernel, by decide +kernel⟩
def spLDraw : Sp := fun vs H Q _ => ∃ (D C : Addr) (n m : Nat), vs = [.ref D, .int m] ∧ Dck D C n H ∧ 1 ≤ m ∧ m ≤ 100 ∧ n ≤ 5000 ∧ ∀ (r : Nat) H', r < m → Dck D C (n + 1) H' → DkS D C H H' → Q (.int r) H'
theorem ok_l_draw {f : Addr} {fd : FuncData} (F : FnP K "_law_draw" sLDraw f fd) (T : Tx K mg aN aW) : FnOk P w K mg base CX0 1 f fd ["_law_deck_here", "_law_much"] spLDraw := by
  refine F.ok scLDraw (fun vs H Q E h => ?_) (fun cdv A outer s H vs Q E hr h => ?_)
  · obtain ⟨_, _, _, _, rfl, _⟩ := h
    rfl
  · obtain ⟨D, C, n, m, rfl, ⟨hDC, ⟨x, x0, x1, hD⟩, cs, hC, lc⟩, m1, m2, hn, k⟩ := h
    have hu := hu_of hr
    have q0 : (100000 : Nat) ≤ sizeLine := by decide
    refine ⟨_, PSs.nox <| (pss_cons (ps_dput hu (pv 0) pe_str (pe_op op_add (pe_dget hu (pv 0) pe_str (fun _ _ => rfl)) pe_int) rfl)
      (pss_cons (ps_par (i := 2) (j := 3) rfl scLDraw.nd rfl rfl (by decide) rfl rfl (pa_cons (pe_dget hu (pv 0) pe_str (fun _ _ => rfl)) (pa_cons (pe_dget hu (pv 0) pe_str (fun _ _ => rfl)) pa_nil)) (by rfl))
      (pss_cons (ps_if (pt_cmpR (oNeD K hr.units) (pe_dget hu (pv 0) pe_str (fun _ _ => rfl)) (pe_lst pa_nil) (nomark _)) (pss_cons (ps_set (i := 4) scLDraw.nd rfl (lc_ rfl) (pe_bm0 PySem.F.plainAttrs_list PySem.F.slot_list_pop PySem.F.type_list_pop mt_pop (pe_dget hu (pv 0) pe_str (fun _ _ => rfl))))
      (pss_cons (ps_if (pt_cmp (pc_ge (pv 4) (pe_op op_pow pe_int pe_int))) (pss_cons (ps_expr (pBm K PySem.F.plainAttrs_list PySem.F.slot_list_append PySem.F.type_list_append mt_append (pe_dget hu (pv 0) pe_str (fun _ _ => rfl)) (pa_cons (pe_op op_fdiv (pv 4) (pv 1)) pa_nil)))
      (pss_one (ps_ret (pe_op op_mod (pe_callTy call_int1 (by rfl) T.int_ (by decide +kernel) (pa_cons (pv 4) pa_nil)) (pv 1))))) pss_nil)
      (pss_one (ps_set (i := 3) scLDraw.nd rfl (lc_ rfl) (pe_op op_add (pv 3) (pe_op op_mod (pe_callTy call_int1 (by rfl) T.int_ (by decide +kernel) (pa_cons (pv 4) pa_nil)) pe_int)))))) pss_nil)
      (pss_cons (ps_set (i := 3) scLDraw.nd rfl (lc_ rfl) (pe_op op_mod (pe_callTy call_int1 (by rfl) T.int_ (by decide +kernel) (pa_cons (pe_op op_add (pe_op op_add (pv 3) (pe_op op_mul (pe_op op_mul pe_int (pv 2)) (pv 2))) pe_int) pa_nil)) pe_int))
      (pss_cons (ps_set (i := 3) scLDraw.nd rfl (lc_ rfl) (pe_op op_mod (pe_callTy call_int1 (by rfl) T.int_ (by decide +kernel) (pa_cons (pe_op op_mul (pv 3) pe_int) pa_nil)) pe_int))
      (pss_cons (ps_set (i := 3) scLDraw.nd rfl (lc_ rfl) (pe_op op_mod (pe_callTy call_int1 (by rfl) T.int_ (by decide +kernel) (pa_cons (pe_op op_add (pe_op op_add (pe_op op_mul (pv 3) (pv 3)) (pe_op op_mul pe_int (pv 2))) pe_int) pa_nil)) pe_int))
      (pss_one (ps_ret (pe_op op_mod (pe_op op_fdiv (pe_op op_mod (pe_callTy call_int1 (by rfl) T.int_ (by decide +kernel) (pa_cons (pe_op op_mul (pv 3) pe_int) pa_nil)) pe_int) pe_int) (pv 1)))))))))), ?_⟩
    have fin : ∀ (y : Int) H', Dck D C (n + 1) H' → DkS D C H H' → Q (.int (y % (m : Int))) H' := fun y H' d s => by
      obtain ⟨r, e, hr2⟩ := mod_nat (b := m) (by omega) y
      rw [e]
      exact k r H' hr2 d s
    have h1 : (upd H D (.dK (dkv C x ((n + 1 : Nat) : Int)))) D = some (.dK (dkv C x ((n + 1 : Nat) : Int))) := upd_same
    have h1c : (upd H D (.dK (dkv C x ((n + 1 : Nat) : Int)))) C = some (.lst (cs.map V.int)) := by rw [upd_ne hDC.symm]; exact hC
    have ks : DkS D C H (upd H D (.dK (dkv C x ((n + 1 : Nat) : Int)))) := fun a o e n1 n2 => by rw [upd_ne n1]; exact e
    refine ⟨_, rfl, D, _, rfl, DGet.k (k := Sum.inr "draws") hD, _, _, rfl, rfl, _, rfl, D, _, rfl, DPut.k (k := Sum.inr "draws") hD (by show 3 < sizeLine; omega), ?_⟩
    have eP : putK (dkv C x n) (Sum.inr "draws") (.int ((n : Int) + 1)) = dkv C x ((n + 1 : Nat) : Int) := dkv_put C x n _
    have eP' : (upd H D (.dK (putK [((Sum.inr "cells" : Key), V.ref C), (Sum.inr "mixed", V.int x), (Sum.inr "draws", V.int (n : Nat))] (Sum.inr "draws") (.int ((n : Int) + 1))))) = upd H D (.dK (dkv C x ((n + 1 : Nat) : Int))) := by rw [← eP]
    rw [eP']
    generalize upd H D (.dK (dkv C x ((n + 1 : Nat) : Int))) = H1 at h1 h1c ks ⊢
    refine ⟨_, rfl, D, _, rfl, DGet.k (k := Sum.inr "draws") h1, _, rfl, D, _, rfl, DGet.k (k := Sum.inr "mixed") h1, _, _, rfl, ?_⟩
    refine ⟨_, rfl, D, _, rfl, DGet.k (k := Sum.inr "cells") h1, (by show 0 ≤ sizeLine; omega), fun q hq => ?_⟩
    have s2 : Same H1 (upd H1 q (.lst [])) := Ser.Same.new hq
    have h2 := s2 _ _ h1
    have h2c := s2 _ _ h1c
    have ks2 : DkS D C H (upd H1 q (.lst [])) := fun a o e n1 n2 => s2 _ _ (ks a o e n1 n2)
    refine ⟨.list (cs.map .int), .list [], .lst (SqL.mk h2c) (TDs.ints _).dp, .lst (SqL.mk upd_same) .nil, shaped_ints _, rfl, ?_⟩
    generalize upd H1 q (.lst []) = H2 at s2 h2 h2c ks2 ⊢
    have e2 : PyData.eqv (.list (cs.map .int)) (.list []) = PyData.eqvAll (cs.map .int) (([] : List Int).map .int) := rfl
    rw [e2, eqv_ints]
    refine ⟨_, rfl, iteB2 (fun hb => ?_) (fun hb => ?_)⟩
    · have hne : cs ≠ [] := fun z => by rw [z] at hb; cases hb
      have hlen : 0 < cs.length := List.length_pos_iff.mpr hne
      obtain ⟨c, hc⟩ : ∃ c, cs[cs.length - 1]? = some c := ⟨cs[cs.length - 1], List.getElem?_eq_getElem (by omega)⟩
      have hlast : (cs.map V.int)[(cs.map V.int).length - 1]? = some (.int c) := by rw [List.length_map, List.getElem?_map, hc]; rfl
      refine ⟨_, rfl, D, _, rfl, DGet.k (k := Sum.inr "cells") h2, .inl ⟨rfl, _, SqL.mk h2c⟩, C, _, .int c, rfl, rfl, h2c, hlast, ?_⟩
      have h3 : (upd H2 C (.lst (cs.map V.int).dropLast)) D = some (.dK (dkv C x ((n + 1 : Nat) : Int))) := by rw [upd_ne hDC]; exact h2
      have h3c : (upd H2 C (.lst (cs.map V.int).dropLast)) C = some (.lst (cs.dropLast.map V.int)) := by rw [upd_same, List.map_dropLast]
      have ks3 : DkS D C H (upd H2 C (.lst (cs.map V.int).dropLast)) := fun a o e n1 n2 => by rw [upd_ne n2]; exact ks2 a o e n1 n2
      generalize upd H2 C (.lst (cs.map V.int).dropLast) = H3 at h3 h3c ks3 ⊢
      have ld : cs.dropLast.length = cs.length - 1 := List.length_dropLast
      refine ⟨_, rfl, _, _, rfl, rfl, ⟨by decide, by decide, by decide⟩, _, _, rfl, rfl, _, rfl, iteB2 (fun hb => ?_) (fun hb => ?_)⟩
      · refine ⟨_, rfl, D, _, rfl, DGet.k (k := Sum.inr "cells") h3, .inl ⟨rfl, _, SqL.mk h3c⟩, _, rfl, _, rfl, _, _, rfl, rfl, ⟨by omega, by omega⟩, C, _, _, rfl, rfl, h3c, by rw [List.length_map]; omega, ?_⟩
        refine ⟨_, rfl, .inl ⟨_, rfl, _, rfl, _, _, rfl, rfl, (by show (0 : Int) < (m : Int); omega), ?_⟩⟩
        refine fin _ _ ⟨hDC, ⟨x, x0, x1, by rw [upd_ne hDC]; exact h3⟩, cs.dropLast ++ [c / (m : Int)], by rw [upd_same, List.map_append]; rfl, by rw [List.length_append, ld, List.length_singleton]; omega⟩ fun a o e n1 n2 => ?_
        rw [upd_ne n2]; exact ks3 a o e n1 n2
      · refine ⟨_, rfl, _, rfl, .inl ⟨_, rfl, _, _, rfl, rfl, (by show (0 : Int) < 2147483629; decide), _, _, rfl, rfl, ?_⟩⟩
        refine ⟨_, rfl, _, rfl, _, _, rfl, rfl, .inl ⟨by decide, by decide⟩, _, rfl, _, _, rfl, rfl, .inl ⟨by omega, by omega⟩, _, _, rfl, rfl, _, _, rfl, rfl, .inl ⟨_, rfl, _, _, rfl, rfl, (by show (0 : Int) < 2147483629; decide), ?_⟩⟩
        refine ⟨_, rfl, _, _, rfl, rfl, .inr ⟨by decide, by decide⟩, .inl ⟨_, rfl, _, _, rfl, rfl, (by show (0 : Int) < 2147483647; decide), ?_⟩⟩
        refine ⟨_, rfl, _, rfl, _, _, rfl, rfl, .inl (made_sq _), _, rfl, _, _, rfl, rfl, .inl ⟨by decide, by decide⟩, _, _, rfl, rfl, _, _, rfl, rfl, .inl ⟨_, rfl, _, _, rfl, rfl, (by show (0 : Int) < 2147483587; decide), ?_⟩⟩
        refine ⟨_, rfl, _, _, rfl, rfl, .inr ⟨by decide, by decide⟩, .inl ⟨_, rfl, _, _, rfl, rfl, (by show (0 : Int) < 2147483563; decide), _, _, rfl, rfl, ⟨by decide, by decide⟩, _, rfl, _, _, rfl, rfl, (by show (0 : Int) < (m : Int); omega), ?_⟩⟩
        exact fin _ _ ⟨hDC, ⟨x, x0, x1, h3⟩, cs.dropLast, h3c, by omega⟩ ks3
    · refine ⟨_, rfl, _, rfl, _, _, rfl, rfl, .inl ⟨by decide, by decide⟩, _, rfl, _, _, rfl, rfl, .inl ⟨by omega, by omega⟩, _, _, rfl, rfl, _, _, rfl, rfl, .inl ⟨_, rfl, _, _, rfl, rfl, (by show (0 : Int) < 2147483629; decide), ?_⟩⟩
      refine ⟨_, rfl, _, _, rfl, rfl, .inr ⟨by decide, by decide⟩, .inl ⟨_, rfl, _, _, rfl, rfl, (by show (0 : Int) < 2147483647; decide), ?_⟩⟩
      refine ⟨_, rfl, _, rfl, _, _, rfl, rfl, .inl (made_sq _), _, rfl, _, _, rfl, rfl, .inl ⟨by decide, by decide⟩, _, _, rfl, rfl, _, _, rfl, rfl, .inl ⟨_, rfl, _, _, rfl, rfl, (by show (0 : Int) < 2147483587; decide), ?_⟩⟩
      refine ⟨_, rfl, _, _, rfl, rfl, .inr ⟨by decide, by decide⟩, .inl ⟨_, rfl, _, _, rfl, rfl, (by show (0 : Int) < 2147483563; decide), _, _, rfl, rfl, ⟨by decide, by decide⟩, _, rfl, _, _, rfl, rfl, (by show (0 : Int) < (m : Int); omega), ?_⟩⟩
      exact fin _ _ ⟨hDC, ⟨x, x0, x1, h2⟩, cs, h2c, lc⟩ ks2
end
end Ser
end
section
set_option maxRecDepth 100000
set_option maxHeartbeats 4000000
namespace Ser
open PySem L2
section
variable {P : Program} {w : World} {K : PySem.W.Frag} {mg : Str → Option Value} {base : Heap} {aN aW : Addr}
/-! ### twos -/
abbrev sLTwos : Stmt := top 44
def NLTwos : List Str := ["_law_much", "_law_found", "_law_k"]
theorem scLTwos : FnScope NLTwos ["_law_much"] (defScope sLTwos) := ⟨rfl, rfl, rfl, by decide +kernel, rfl, by decide +kernel, by decide +kernel⟩
def spLTwos : Sp := fun vs H Q _ => ∃ n : Nat, vs = [.int n] ∧ n ≤ 1000 ∧ Q (.int (2 ^ n)) H
theorem ok_l_twos {f : Addr} {fd : FuncData} (F : FnP K "_law_twos" sLTwos f fd) (T : Tx K mg aN aW) : FnOk P w K mg base CX0 1 f fd ["_law_much"] spLTwos := by
  refine F.ok scLTwos (fun vs H Q E h => ?_) (fun cdv A outer s H vs Q E hr h => ?_)
  · obtain ⟨_, rfl, _⟩ := h
    rfl
  · obtain ⟨n, rfl, hn, k⟩ := h
    refine ⟨_, PSs.nox <| (pss_cons (ps_set (i := 1) scLTwos.nd rfl (lc_ rfl) pe_int)
      (pss_cons (ps_for PassesOwn.never rfl (pi_range1 (by rfl) T.range_ (pa_cons (pv 0) pa_nil)) (pg_name (i := 2) scLTwos.nd rfl (lc_ rfl)) (pss_one (ps_set (i := 1) scLTwos.nd rfl (lc_ rfl) (pe_op op_mul pe_int (pv 1)))))
      (pss_one (ps_ret (pv 1))))), ?_⟩
    refine ⟨_, rfl, (n : Nat), rfl, by omega, by omega, ?_⟩
    refine for_it (walk_range (lo := 0) (n := n)) (fun i σ H' => ∃ v2 : Option V, σ = [some (.int n), some (.int (2 ^ i)), v2] ∧ H' = H) ⟨none, rfl, rfl⟩ (fun _ _ _ _ _ => trivial) ?_ ?_
    · rintro i x σ H' H'' hi ⟨v2, rfl, rfl⟩ ⟨rfl, rfl⟩
      refine ⟨_, rfl, _, _, rfl, rfl, .inl ⟨by decide, by decide⟩, some (.int (0 + (i : Int))), ?_, rfl⟩
      rw [Int.pow_succ, Int.mul_comm]; rfl
    · rintro σ H' ⟨v2, rfl, rfl⟩
      exact ⟨_, rfl, k⟩
/-! ### ratio -/
abbrev sLRatio : Stmt := top 45
def NLRatio : List Str := ["_law_top", "_law_bottom", "_law_near", "_law_far", "_law_sign"]
theorem scLRatio : FnScope NLRatio ["_law_top", "_law_bottom"] (defScope sLRatio) := ⟨rfl, rfl, rfl, by decide +kernel, rfl, by decide +kernel, by decide +kernel⟩
def spLRatio (K : PySem.W.Frag) : Sp := fun vs H Q _ => ∃ t b : Int, vs = [.int t, .int b] ∧ 0 < b ∧ Sz 8000 b ∧ ∀ v H', Same H H' → TD K H' v (frD (SM.fr t b)) → Q v H'
theorem ok_l_ratio {f : Addr} {fd : FuncData} (F : FnP K "_law_ratio" sLRatio f fd) (T : Tx K mg aN aW) : FnOk P w K mg base CX0 1 f fd ["_law_top", "_law_bottom"] (spLRatio K) := by
  refine F.ok scLRatio (fun vs H Q E h => ?_) (fun cdv A outer s H vs Q E hr h => ?_)
  · obtain ⟨_, _, rfl, _⟩ := h
    rfl
  · obtain ⟨t, b, rfl, hb, hs, k⟩ := h
    refine ⟨_, PSs.nox <| (pss_cons (ps_par (i := 2) (j := 3) rfl scLRatio.nd rfl rfl (by decide) rfl rfl (pa_cons (pe_callB call_abs (by rfl) T.abs_ (by decide +kernel) (pa_cons (pv 0) pa_nil)) (pa_cons (pe_callB call_abs (by rfl) T.abs_ (by decide +kernel) (pa_cons (pv 1) pa_nil)) pa_nil)) (by rfl))
      (pss_cons (ps_while PassesOwn.never (pt_cmp (pc_gt (pv 3) pe_int)) (pss_one (ps_par (i := 2) (j := 3) rfl scLRatio.nd rfl rfl (by decide) rfl rfl (pa_cons (pv 3) (pa_cons (pe_op op_mod (pv 2) (pv 3)) pa_nil)) (by rfl))))
      (pss_cons (ps_set (i := 4) scLRatio.nd rfl (lc_ rfl) (pe_ifExp (pt_cmp (pc_gt (pv 1) pe_int)) pe_int (pe_un un_neg pe_int)))
      (pss_one (ps_ret (pe_tup (pa_cons (pe_op op_fdivW (pe_op op_mul (pv 4) (pv 0)) (pv 2)) (pa_cons (pe_op op_fdivW (pe_op op_mul (pv 4) (pv 1)) (pv 2)) pa_nil)))))))), ?_⟩
    have g := SM.gcd_pos' (p := t) hb
    have gs : Sz 8000 (Int.gcd t b : Int) := by
      have d : (Int.gcd t b : Int) ∣ b := Int.gcd_dvd_right ..
      have := Int.le_of_dvd hb d
      unfold Sz at *
      omega
    refine ⟨_, rfl, _, rfl, _, rfl, _, rfl, _, _, rfl, ?_⟩
    refine ⟨fun m σ H' => ∃ x y : Nat, σ = [some (.int t), some (.int b), some (.int x), some (.int y), none] ∧ H' = H ∧ m = y ∧ Nat.gcd x y = Int.gcd t b, ⟨_, t.natAbs, b.natAbs, ?_, rfl, rfl, rfl⟩, ?_⟩
    · rw [abs_nat, abs_nat]; rfl
    · rintro m σ H' ⟨x, y, rfl, rfl, rfl, e⟩
      refine ⟨_, rfl, _, _, rfl, rfl, _, rfl, iteB2 (fun c => ?_) (fun c => ?_)⟩
      · have c' : 0 < m := by have := of_decide_eq_true c; omega
        refine ⟨fun σ' H'' => ∃ m', m' < m ∧ (∃ x y : Nat, σ' = [some (.int t), some (.int b), some (.int x), some (.int y), none] ∧ H'' = H' ∧ m' = y ∧ Nat.gcd x y = Int.gcd t b), fun σ' H'' h => h, ?_⟩
        refine ⟨_, rfl, _, rfl, _, rfl, _, _, rfl, rfl, (by show (0 : Int) < (m : Int); omega), _, _, rfl, ?_⟩
        refine ⟨x % m, Nat.mod_lt _ c', m, x % m, rfl, rfl, rfl, ?_⟩
        rw [← e, Nat.gcd_comm m, ← Nat.gcd_rec, Nat.gcd_comm]
      · have c' : m = 0 := by have := of_decide_eq_false (by simpa using c : decide ((0 : Int) < m) = false); omega
        subst c'
        rw [Nat.gcd_zero_right] at e
        subst e
        refine ⟨_, rfl, _, _, rfl, rfl, _, rfl, iteB (decide_eq_true hb) ?_⟩
        refine ⟨_, rfl, _, rfl, _, _, rfl, rfl, .inl ⟨by decide, by decide⟩, _, rfl, _, _, rfl, rfl, wide_div g gs (by decide) (by decide), _, rfl, _, rfl, _, _, rfl, rfl, .inl ⟨by decide, by decide⟩, _, rfl, _, _, rfl, rfl, wide_div g gs (by decide) (by decide), (by show 2 ≤ sizeLine; decide), fun p hp => ?_⟩
        rw [Int.one_mul, Int.one_mul]
        exact k _ _ (Ser.Same.new hp) (TD.fr_mk (SqT.mk upd_same))
/-! ### summed -/
abbrev sLSummed : Stmt := top 46
def NLSummed : List Str := ["_law_opens", "_law_found", "_law_places"]
theorem scLSummed : FnScope NLSummed ["_law_opens"] (defScope sLSummed) := ⟨rfl, rfl, rfl, by decide +kernel, rfl, by decide +kernel, by decide +kernel⟩
def smd (ns : List Int) : Int := ns.foldl (fun a x => 2 * (a + x)) 0
def spLSummed (K : PySem.W.Frag) : Sp := fun vs H Q _ => ∃ (a : Addr) (ns : List Int), vs = [.ref a] ∧ SqL K H a (ns.map V.int) ∧ Q (.int (smd ns)) H
theorem ok_l_summed {f : Addr} {fd : FuncData} (F : FnP K "_law_summed" sLSummed f fd) (T : Tx K mg aN aW) : FnOk P w K mg base CX0 1 f fd ["_law_opens"] (spLSummed K) := by
  refine F.ok scLSummed (fun vs H Q E h => ?_) (fun cdv A outer s H vs Q E hr h => ?_)
  · obtain ⟨_, _, rfl, _⟩ := h
    rfl
  · obtain ⟨a, ns, rfl, ha, k⟩ := h
    refine ⟨_, PSs.nox <| (pss_cons (ps_set (i := 1) scLSummed.nd rfl (lc_ rfl) pe_int)
      (pss_cons (ps_for PassesOwn.never rfl (piL K (pv 0)) (pg_name (i := 2) scLSummed.nd rfl (lc_ rfl)) (pss_one (ps_set (i := 1) scLSummed.nd rfl (lc_ rfl) (pe_op op_mul pe_int (pe_op op_add (pv 1) (pv 2))))))
      (pss_one (ps_ret (pv 1))))), ?_⟩
    refine ⟨_, rfl, a, rfl, ⟨_, ha⟩, for_list (K := K) (a := a) (xs := ns.map V.int) (fun i σ H' => ∃ v, σ = [some (.ref a), some (.int (smd (ns.take i))), v] ∧ H' = H) ⟨none, rfl, rfl⟩ (fun i σ H' _ ⟨v, _, e⟩ => by rw [e]; exact ha) ?_ ?_⟩
    · rintro i x σ H' hx ⟨v, rfl, rfl⟩
      obtain ⟨n, hn, rfl⟩ := int_at hx
      refine ⟨_, rfl, _, rfl, _, _, rfl, rfl, _, _, rfl, rfl, .inl ⟨by decide, by decide⟩, some (.int n), ?_, rfl⟩
      rw [take_succ' hn]
      unfold smd
      rw [List.foldl_append]
      rfl
    · rintro σ H' ⟨v, rfl, rfl⟩
      refine ⟨_, rfl, ?_⟩
      rw [List.length_map, List.take_length]
      exact k
end
end Ser
end
section
set_option maxRecDepth 100000
set_option maxHeartbeats 4000000
/-! the sum of a tuple of small ints -/
namespace Ser
open PySem L2
open PyProof.Rows hiding St RelV
def rSumN (K : PySem.W.Frag) : List V → Hp → VK → Prop := fun vs H Q => ∃ (a : Addr) (ns : List Int), vs = [V.ref a] ∧ SqT K H a (ns.map V.int) ∧ (∀ x ∈ ns, 0 ≤ x ∧ x ≤ 1000) ∧ ns.length ≤ 1000 ∧ Q (.int ns.sum) H
theorem preSum_take {ns : List Int} : ∀ j, j ≤ ns.length → preSum (fun k => ns.getD k 0) j = (ns.take j).sum
  | 0, _ => rfl
  | j + 1, h => by
    show preSum (fun k => ns.getD k 0) j + ns.getD j 0 = _
    rw [preSum_take j (by omega), List.take_succ, List.getD_eq_getElem?_getD]
    cases e : ns[j]? with
    | none => rw [List.getElem?_eq_none_iff] at e; omega
    | some x => simp
theorem sum_bd : ∀ {ns : List Int}, (∀ x ∈ ns, 0 ≤ x ∧ x ≤ 1000) → 0 ≤ ns.sum ∧ ns.sum ≤ 1000 * ns.length
  | [], _ => by simp
  | x :: ns, h => by
    have a := h x List.mem_cons_self
    have b := sum_bd fun y hy => h y (List.mem_cons_of_mem _ hy)
    rw [List.sum_cons, List.length_cons]
    omega
theorem cr_sumN {X : Cx} (hc : X.calm = true) : CallR X (.builtin "sum") (rSumN X.K) := by
  intro pins s σ H vs us Q I r h
  obtain ⟨a, ns, rfl, hs, hb, hl, q⟩ := h
  obtain ⟨its, rv, pl, hz⟩ := I.tuple hs
  rw [Vals.ref1 r]
  have ha : a < s.heap.objs.size := pl.lt
  have hlen := rv.length
  rw [List.length_map] at hlen
  refine call_sum_walk (iter_tuple pl ⟨s.heap.objs.size, [s.heap.objs.size, a], [s.heap.objs.size], its.toArray.size, _, _, fun k => ns.getD k 0, rfl, Walks.tuple (A := X.A.in1) (I.ok.hd hc) s.heap.objs.size a (Nat.ne_of_lt ha) its.toArray, ⟨⟨_, Heap.get?_push_size _ rfl, rfl, rfl⟩, pl.push _⟩, fun b hb => ?_, fun k v hv => ?_, fun k hk => ?_, fun h' tk t' hk => ?_⟩)
  · rcases List.mem_cons.mp hb with rfl | hb
    · show s.heap.objs.size < (s.heap.push _).objs.size
      rw [Heap.size_push]; exact Nat.lt_succ_self _
    · rw [List.mem_singleton.mp hb]
      show a < (s.heap.push _).objs.size
      rw [Heap.size_push]; exact Nat.lt_succ_of_lt ha
  · have hv : its[k]? = some v := by simpa using hv
    have hk : k < ns.length := by
      have := (List.getElem?_eq_some_iff.mp hv).1
      omega
    obtain ⟨u, hu, ru⟩ := rv.get (show (ns.map V.int)[k]? = some (.int (ns.getD k 0)) by rw [List.getElem?_map, List.getD_eq_getElem?_getD, List.getElem?_eq_getElem hk]; rfl)
    rw [hv] at hu
    cases hu
    obtain ⟨t, rfl⟩ := ru
    exact ⟨t, rfl⟩
  · have hk' : k < ns.length := by
      have : k < its.length := by simpa using hk
      omega
    have e : ns.getD k 0 = ns[k] := by rw [List.getD_eq_getElem?_getD, List.getElem?_eq_getElem hk']; rfl
    have b1 := hb _ (List.getElem_mem hk')
    have b2 := sum_bd (ns := ns.take (k + 1)) fun x hx => hb x (List.mem_of_mem_take hx)
    have l2 := List.length_take_le (k + 1) ns
    have l3 : (ns.take (k + 1)).length ≤ ns.length := List.length_take_le' ..
    rw [preSum_take (k + 1) hk']
    unfold InLong
    show (-(2 ^ 63) ≤ ns.getD k 0 ∧ ns.getD k 0 < 2 ^ 63) ∧ _
    rw [e]
    omega
  · refine ⟨.int ns.sum, H, I.kept (t' := tk) (fun b o e => hk b o (fun z => ?_) (Heap.get?_push_of_some _ e)), ⟨t', ?_⟩, q⟩
    · rw [List.mem_singleton.mp z] at e
      exact absurd (Heap.lt_size e) (Nat.lt_irrefl _)
    · have e : its.toArray.size = ns.length := by simpa using hlen.symm
      show Value.int (preSum (fun k => ns.getD k 0) its.toArray.size) t' = _
      rw [e, preSum_take _ (Nat.le_refl _), List.take_length]
theorem cSumN (K : PySem.W.Frag) {X : Cx} (hc : X.calm = true := by rfl) (e : X.K = K := by rfl) : CallR X (.builtin "sum") (rSumN K) := by subst e; exact cr_sumN hc
end Ser
end
section
set_option maxRecDepth 100000
set_option maxHeartbeats 4000000
namespace Ser
open PySem L2
section
variable {P : Program} {w : World} {K : PySem.W.Frag} {mg : Str → Option Value} {base : Heap} {aN aW : Addr}
/-! ### mean_by -/
abbrev sLMeanBy : Stmt := top 47
def NLMeanBy : List Str := ["_law_loads", "_law_whole", "_law_rests", "_law_met_here", "_law_opens", "_law_rest", "_law_first", "_law_ahead", "_law_again", "_law_near", "_law_far"]
theorem scLMeanBy : FnScope NLMeanBy ["_law_loads"] (defScope sLMeanBy) := ⟨rfl, rfl, rfl, by decide +kernel, rfl, by decide +kernel, by decide +kernel⟩
def kk1 (m : Nat) (x : Int) : List Key := List.replicate m (Sum.inl x)
def kt (m i : Nat) : List (List Key × V) := (List.range i).map fun j => (kk1 m (SM.rem m j), V.int j)
theorem kt_succ (m i : Nat) : kt m (i + 1) = kt m i ++ [(kk1 m (SM.rem m i), V.int i)] := by
  unfold kt
  rw [List.range_succ, List.map_append]
  rfl
theorem kt_len (m i : Nat) : (kt m i).length = i := by unfold kt; simp
theorem kk1_inj {m : Nat} (hm : 0 < m) {x y : Int} : kk1 m x = kk1 m y ↔ x = y := by
  constructor
  · intro h
    have := congrArg (fun l => l[0]?) h
    unfold kk1 at this
    simp only [List.getElem?_replicate, hm, if_true] at this
    exact Sum.inl.inj (Option.some.inj this)
  · intro h; rw [h]
theorem kt_get {m : Nat} (hm : 0 < m) (x : Int) (i : Nat) : valV (kt m i) (kk1 m x) = valV (kn m i) (Sum.inl x) := by
  unfold valV kt kn
  rw [List.find?_map, List.find?_map, Option.map_map, Option.map_map]
  have e : ((fun kv : List Key × V => decide (kv.1 = kk1 m x)) ∘ fun j => (kk1 m (SM.rem m j), V.int (j : Nat))) = ((fun kv : Key × V => decide (kv.1 = Sum.inl x)) ∘ fun j => ((Sum.inl (SM.rem m j) : Key), V.int (j : Nat))) := by
    funext j
    show decide (kk1 m (SM.rem m j) = kk1 m x) = decide ((Sum.inl (SM.rem m j) : Key) = Sum.inl x)
    refine decide_eq_decide.mpr ⟨fun h => by rw [(kk1_inj hm).mp h], fun h => by rw [Sum.inl.inj h]⟩
  rw [e]
  rfl
theorem kk1_row (m : Nat) (x : Int) : (kk1 m x).map kV = rowV m fun _ => x := by
  unfold kk1 rowV
  rw [List.map_replicate]
  exact (List.map_const' .. ▸ by simp [kV])
theorem row_rep (m : Nat) (x : Int) : (rowV m fun _ => x) = (List.replicate m x).map V.int := by
  rw [List.map_replicate]
  unfold rowV
  exact (List.map_const' ..).trans (by rw [List.length_range])
theorem sum_rep (m : Nat) (x : Int) : (List.replicate m x).sum = m * x := by
  induction m with
  | zero => simp
  | succ m ih =>
    rw [List.replicate_succ, List.sum_cons, ih]
    push_cast
    rw [Int.add_mul, Int.one_mul, Int.add_comm]
def mbOk (m : Nat) : Bool := decide (SM.fr (smd ((List.range (SM.rnd m).1).map (SM.rem m)) * (2 ^ (SM.rnd m).2 - 1) + smd ((List.range (SM.rnd m).2).map fun j => SM.rem m ((SM.rnd m).1 + j))) (2 ^ (SM.rnd m).1 * (2 ^ (SM.rnd m).2 - 1)) = SM.bst m)
theorem mbOk_all : ((List.range 13).all fun m => m == 0 || mbOk m) = true := by decide +kernel
theorem mbOk_of {m : Nat} (h1 : 1 ≤ m) (h2 : m ≤ 12) : SM.fr (smd ((List.range (SM.rnd m).1).map (SM.rem m)) * (2 ^ (SM.rnd m).2 - 1) + smd ((List.range (SM.rnd m).2).map fun j => SM.rem m ((SM.rnd m).1 + j))) (2 ^ (SM.rnd m).1 * (2 ^ (SM.rnd m).2 - 1)) = SM.bst m := by
  have h := List.all_eq_true.mp mbOk_all m (List.mem_range.mpr (by omega))
  have e : (m == 0) = false := by simp; omega
  rw [e, Bool.false_or] at h
  exact of_decide_eq_true h
def spLMeanBy (K : PySem.W.Frag) : Sp := fun vs H Q _ => ∃ (a : Addr) (m : Nat), vs = [.ref a] ∧ SqT K H a (rowV m fun _ => 1) ∧ 1 ≤ m ∧ m ≤ 12 ∧ ∀ v H', Same H H' → TD K H' v (frD (SM.bst m)) → Q v H'
theorem two_le {a b : Nat} (h : a ≤ b) : (2 : Int) ^ a ≤ 2 ^ b := by
  have := Nat.pow_le_pow_right (n := 2) (by decide) h
  exact_mod_cast this
theorem ok_l_mean_by {f f1 f2 f3 : Addr} {fd fd1 fd2 fd3 : FuncData} (F : FnP K "_law_mean_by" sLMeanBy f fd) (T : Tx K mg aN aW) (G__law_summed : Def P w K mg base CX0 "_law_summed" 1 ["_law_opens"] (spLSummed K) f1 fd1) (G__law_twos : Def P w K mg base CX0 "_law_twos" 1 ["_law_much"] spLTwos f2 fd2)
    (G__law_ratio : Def P w K mg base CX0 "_law_ratio" 1 ["_law_top", "_law_bottom"] (spLRatio K) f3 fd3) : FnOk P w K mg base CX0 2 f fd ["_law_loads"] (spLMeanBy K) := by
  refine F.ok scLMeanBy (fun vs H Q E h => ?_) (fun cdv A outer s H vs Q E hr h => ?_)
  · obtain ⟨_, _, rfl, _⟩ := h
    rfl
  · obtain ⟨a, m, rfl, ha, m1, m2, k⟩ := h
    have hu := hu_of hr
    have q0 : (100000 : Nat) ≤ sizeLine := by decide
    obtain ⟨new, back⟩ := roundOk_of m1 m2
    have hr20 := rnd_small m2
    refine ⟨_, PSs.nox <| (pss_cons (ps_asg (pe_tup (pa_cons (pe_callB (cSumN K) (by rfl) T.sum_ (by decide +kernel) (pa_cons (pv 0) pa_nil)) (pa_cons (pe_callTy (cList K) (by rfl) T.list_ (by decide +kernel) (pa_cons (pv 0) pa_nil)) (pa_cons pe_dnewT (pa_cons (pe_lst pa_nil) pa_nil))))) (gTup' K (pgs_cons (pg_name (i := 1) scLMeanBy.nd rfl (lc_ rfl)) (pgs_cons (pg_name (i := 2) scLMeanBy.nd rfl (lc_ rfl)) (pgs_cons (pg_name (i := 3) scLMeanBy.nd rfl (lc_ rfl)) (pgs_cons (pg_name (i := 4) scLMeanBy.nd rfl (lc_ rfl)) pgs_nil))))))
      (pss_cons (ps_setLc (i := 2) (own := [("_law_rest", 5)]) (g := (gName 5)) (tt := tYes) (by rfl) scLMeanBy.nd rfl rfl (sw_true rfl rfl rfl (by decide +kernel)) (piL K (pv 2)) (blkOk_by (N := NLMeanBy) (sc := defScope sLMeanBy) (by decide +kernel)) (fun _ _ _ _ _ => (pg_name (i := 5) scLMeanBy.nd rfl (lc_ rfl))) (fun _ _ _ _ _ => pts_nil) (fun _ _ _ _ _ => (pe_op op_mod (pv 5) (pv 1))))
      (pss_cons (ps_while PassesOwn.never (pt_cmp (pc_dnotin hu (pe_callTy (cTuple K) (by rfl) T.tuple_ (by decide +kernel) (pa_cons (pv 2) pa_nil)) (pv 3))) (pss_cons (ps_dput hu (pv 3) (pe_callTy (cTuple K) (by rfl) T.tuple_ (by decide +kernel) (pa_cons (pv 2) pa_nil)) (pe_callB (cLen K) (by rfl) T.len_ (by decide +kernel) (pa_cons (pv 4) pa_nil)) rfl)
      (pss_cons (ps_expr (pBm K PySem.F.plainAttrs_list PySem.F.slot_list_append PySem.F.type_list_append mt_append (pv 4) (pa_cons (pe_op op_fdiv (pe_callB (cSum K) (by rfl) T.sum_ (by decide +kernel) (pa_cons (pv 2) pa_nil)) (pv 1)) pa_nil)))
      (pss_one (ps_setLc (i := 2) (own := [("_law_rest", 5)]) (g := (gName 5)) (tt := tYes) (by rfl) scLMeanBy.nd rfl rfl (sw_true rfl rfl rfl (by decide +kernel)) (piL K (pv 2)) (blkOk_by (N := NLMeanBy) (sc := defScope sLMeanBy) (by decide +kernel)) (fun _ _ _ _ _ => (pg_name (i := 5) scLMeanBy.nd rfl (lc_ rfl))) (fun _ _ _ _ _ => pts_nil) (fun _ _ _ _ _ => (pe_op op_mod (pe_callTy call_int1 (by rfl) T.int_ (by decide +kernel) (pa_cons (pe_op op_mul pe_int (pv 5)) pa_nil)) (pv 1))))))))
      (pss_cons (ps_set (i := 6) scLMeanBy.nd rfl (lc_ rfl) (pe_dget hu (pv 3) (pe_callTy (cTuple K) (by rfl) T.tuple_ (by decide +kernel) (pa_cons (pv 2) pa_nil)) (fun _ _ => rfl)))
      (pss_cons (ps_par (i := 7) (j := 8) rfl scLMeanBy.nd rfl rfl (by decide) rfl rfl (pa_cons (dcall G__law_summed (hr.mono (by decide)) (pa_cons (pe_slice (slL K) (pv 4) po_none (po_some (pv 6))) pa_nil)) (pa_cons (dcall G__law_summed (hr.mono (by decide)) (pa_cons (pe_slice (slL K) (pv 4) (po_some (pv 6)) po_none) pa_nil)) pa_nil)) (by rfl))
      (pss_cons (ps_par (i := 9) (j := 10) rfl scLMeanBy.nd rfl rfl (by decide) rfl rfl (pa_cons (dcall G__law_twos (hr.mono (by decide)) (pa_cons (pv 6) pa_nil)) (pa_cons (pe_op op_sub (dcall G__law_twos (hr.mono (by decide)) (pa_cons (pe_op op_sub (pe_callB (cLen K) (by rfl) T.len_ (by decide +kernel) (pa_cons (pv 4) pa_nil)) (pv 6)) pa_nil)) pe_int) pa_nil)) (by rfl))
      (pss_one (ps_ret (dcall G__law_ratio (hr.mono (by decide)) (pa_cons (pe_op op_add (pe_op op_mul (pv 7) (pv 10)) (pv 8)) (pa_cons (pe_op op_mul (pv 9) (pv 10)) pa_nil))))))))))), ?_⟩
    have e1 : (rowV m fun _ => (1 : Int)) = (List.replicate m (1 : Int)).map V.int := row_rep m 1
    have e2 : (List.replicate m (1 : Int)).sum = (m : Int) := by rw [sum_rep, Int.mul_one]
    refine ⟨_, rfl, a, List.replicate m 1, rfl, by rw [← e1]; exact ha, (fun x hx => by rw [List.eq_of_mem_replicate hx]; decide), (by rw [List.length_replicate]; omega), _, rfl, a, _, rfl, .inr ha, fun R hR => ?_⟩
    rw [e2]
    have s1 := Ser.Same.new (o := .lst (rowV m fun _ => 1)) hR
    have hR1 : (upd H R (.lst (rowV m fun _ => 1))) R = some (.lst (rowV m fun _ => 1)) := upd_same
    generalize upd H R (.lst (rowV m fun _ => 1)) = H1 at s1 hR1 ⊢
    refine fun d hd => ⟨(by show 0 ≤ sizeLine; omega), fun O hO => ⟨(by show 4 ≤ sizeLine; omega), fun p hp => ⟨p, _, rfl, SqT.mk upd_same, rfl, _, _, rfl, _, _, rfl, _, _, rfl, _, _, rfl, rfl, ?_⟩⟩⟩
    have s2 : Same H1 (upd H1 d (.dT [])) := Ser.Same.new hd
    have s3 : Same (upd H1 d (.dT [])) (upd (upd H1 d (.dT [])) O (.lst [])) := Ser.Same.new hO
    have hdn : H d = none := s1.free hd
    have hOn : H O = none := (s1.trans s2).free hO
    have hd2 : (upd H1 d (.dT [])) d = some (.dT []) := upd_same
    have hdO : d ≠ O := fun z => by rw [← z, hd2] at hO; cases hO
    have hO3 : (upd (upd H1 d (.dT [])) O (.lst [])) O = some (.lst []) := upd_same
    have hd3 := s3 _ _ hd2
    have hR3 := s3 _ _ (s2 _ _ hR1)
    generalize upd (upd H1 d (.dT [])) O (.lst []) = H3 at s3 hO3 hd3 hR3 hp ⊢
    have s4 := Ser.Same.new (o := .tup [.int m, .ref R, .ref d, .ref O]) hp
    have s14 := ((s1.trans s2).trans s3).trans s4
    have hd4 := s4 _ _ hd3
    have hO4 := s4 _ _ hO3
    have hR4 := s4 _ _ hR3
    generalize upd H3 p (.tup [V.int m, V.ref R, V.ref d, V.ref O]) = H4 at s4 s14 hd4 hO4 hR4 ⊢
    refine ⟨_, rfl, R, rfl, ⟨_, SqL.mk hR4⟩, fun R1 hR1n => ?_⟩
    have e0 : ((1 : Int) % (m : Int)) = SM.rem m 0 := by
      unfold SM.rem
      push_cast
      rfl
    refine lc_tdY (K := K) (walk_list (xs := rowV m fun _ => 1)) (fun _ => .int (SM.rem m 0)) hR1n (by rw [rowV_len]; omega) (fun H' s => SqL.mk (s _ _ hR4)) ?_ ?_
    · rintro i x H5 H6 k2 hi s5 ⟨xs, hxs⟩ ⟨rfl, hx⟩ kk
      obtain ⟨_, rfl⟩ := rowV_at hx
      refine ⟨rfl, _, rfl, _, rfl, _, _, rfl, rfl, (by show (0 : Int) < (m : Int); omega), kk _ _ (fun _ _ e => e) ?_⟩
      rw [← e0]
      exact .int _
    intro ys H5 s5 hy t
    rw [rowV_len] at t
    rw [ints_of t] at hy
    have s15 := s14.trans s5
    have hd5 := s5 _ _ hd4
    have hO5 := s5 _ _ hO4
    have hR1O : R1 ≠ O := fun z => by rw [z, hO4] at hR1n; cases hR1n
    obtain ⟨S, hS⟩ : ∃ S, S = (SM.rnd m).1 + (SM.rnd m).2 := ⟨_, rfl⟩
    refine ⟨fun μ σ H' => ∃ (i : Nat) (R' : Addr) (v5 : Option V), i ≤ S ∧ μ = S - i ∧ σ = [some (.ref a), some (.int m), some (.ref R'), some (.ref d), some (.ref O), v5, none, none, none, none, none] ∧ Same H H' ∧ H' d = some (.dT (kt m i)) ∧ H' O = some (.lst (rowV i (SM.rem m))) ∧ H' R' = some (.lst (rowV m fun _ => SM.rem m i)) ∧ R' ≠ O,
      ⟨_, 0, R1, _, Nat.zero_le _, rfl, rfl, s15, hd5, hO5, hy, hR1O⟩, ?_⟩
    rintro μ σ H6 ⟨i, R', v5, hi, rfl, rfl, s6, f1, f2, f3, hRO⟩
    refine ⟨_, rfl, R', _, rfl, .inl ⟨SqL.mk f3, fun p1 hp1 => ?_⟩⟩
    have s7 : Same H6 (upd H6 p1 (.tup (rowV m fun _ => SM.rem m i))) := Ser.Same.new hp1
    have t7 : (upd H6 p1 (.tup (rowV m fun _ => SM.rem m i))) p1 = some (.tup ((kk1 m (SM.rem m i)).map kV)) := by rw [upd_same, kk1_row]
    generalize upd H6 p1 (.tup (rowV m fun _ => SM.rem m i)) = H7 at s7 t7 ⊢
    have g1 := s7 _ _ f1
    have g2 := s7 _ _ f2
    have g3 := s7 _ _ f3
    refine ⟨_, rfl, d, _, rfl, DGet.t (k := kk1 m (SM.rem m i)) g1 t7, _, rfl, ?_⟩
    rw [kt_get (by omega)]
    by_cases q : i < S
    · rw [new i (by omega)]
      refine iteB rfl ⟨fun σ' H'' => ∃ m', m' < S - i ∧ ∃ (i : Nat) (R' : Addr) (v5 : Option V), i ≤ S ∧ m' = S - i ∧ σ' = [some (.ref a), some (.int m), some (.ref R'), some (.ref d), some (.ref O), v5, none, none, none, none, none] ∧ Same H H'' ∧ H'' d = some (.dT (kt m i)) ∧ H'' O = some (.lst (rowV i (SM.rem m))) ∧ H'' R' = some (.lst (rowV m fun _ => SM.rem m i)) ∧ R' ≠ O, fun _ _ h => h, ?_⟩
      refine ⟨_, rfl, O, _, rfl, .inl (SqL.mk g2), _, rfl, _, rfl, R', _, rfl, .inl ⟨SqL.mk g3, fun p2 hp2 => ?_⟩⟩
      have s8 : Same H7 (upd H7 p2 (.tup (rowV m fun _ => SM.rem m i))) := Ser.Same.new hp2
      have t8 : (upd H7 p2 (.tup (rowV m fun _ => SM.rem m i))) p2 = some (.tup ((kk1 m (SM.rem m i)).map kV)) := by rw [upd_same, kk1_row]
      generalize upd H7 p2 (.tup (rowV m fun _ => SM.rem m i)) = H8 at s8 t8 ⊢
      have i1 := s8 _ _ g1
      have i2 := s8 _ _ g2
      have i3 := s8 _ _ g3
      refine ⟨d, _, rfl, DPut.t (k := kk1 m (SM.rem m i)) i1 t8 (by rw [kt_len]; omega), ?_⟩
      have hnew : valV (kt m i) (kk1 m (SM.rem m i)) = none := by rw [kt_get (by omega)]; exact new i (by omega)
      rw [putK_new _ hnew, rowV_len, ← kt_succ]
      have s68 := (s6.trans s7).trans s8
      have j1 : (upd H8 d (.dT (kt m (i + 1)))) d = some (.dT (kt m (i + 1))) := upd_same
      have j2 : (upd H8 d (.dT (kt m (i + 1)))) O = some (.lst (rowV i (SM.rem m))) := by rw [upd_ne hdO.symm]; exact i2
      have hRd : R' ≠ d := fun z => by rw [z, f1] at f3; cases f3
      have j3 : (upd H8 d (.dT (kt m (i + 1)))) R' = some (.lst (rowV m fun _ => SM.rem m i)) := by rw [upd_ne hRd]; exact i3
      have s9 : Same H (upd H8 d (.dT (kt m (i + 1)))) := Ser.Same.put s68 hdn
      generalize upd H8 d (.dT (kt m (i + 1))) = H9 at j1 j2 j3 s9 ⊢
      refine ⟨_, rfl, .inl ⟨rfl, _, SqL.mk j2⟩, _, rfl, R', List.replicate m (SM.rem m i), rfl, SqL.mk (by rw [← row_rep]; exact j3), _, rfl, _, _, rfl, rfl, ⟨by omega, by omega⟩, O, _, _, rfl, rfl, j2, by rw [rowV_len]; omega, ?_⟩
      have ediv : (List.replicate m (SM.rem m i)).sum / (m : Int) = SM.rem m i := by rw [sum_rep]; exact Int.mul_ediv_cancel_left _ (by omega)
      have eO : rowV i (SM.rem m) ++ [(fun i j => V.int (i / j)) (List.replicate m (SM.rem m i)).sum (m : Int)] = rowV (i + 1) (SM.rem m) := by
        show rowV i (SM.rem m) ++ [V.int ((List.replicate m (SM.rem m i)).sum / (m : Int))] = _
        rw [ediv]
        unfold rowV
        rw [List.range_succ, List.map_append]; rfl
      rw [eO]
      have k1 : (upd H9 O (.lst (rowV (i + 1) (SM.rem m)))) d = some (.dT (kt m (i + 1))) := by rw [upd_ne hdO]; exact j1
      have k2' : (upd H9 O (.lst (rowV (i + 1) (SM.rem m)))) O = some (.lst (rowV (i + 1) (SM.rem m))) := upd_same
      have k3 : (upd H9 O (.lst (rowV (i + 1) (SM.rem m)))) R' = some (.lst (rowV m fun _ => SM.rem m i)) := by rw [upd_ne hRO]; exact j3
      have s10 : Same H (upd H9 O (.lst (rowV (i + 1) (SM.rem m)))) := Ser.Same.put s9 hOn
      generalize upd H9 O (.lst (rowV (i + 1) (SM.rem m))) = H10 at k1 k2' k3 s10 ⊢
      refine ⟨_, rfl, R', rfl, ⟨_, SqL.mk k3⟩, fun R2 hR2 => ?_⟩
      refine lc_tdY (K := K) (walk_list (xs := rowV m fun _ => SM.rem m i)) (fun _ => .int (SM.rem m (i + 1))) hR2 (by rw [rowV_len]; omega) (fun H' s => SqL.mk (s _ _ k3)) ?_ ?_
      · rintro n x H11 H12 k4 hi2 s11 ⟨xs, hxs⟩ ⟨rfl, hx⟩ kk
        obtain ⟨_, rfl⟩ := rowV_at hx
        refine ⟨rfl, _, rfl, _, _, rfl, rfl, .inl ⟨by decide, by decide⟩, .inl ⟨_, rfl, _, rfl, _, _, rfl, rfl, (by show (0 : Int) < (m : Int); omega), kk _ _ (fun _ _ e => e) ?_⟩⟩
        rw [SM.rem_succ]
        exact .int _
      intro ys2 H11 s11 hy2 t2
      rw [rowV_len] at t2
      rw [ints_of t2] at hy2
      exact ⟨S - (i + 1), by omega, i + 1, R2, _, q, rfl, rfl, s10.trans s11, s11 _ _ k1, s11 _ _ k2', hy2, fun z => by rw [z, k2'] at hR2; cases hR2⟩
    · have hi' : i = S := by omega
      subst hi'
      rw [hS, back]
      refine iteBF rfl ?_
      refine ⟨_, rfl, _, rfl, R', _, rfl, .inl ⟨SqL.mk g3, fun p2 hp2 => ?_⟩⟩
      have s8 : Same H7 (upd H7 p2 (.tup (rowV m fun _ => SM.rem m i))) := Ser.Same.new hp2
      have t8 : (upd H7 p2 (.tup (rowV m fun _ => SM.rem m i))) p2 = some (.tup ((kk1 m (SM.rem m i)).map kV)) := by rw [upd_same, kk1_row]
      generalize upd H7 p2 (.tup (rowV m fun _ => SM.rem m i)) = H8 at s8 t8 ⊢
      have i1 := s8 _ _ g1
      have i2 := s8 _ _ g2
      have gd := DGet.t (k := kk1 m (SM.rem m i)) i1 t8
      rw [kt_get (by omega)] at gd
      rw [hS, back] at gd
      refine ⟨d, _, rfl, gd, ?_⟩
      generalize hf : (SM.rnd m).1 = f0 at *
      generalize hc : (SM.rnd m).2 = c0 at *
      have hmb := mbOk_of m1 m2
      rw [hf, hc] at hmb
      have s68 := (s6.trans s7).trans s8
      have eI : rowV i (SM.rem m) = rowV (f0 + c0) (SM.rem m) := by rw [hS]
      rw [eI] at i2
      refine ⟨_, rfl, _, rfl, _, rfl, O, _, rfl, SqL.mk i2, fun p3 hp3 => ?_⟩
      have c1 : cutV (rowV (f0 + c0) (SM.rem m)) none (some (f0 : Int)) = ((List.range f0).map (SM.rem m)).map V.int := by
        rw [cut_take (by rw [rowV_len]; omega), rowV_take (by omega)]
        unfold rowV
        rw [List.map_map]; rfl
      have c2 : cutV (rowV (f0 + c0) (SM.rem m)) (some (f0 : Int)) none = ((List.range c0).map fun j => SM.rem m (f0 + j)).map V.int := by
        rw [cut_from]
        unfold rowV
        rw [List.map_map]; rfl
      have s9 : Same H8 (upd H8 p3 (.lst (cutV (rowV (f0 + c0) (SM.rem m)) none (some (f0 : Int))))) := Ser.Same.new hp3
      refine ⟨p3, (List.range f0).map (SM.rem m), rfl, SqL.mk (by rw [upd_same, c1]), ?_⟩
      have i3 := s9 _ _ i2
      generalize upd H8 p3 (.lst (cutV (rowV (f0 + c0) (SM.rem m)) none (some (f0 : Int)))) = H9 at s9 i3 ⊢
      refine ⟨_, rfl, _, rfl, _, rfl, O, _, rfl, SqL.mk i3, fun p4 hp4 => ?_⟩
      have s10 : Same H9 (upd H9 p4 (.lst (cutV (rowV (f0 + c0) (SM.rem m)) (some (f0 : Int)) none))) := Ser.Same.new hp4
      refine ⟨p4, (List.range c0).map fun j => SM.rem m (f0 + j), rfl, SqL.mk (by rw [upd_same, c2]), ?_⟩
      have i4 := s10 _ _ i3
      generalize upd H9 p4 (.lst (cutV (rowV (f0 + c0) (SM.rem m)) (some (f0 : Int)) none)) = H10 at s10 i4 ⊢
      refine ⟨_, _, rfl, ?_⟩
      have ec : ((rowV (f0 + c0) (SM.rem m)).length : Int) - (f0 : Int) = ((c0 : Nat) : Int) := by rw [rowV_len]; omega
      refine ⟨_, rfl, f0, rfl, by omega, _, rfl, O, _, rfl, .inl (SqL.mk i4), _, rfl, _, _, rfl, rfl, c0, congrArg (fun z => [V.int z]) ec, by omega, _, _, rfl, rfl, _, _, rfl, ?_⟩
      have pc := SM.two_pow_gt c0
      have pf : (0 : Int) < 2 ^ f0 := Int.pow_pos (by decide)
      have bc : (2 : Int) ^ c0 ≤ 2 ^ 20 := two_le (by omega)
      have bf : (2 : Int) ^ f0 ≤ 2 ^ 20 := two_le (by omega)
      have hc0 : 0 < c0 := by have := (SM.uOk_parts m1 m2).1; omega
      have pp : (0 : Int) < 2 ^ f0 * (2 ^ c0 - 1) := Int.mul_pos pf (by omega)
      have pb : (2 : Int) ^ f0 * (2 ^ c0 - 1) ≤ 2 ^ 20 * 2 ^ 20 := Int.mul_le_mul bf (by omega) (by omega) (by decide)
      refine ⟨_, rfl, _, rfl, _, _, rfl, rfl, .inr ⟨?_, ?_⟩, _, rfl, _, _, rfl, rfl, _, rfl, _, rfl, _, _, rfl, rfl, .inl ⟨?_, ?_⟩, _, _, rfl, pp, ?_, fun v H' s t => ?_⟩
      · show -(2 ^ 64) < (2 : Int) ^ c0 - 1
        omega
      · show (2 : Int) ^ c0 - 1 < 2 ^ 64
        omega
      · omega
      · omega
      · unfold Sz
        have : (2 : Nat) ^ 41 ≤ 2 ^ 8000 := Nat.pow_le_pow_right (by decide) (by decide)
        refine Nat.lt_of_lt_of_le ?_ this
        omega
      · refine k v H' ((s68.trans s9).trans (s10.trans s)) ?_
        rw [← hmb]
        exact t
end
end Ser
end
section
set_option maxRecDepth 100000
set_option maxHeartbeats 4000000
namespace Ser
open PySem L2
section
variable {P : Program} {w : World} {K : PySem.W.Frag} {mg : Str → Option Value} {base : Heap} {aN aW : Addr}
/-! ### half -/
abbrev sLHalf : Stmt := top 53
def NLHalf : List Str := ["_law_x", "_law_y"]
theorem scLHalf : FnScope NLHalf ["_law_x", "_law_y"] (defScope sLHalf) := ⟨rfl, rfl, rfl, by decide +kernel, rfl, by decide +kernel, by decide +kernel⟩
def hlf (x y : Int × Int) : Int × Int := SM.fr (x.1 * y.2 + y.1 * x.2) (2 * x.2 * y.2)
def spLHalf (K : PySem.W.Frag) : Sp := fun vs H Q _ => ∃ (u v : V) (x y : Int × Int), vs = [u, v] ∧ TD K H u (frD x) ∧ TD K H v (frD y) ∧ 0 < x.2 ∧ 0 < y.2 ∧ Sz 2000 x.1 ∧ Sz 2000 x.2 ∧ Sz 2000 y.1 ∧ Sz 2000 y.2 ∧ ∀ v H', Same H H' → TD K H' v (frD (hlf x y)) → Q v H'
theorem ok_l_half {f f1 : Addr} {fd fd1 : FuncData} (F : FnP K "_law_half" sLHalf f fd) (T : Tx K mg aN aW) (G__law_ratio : Def P w K mg base CX0 "_law_ratio" 1 ["_law_top", "_law_bottom"] (spLRatio K) f1 fd1) : FnOk P w K mg base CX0 2 f fd ["_law_x", "_law_y"] (spLHalf K) := by
  refine F.ok scLHalf (fun vs H Q E h => ?_) (fun cdv A outer s H vs Q E hr h => ?_)
  · obtain ⟨_, _, _, _, rfl, _⟩ := h
    rfl
  · obtain ⟨u, v, x, y, rfl, tu, tv, x0, y0, z1, z2, z3, z4, k⟩ := h
    obtain ⟨a, rfl, ha⟩ := tu.fr
    obtain ⟨b, rfl, hb⟩ := tv.fr
    refine ⟨_, PSs.nox <| (pss_one (ps_ret (dcall G__law_ratio (hr.mono (by decide)) (pa_cons (pe_op op_add (pe_op op_mulW (pe_ix (ixT K) (pv 0) pe_int (fun _ _ => rfl)) (pe_ix (ixT K) (pv 1) pe_int (fun _ _ => rfl))) (pe_op op_mulW (pe_ix (ixT K) (pv 1) pe_int (fun _ _ => rfl)) (pe_ix (ixT K) (pv 0) pe_int (fun _ _ => rfl)))) (pa_cons (pe_op op_mulW (pe_op op_mulW pe_int (pe_ix (ixT K) (pv 0) pe_int (fun _ _ => rfl))) (pe_ix (ixT K) (pv 1) pe_int (fun _ _ => rfl))) pa_nil))))), ?_⟩
    have z5 : Sz 2 2 := by unfold Sz; decide
    refine ⟨_, rfl, a, _, 0, _, rfl, rfl, ha, rfl, _, rfl, b, _, 1, _, rfl, rfl, hb, rfl, _, _, rfl, rfl, wide_mul z1 z4 (by decide) (by decide) (by decide), ?_⟩
    refine ⟨_, rfl, b, _, 0, _, rfl, rfl, hb, rfl, _, rfl, a, _, 1, _, rfl, rfl, ha, rfl, _, _, rfl, rfl, wide_mul z3 z2 (by decide) (by decide) (by decide), _, _, rfl, rfl, ?_⟩
    refine ⟨_, rfl, a, _, 1, _, rfl, rfl, ha, rfl, _, _, rfl, rfl, wide_mul z5 z2 (by decide) (by decide) (by decide), _, rfl, b, _, 1, _, rfl, rfl, hb, rfl, _, _, rfl, rfl, wide_mul (z5.mul z2) z4 (by decide) (by decide) (by decide), ?_⟩
    exact ⟨_, _, rfl, Int.mul_pos (Int.mul_pos (by decide) x0) y0, ((z5.mul z2).mul z4).mono (by decide), k⟩
/-! ### row_of -/
abbrev sLRowOf : Stmt := top 55
def NLRowOf : List Str := ["_law_much", "_law_rows", "_law_it", "_law_k"]
theorem scLRowOf : FnScope NLRowOf ["_law_much", "_law_rows", "_law_it"] (defScope sLRowOf) := ⟨rfl, rfl, rfl, by decide +kernel, rfl, by decide +kernel, by decide +kernel⟩
def pthD (m : Nat) (x : Nat) : PyData := .tuple ((List.range m).map fun i => frD (SM.ind (i = x), 1))
def spLRowOf (K : PySem.W.Frag) : Sp := fun vs H Q _ => ∃ (b : Addr) (rs : List V) (m : Nat) (p : Int), vs = [.int m, .ref b, .int p] ∧ SqT K H b rs ∧ m ≤ 100 ∧ (∀ x : Nat, p = (x : Int) → ∃ v, rs[x]? = some v ∧ Q v H) ∧ ∀ x : Nat, p = -1 - (x : Int) → ∀ v H', Same H H' → TD K H' v (pthD m x) → Q v H'
theorem ok_l_row_of {f : Addr} {fd : FuncData} (F : FnP K "_law_row_of" sLRowOf f fd) (T : Tx K mg aN aW) : FnOk P w K mg base CX0 1 f fd ["_law_much", "_law_rows", "_law_it"] (spLRowOf K) := by
  refine F.ok scLRowOf (fun vs H Q E h => ?_) (fun cdv A outer s H vs Q E hr h => ?_)
  · obtain ⟨_, _, _, _, rfl, _⟩ := h
    rfl
  · obtain ⟨b, rs, m, p, rfl, hb, hm, k1, k2⟩ := h
    refine ⟨_, PSs.nox <| (pss_one (ps_ret (pe_ifExp (pt_cmp (pc_ge (pv 2) pe_int)) (pe_ix (ixT K) (pv 1) (pv 2) (fun _ _ => rfl)) (pe_callTy (cTuple K) (by rfl) T.tuple_ (by decide +kernel) (pa_cons (pe_lc (own := [("_law_k", 3)]) (g := (gName 3)) (tt := tYes) (by rfl) scLRowOf.nd (pi_range1 (by rfl) T.range_ (pa_cons (pv 0) pa_nil)) (blkOk_by (N := NLRowOf) (sc := defScope sLRowOf) (by decide +kernel)) (fun _ _ _ _ _ => (pg_name (i := 3) scLRowOf.nd rfl (lc_ rfl))) (fun _ _ _ _ _ => pts_nil) (fun _ _ _ _ _ => (pe_tup (pa_cons (pe_callTy call_int1 (by rfl) T.int_ (by decide +kernel) (pa_cons (pe_cmp (pc_eqI (pv 3) (pe_op op_sub (pe_un un_neg pe_int) (pv 2)))) pa_nil)) (pa_cons pe_int pa_nil))))) pa_nil))))), ?_⟩
    refine ⟨_, rfl, _, _, rfl, rfl, _, rfl, iteB2 (fun e => ?_) (fun e => ?_)⟩
    · have e : p ≥ 0 := of_decide_eq_true e
      obtain ⟨x, rfl⟩ : ∃ x : Nat, p = (x : Int) := ⟨p.toNat, by omega⟩
      obtain ⟨v, hv, q⟩ := k1 x rfl
      exact ⟨_, rfl, _, rfl, b, rs, x, v, rfl, rfl, hb, atI_nat hv, q⟩
    · have e : ¬ p ≥ 0 := of_decide_eq_false e
      obtain ⟨x, rfl⟩ : ∃ x : Nat, p = -1 - (x : Int) := ⟨(-1 - p).toNat, by omega⟩
      refine ⟨_, rfl, (m : Nat), rfl, by omega, by omega, fun D hD => ?_⟩
      refine lc_tdY (K := K) (walk_range (lo := 0) (n := m)) (fun i => frD (SM.ind (i = x), 1)) hD (by omega) (fun _ _ => trivial) ?_ ?_
      · rintro i y H0 H1 k3 hi s1 ⟨ys, hys⟩ ⟨rfl, rfl⟩ kk
        refine ⟨rfl, _, rfl, _, rfl, _, rfl, _, _, rfl, rfl, _, _, rfl, rfl, .inr ⟨_, rfl, (by show 2 ≤ sizeLine; decide), fun q hq => kk _ _ (Ser.Same.new hq) ?_⟩⟩
        refine TD.fr_mk (SqT.mk ?_)
        rw [upd_same]
        have e2 : (if decide ((0 : Int) + (i : Int) = -1 - (-1 - (x : Int))) = true then (1 : Int) else 0) = SM.ind (i = x) := by
          unfold SM.ind
          by_cases e3 : i = x
          · rw [if_pos e3, if_pos (decide_eq_true (by omega))]
          · rw [if_neg e3, if_neg (by rw [decide_eq_true_iff]; omega)]
        show some (HO.tup [V.int (if decide ((0 : Int) + (i : Int) = -1 - (-1 - (x : Int))) = true then (1 : Int) else 0), V.int 1]) = _
        rw [e2]
      · intro ys H1 s1 hy t
        refine ⟨D, ys, rfl, .inl ⟨SqL.mk hy, fun l hl => ?_⟩⟩
        have s2 : Same H1 (upd H1 l (.tup ys)) := Ser.Same.new hl
        exact k2 x rfl _ _ (s1.trans s2) (.tup (SqT.mk upd_same) (t.mono (TupEx.of s2)))
end
end Ser
end
section
set_option maxRecDepth 100000
set_option maxHeartbeats 4000000
namespace Ser
open PySem L2
section
variable {P : Program} {w : World} {K : PySem.W.Frag} {mg : Str → Option Value} {base : Heap} {aN aW : Addr}
theorem sqt_ty {H : Hp} {a : Addr} {xs : List V} (h : SqT K H a xs) : TyX K H (.ref a) (.type "tuple") := by
  rcases h with (h | ⟨o, h⟩) | h
  · exact .base (.tup h)
  · exact .fTuple h
  · obtain ⟨o, its, n, e, c, _⟩ := h
    exact .kTuple e c
theorem kit_tt : PySem.W.kitOne K (.type "tuple") (.type "tuple") = some true := rfl
theorem kit_ii : PySem.W.kitOne K (.type "int") (.type "int") = some true := rfl
theorem kit_ib : PySem.W.kitOne K (.type "int") (.type "bool") = some false := rfl
theorem kit_ss : PySem.W.kitOne K (.type "str") (.type "str") = some true := rfl
/-! ### is_fraction -/
abbrev sLIsFraction : Stmt := top 54
def NLIsFraction : List Str := ["_law_it", "_law_x"]
theorem scLIsFraction : FnScope NLIsFraction ["_law_it"] (defScope sLIsFraction) := ⟨rfl, rfl, rfl, by decide +kernel, rfl, by decide +kernel, by decide +kernel⟩
/-- a fraction in its least numbers -/
structure Frc (x : Int × Int) : Prop where
  pos : 0 < x.2
  red : SM.fr x.1 x.2 = x
  sz : Sz 8000 x.2
def spLIsFraction (K : PySem.W.Frag) : Sp := fun vs H Q _ => ∃ (v : V) (x : Int × Int), vs = [v] ∧ TD K H v (frD x) ∧ Frc x ∧ ∀ H', Same H H' → Q (.bl true) H'
theorem ok_l_is_fraction {f f1 : Addr} {fd fd1 : FuncData} (F : FnP K "_law_is_fraction" sLIsFraction f fd) (T : Tx K mg aN aW) (G__law_ratio : Def P w K mg base CX0 "_law_ratio" 1 ["_law_top", "_law_bottom"] (spLRatio K) f1 fd1) : FnOk P w K mg base CX0 2 f fd ["_law_it"] (spLIsFraction K) := by
  refine F.ok scLIsFraction (fun vs H Q E h => ?_) (fun cdv A outer s H vs Q E hr h => ?_)
  · obtain ⟨_, _, rfl, _⟩ := h
    rfl
  · obtain ⟨v, x, rfl, tv, fx, k⟩ := h
    obtain ⟨a, rfl, ha⟩ := tv.fr
    refine ⟨_, PSs.nox <| (pss_cons (ps_if (PW.pt (pw_or (pt_not (pt_val (pe_callB (oIsi K) (by rfl) T.isinstance_ (by decide +kernel) (pa_cons (pv 0) (pa_cons (pe_bltn (v := .ty "tuple") (u := .type "tuple") (by rfl) T.tuple_ (by decide +kernel) rfl) pa_nil))))) (pw_or1 (pt_cmp (pc_neI (pe_callB (cLen K) (by rfl) T.len_ (by decide +kernel) (pa_cons (pv 0) pa_nil)) pe_int))))) (pss_one (ps_ret pe_bl)) pss_nil)
      (pss_cons (ps_if (PW.pt (pw_or (pt_cmpR (oNeD K hr.units) (pe_lc (own := [("_law_x", 1)]) (g := (gName 1)) (by rfl) scLIsFraction.nd (piT K (pv 0)) (blkOk_by (N := NLIsFraction) (sc := defScope sLIsFraction) (by decide +kernel)) (fun _ _ _ _ _ => (pg_name (i := 1) scLIsFraction.nd rfl (lc_ rfl))) (fun _ _ _ _ _ => (pts_one (PW.pt (pw_or (pt_not (pt_val (pe_callB (oIsi K) (by rfl) T.isinstance_ (by decide +kernel) (pa_cons (pv 1) (pa_cons (pe_bltn (v := .ty "int") (u := .type "int") (by rfl) T.int_ (by decide +kernel) rfl) pa_nil))))) (pw_or1 (pt_val (pe_callB (oIsi K) (by rfl) T.isinstance_ (by decide +kernel) (pa_cons (pv 1) (pa_cons (pe_bltn (v := .ty "bool") (u := .type "bool") (by rfl) T.bool_ (by decide +kernel) rfl) pa_nil))))))))) (fun _ _ _ _ _ => (pv 1))) (pe_lst pa_nil) (nomark _)) (pw_or1 (pt_cmp (pc_lt (pe_ix (ixT K) (pv 0) pe_int (fun _ _ => rfl)) pe_int))))) (pss_one (ps_ret pe_bl)) pss_nil)
      (pss_one (ps_ret (pe_cmpR (oEqD K hr.units) (dcall G__law_ratio (hr.mono (by decide)) (pa_cons (pe_ix (ixT K) (pv 0) pe_int (fun _ _ => rfl)) (pa_cons (pe_ix (ixT K) (pv 0) pe_int (fun _ _ => rfl)) pa_nil))) (pv 0) (nomark _)))))), ?_⟩
    have q0 : (100000 : Nat) ≤ sizeLine := by decide
    refine ⟨_, rfl, _, _, _, _, true, rfl, .ty _, sqt_ty ha, kit_tt, _, rfl, ?_⟩
    refine iteBF rfl ⟨_, rfl, a, _, rfl, .inr ha, _, _, rfl, rfl, _, rfl, iteBF rfl ?_⟩
    refine ⟨_, rfl, a, rfl, ⟨_, ha⟩, fun D hD => ?_⟩
    refine lc_gen (walk_tup (xs := [V.int x.1, V.int x.2])) (fun _ => false) (fun _ _ _ => True) hD (by show 2 < 100000; decide) (fun H' s => Ser.Same.sqT s ha) (fun _ _ _ _ _ _ _ _ _ _ => trivial) ?_ ?_
    · rintro i y H0 H1 k2 els hi s1 ⟨zs, hzs⟩ ⟨rfl, hy⟩ ky kn
      obtain ⟨z, rfl⟩ : ∃ z, y = V.int z := by
        match i, hi, hy with
        | 0, _, hy => exact ⟨_, (Option.some.inj hy).symm⟩
        | 1, _, hy => exact ⟨_, (Option.some.inj hy).symm⟩
      refine ⟨rfl, _, rfl, _, _, _, _, true, rfl, .ty _, .base (.int _), kit_ii, _, rfl, iteBF rfl ⟨_, rfl, _, _, _, _, false, rfl, .ty _, .base (.int _), kit_ib, _, rfl, iteBF rfl (kn rfl _ fun _ _ e => e)⟩⟩
    · intro ys H1 s1 hy al
      have hys : ys = [] := by
        have := al.len
        rw [List.filter_eq_nil_iff.mpr (fun _ _ => by decide)] at this
        exact List.length_eq_zero_iff.mp this.symm
      subst hys
      refine ⟨(by show 0 ≤ sizeLine; omega), fun q hq => ?_⟩
      have s2 : Same H1 (upd H1 q (.lst [])) := Ser.Same.new hq
      refine ⟨.list [], .list [], .lst (SqL.mk (s2 _ _ hy)) .nil, .lst (SqL.mk upd_same) .nil, rfl, rfl, _, rfl, iteBF rfl ?_⟩
      have s12 := s1.trans s2
      generalize upd H1 q (.lst []) = H2 at s2 s12 ⊢
      refine ⟨_, rfl, a, _, 1, _, rfl, rfl, Ser.Same.sqT s12 ha, rfl, _, _, rfl, rfl, _, rfl, iteBF (decide_eq_false (by have := fx.pos; omega)) ?_⟩
      refine ⟨_, rfl, a, _, 0, _, rfl, rfl, Ser.Same.sqT s12 ha, rfl, _, rfl, a, _, 1, _, rfl, rfl, Ser.Same.sqT s12 ha, rfl, x.1, x.2, rfl, fx.pos, fx.sz, fun v H3 s3 t3 => ?_⟩
      rw [fx.red] at t3
      refine ⟨_, rfl, _, _, t3.dp, (tv.mono (TupEx.of (s12.trans s3))).dp, shaped_fr, shaped_fr, ?_⟩
      rw [eqv_fr, decide_eq_true rfl]
      exact k H3 (s12.trans s3)
end
end Ser
end
section
set_option maxRecDepth 100000
set_option maxHeartbeats 4000000
namespace Ser
open PySem L2
section
variable {P : Program} {w : World} {K : PySem.W.Frag} {mg : Str → Option Value} {base : Heap} {aN aW : Addr}
/-! ### walked -/
theorem cps_app (x : Str) (c : Nat) : (x ++ (⟨#[c]⟩ : Str)).cps = x.cps.push c := by
  show x.cps ++ #[c] = _
  simp
/-- the nodes on the way -/
theorem Wk.way {T : SM.Tree} {b : Nat} {u : Str} {j : Nat} (h : Wk T b u j) : ∃ g : Nat → Nat, g 0 = b ∧ g u.cps.size = j ∧ ∀ i, i < u.cps.size → (u.cps[i]? = some 48 ∧ SM.tl T (g i) = (g (i + 1) : Int)) ∨ (u.cps[i]? = some 49 ∧ SM.tr T (g i) = (g (i + 1) : Int)) := by
  have ext : ∀ {u : Str} {k j c : Nat} (g : Nat → Nat), g 0 = b → g u.cps.size = k → (∀ i, i < u.cps.size → (u.cps[i]? = some 48 ∧ SM.tl T (g i) = (g (i + 1) : Int)) ∨ (u.cps[i]? = some 49 ∧ SM.tr T (g i) = (g (i + 1) : Int))) →
      ((c = 48 ∧ SM.tl T k = (j : Int)) ∨ (c = 49 ∧ SM.tr T k = (j : Int))) → ∃ g : Nat → Nat, g 0 = b ∧ g (u ++ (⟨#[c]⟩ : Str)).cps.size = j ∧ ∀ i, i < (u ++ (⟨#[c]⟩ : Str)).cps.size → ((u ++ (⟨#[c]⟩ : Str)).cps[i]? = some 48 ∧ SM.tl T (g i) = (g (i + 1) : Int)) ∨ ((u ++ (⟨#[c]⟩ : Str)).cps[i]? = some 49 ∧ SM.tr T (g i) = (g (i + 1) : Int)) := by
    intro u k j c g g0 gk gs hc
    rw [cps_app, Array.size_push]
    obtain ⟨g', p1, p2⟩ : ∃ g' : Nat → Nat, (∀ i, i ≤ u.cps.size → g' i = g i) ∧ g' (u.cps.size + 1) = j := ⟨fun i => if i ≤ u.cps.size then g i else j, fun i h => if_pos h, if_neg (by omega)⟩
    refine ⟨g', (p1 0 (Nat.zero_le _)).trans g0, p2, fun i hi => ?_⟩
    by_cases e : i < u.cps.size
    · rw [p1 i (by omega), p1 (i + 1) e, Array.getElem?_push_lt e]
      have := gs i e
      rw [Array.getElem?_eq_getElem e] at this
      exact this
    · have e2 : i = u.cps.size := by omega
      subst e2
      rw [p1 _ (Nat.le_refl _), p2, Array.getElem?_push_size, gk]
      rcases hc with ⟨rfl, h⟩ | ⟨rfl, h⟩
      · exact .inl ⟨rfl, h⟩
      · exact .inr ⟨rfl, h⟩
  induction h with
  | nil => exact ⟨fun _ => b, rfl, rfl, fun i hi => absurd hi (Nat.not_lt_zero _)⟩
  | left _ e ih => obtain ⟨g, h1, h2, h3⟩ := ih; exact ext g h1 h2 h3 (.inl ⟨rfl, e⟩)
  | right _ e ih => obtain ⟨g, h1, h2, h3⟩ := ih; exact ext g h1 h2 h3 (.inr ⟨rfl, e⟩)
abbrev sLWalked : Stmt := top 57
def NLWalked : List Str := ["_law_nodes", "_law_flips", "_law_at", "_law_used", "_law_toss"]
theorem scLWalked : FnScope NLWalked ["_law_nodes", "_law_flips"] (defScope sLWalked) := ⟨rfl, rfl, rfl, by decide +kernel, rfl, by decide +kernel, by decide +kernel⟩
def spLWalked (K : PySem.W.Frag) : Sp := fun vs H Q _ => ∃ (v : V) (T : SM.Tree) (m t : Nat) (u : Str), vs = [v, .str u] ∧ TD K H v (trD T) ∧ SM.Ok m T ∧ Wk T 0 u t ∧ u.length ≤ 60 ∧ ∀ v H', Same H H' → TD K H' v (.tuple [.str "at", .int (t : Nat)]) → Q v H'
theorem ok_l_walked {f : Addr} {fd : FuncData} (F : FnP K "_law_walked" sLWalked f fd) (T : Tx K mg aN aW) : FnOk P w K mg base CX0 1 f fd ["_law_nodes", "_law_flips"] (spLWalked K) := by
  refine F.ok scLWalked (fun vs H Q E h => ?_) (fun cdv A outer s H vs Q E hr h => ?_)
  · obtain ⟨_, _, _, _, _, rfl, _⟩ := h
    rfl
  · obtain ⟨v, Tr, m, t, u, rfl, tv, O, wk, h60, k⟩ := h
    obtain ⟨a, xs, rfl, ha, hl, hxs⟩ := tree_td tv
    obtain ⟨g, g0, gt, gs⟩ := wk.way
    refine ⟨_, PSs.nox <| (pss_cons (ps_set (i := 2) scLWalked.nd rfl (lc_ rfl) pe_int)
      (pss_cons (ps_for PassesOwn.never rfl (piEnumS (by rfl) T.enumerate_ (pa_cons (pv 1) pa_nil)) (gTup' K (pgs_cons (pg_name (i := 3) scLWalked.nd rfl (lc_ rfl)) (pgs_cons (pg_name (i := 4) scLWalked.nd rfl (lc_ rfl)) pgs_nil))) (pss_cons (ps_set (i := 2) scLWalked.nd rfl (lc_ rfl) (pe_ix (ixT K) (pe_ix (ixT K) (pv 0) (pv 2) (fun _ _ => rfl)) (pe_callTy call_int_str (by rfl) T.int_ (by decide +kernel) (pa_cons (pv 4) pa_nil)) (fun _ _ => rfl)))
      (pss_one (ps_if (pt_cmp (pc_lt (pv 2) pe_int)) (pss_one (ps_ret (pe_tup (pa_cons pe_str (pa_cons (pe_op op_sub (pe_un un_neg pe_int) (pv 2)) (pa_cons (pe_op op_add (pv 3) pe_int) pa_nil)))))) pss_nil))))
      (pss_one (ps_ret (pe_tup (pa_cons pe_str (pa_cons (pv 2) pa_nil))))))), ?_⟩
    have q0 : (100000 : Nat) ≤ sizeLine := by decide
    refine ⟨_, rfl, u, rfl, ?_⟩
    refine for_it (walk_pr (n := u.cps.size)) (fun i σ H' => ∃ v3 v4 : Option V, σ = [some (.ref a), some (.str u), some (.int (g i : Nat)), v3, v4] ∧ Same H H' ∧ g i < Tr.length) ⟨none, none, by rw [g0]; rfl, fun _ _ e => e, by rw [g0]; exact O.pos⟩ (fun _ _ _ _ _ => trivial) ?_ ?_
    · rintro i x σ H1 H2 hi ⟨v3, v4, rfl, s1, gl⟩ ⟨z, x1, x2, rfl, hz, rfl, hx1, hx2⟩
      cases hx1
      obtain ⟨q, hq, hqs⟩ := hxs (g i) gl
      have s2 : Same H1 (upd H1 z (.tup [.int (i : Nat), x2])) := Ser.Same.new hz
      refine ⟨z, _, rfl, SqT.mk upd_same, rfl, _, _, rfl, _, _, rfl, rfl, ?_⟩
      have s12 := s1.trans s2
      generalize upd H1 z (.tup [V.int (i : Nat), x2]) = H2 at s2 s12 ⊢
      have key : ∃ ch d : Nat, x2 = .str ⟨#[ch]⟩ ∧ PySem.intText? (⟨#[ch]⟩ : Str) = some ((d : Nat) : Int) ∧ ([V.int (SM.tl Tr (g i)), V.int (SM.tr Tr (g i))] : List V)[d]? = some (.int (g (i + 1) : Nat)) ∧ g (i + 1) < Tr.length := by
        have hx2' : (u.cps[i]?).map (fun c => V.str ⟨#[c]⟩) = some x2 := hx2
        rcases gs i hi with ⟨e1, e2⟩ | ⟨e1, e2⟩
        · rw [e1] at hx2'
          exact ⟨48, 0, (Option.some.inj hx2').symm, by decide +kernel, by show some (V.int (SM.tl Tr (g i))) = _; rw [e2], by have := (O.rl (g i) gl).2; omega⟩
        · rw [e1] at hx2'
          exact ⟨49, 1, (Option.some.inj hx2').symm, by decide +kernel, by show some (V.int (SM.tr Tr (g i))) = _; rw [e2], by have := (O.rr (g i) gl).2; omega⟩
      obtain ⟨ch, d, rfl, ht, hd, gl2⟩ := key
      refine ⟨_, rfl, _, rfl, a, xs, g i, _, rfl, rfl, Ser.Same.sqT s12 ha, atI_nat hq, _, rfl, _, d, rfl, ht, (by show 1 ≤ 640; decide), q, _, d, _, rfl, rfl, Ser.Same.sqT s12 hqs, atI_nat hd, ?_⟩
      refine ⟨_, rfl, _, _, rfl, rfl, _, rfl, iteBF (decide_eq_false (by omega)) ?_⟩
      exact ⟨_, _, rfl, s12, gl2⟩
    · rintro σ H1 ⟨v3, v4, rfl, s1, gl⟩
      refine ⟨_, rfl, (by show 2 ≤ sizeLine; omega), fun p hp => ?_⟩
      rw [gt]
      exact k _ _ (s1.trans (Ser.Same.new hp)) (.tup (SqT.mk upd_same) (.cons (.str _) (.cons (.int _) .nil)))
end
end Ser
end
section
namespace SM
/-- a node that a row of tosses draws from at once, or by a node of f -/
def hit (T : Tree) (f : Nat → Bool) (p : Int) : Bool := decide (p < 0) || f p.toNat
def hitN (T : Tree) (f : Nat → Bool) (k : Nat) : Bool := hit T f (tl T k) || hit T f (tr T k)
theorem live_closed {m : Nat} {T : Tree} (O : Ok m T) {f : Nat → Bool} (h : ∀ k, k < T.length → f k = false → hitN T f k = false) {k : Nat} (hk : k < T.length) (hl : Live T k) : f k = true := by
  cases e : f k with
  | true => rfl
  | false =>
    obtain ⟨j, r, lf⟩ := hl
    have st : ∀ {j}, Reach T k j → j < T.length ∧ f j = false := by
      intro j r
      induction r with
      | refl => exact ⟨hk, e⟩
      | @left i j r' q ih =>
        have := h i ih.1 ih.2
        unfold hitN hit at this
        rw [q] at this
        simp only [Bool.or_eq_false_iff] at this
        have l := (O.rl i ih.1).2
        refine ⟨by omega, ?_⟩
        have z := this.1.2
        rw [Int.toNat_natCast] at z
        exact z
      | @right i j r' q ih =>
        have := h i ih.1 ih.2
        unfold hitN hit at this
        rw [q] at this
        simp only [Bool.or_eq_false_iff] at this
        have l := (O.rr i ih.1).2
        refine ⟨by omega, ?_⟩
        have z := this.2.2
        rw [Int.toNat_natCast] at z
        exact z
    have := st r
    have q := h j this.1 this.2
    unfold hitN hit at q
    simp only [Bool.or_eq_false_iff, decide_eq_false_iff_not] at q
    omega
theorem live_hit {m : Nat} {T : Tree} (O : Ok m T) {f : Nat → Bool} (hs : ∀ k, k < T.length → f k = true → Live T k) {k : Nat} (hk : k < T.length) (h : hitN T f k = true) : Live T k := by
  unfold hitN hit at h
  simp only [Bool.or_eq_true, decide_eq_true_eq] at h
  rcases h with (h | h) | (h | h)
  · exact ⟨k, .refl, .inl h⟩
  · by_cases q : tl T k < 0
    · exact ⟨k, .refl, .inl q⟩
    · have l := (O.rl k hk).2
      exact Live.of (.left .refl (by omega)) (hs _ (by omega) h)
  · exact ⟨k, .refl, .inr h⟩
  · by_cases q : tr T k < 0
    · exact ⟨k, .refl, .inr q⟩
    · have l := (O.rr k hk).2
      exact Live.of (.right .refl (by omega)) (hs _ (by omega) h)
/-- how many of f there are -/
def cnt (n : Nat) (f : Nat → Bool) : Nat := ((List.range n).filter f).length
theorem cnt_le (n : Nat) (f : Nat → Bool) : cnt n f ≤ n := by
  unfold cnt
  have := List.length_filter_le f (List.range n)
  rw [List.length_range] at this
  exact this
theorem cnt_more : ∀ {n : Nat} {f g : Nat → Bool}, (∀ k, k < n → f k = true → g k = true) → (∀ k, k < n → f k = false → g k = true → cnt n f < cnt n g) ∧ cnt n f ≤ cnt n g
  | 0, f, g, _ => ⟨fun k h => absurd h (Nat.not_lt_zero _), Nat.le_refl _⟩
  | n + 1, f, g, h => by
    obtain ⟨a, b⟩ := cnt_more (n := n) (f := f) (g := g) fun k hk => h k (by omega)
    have e : ∀ f : Nat → Bool, cnt (n + 1) f = cnt n f + if f n = true then 1 else 0 := fun f => by
      unfold cnt
      rw [List.range_succ, List.filter_append, List.length_append]
      congr 1
      by_cases q : f n = true
      · rw [if_pos q, List.filter_cons_of_pos q]; rfl
      · rw [if_neg q, List.filter_cons_of_neg q]; rfl
    have hn := h n (by omega)
    refine ⟨fun k hk h1 h2 => ?_, ?_⟩
    · rw [e f, e g]
      by_cases q : k = n
      · subst q
        rw [h1, h2]; simp; omega
      · have := a k (by omega) h1 h2
        by_cases z : f n = true
        · rw [if_pos z, if_pos (hn z)]; omega
        · rw [if_neg z]; omega
    · rw [e f, e g]
      by_cases z : f n = true
      · rw [if_pos z, if_pos (hn z)]; omega
      · rw [if_neg z]; omega
end SM
end
section
set_option maxRecDepth 100000
set_option maxHeartbeats 4000000
namespace Ser
open PySem L2
section
variable {P : Program} {w : World} {K : PySem.W.Frag} {mg : Str → Option Value} {base : Heap} {aN aW : Addr}
/-! ### can_draw -/
abbrev sLCanDraw : Stmt := top 52
def NLCanDraw : List Str := ["_law_nodes", "_law_found", "_law_grows", "_law_k", "_law_node", "_law_it"]
theorem scLCanDraw : FnScope NLCanDraw ["_law_nodes"] (defScope sLCanDraw) := ⟨rfl, rfl, rfl, by decide +kernel, rfl, by decide +kernel, by decide +kernel⟩
def rowB (n : Nat) (f : Nat → Bool) : List V := (List.range n).map fun j => V.bl (f j)
theorem rep_rowB (n : Nat) (c : Bool) : (List.replicate ((n : Nat) : Int).toNat [V.bl c]).flatten = rowB n fun _ => c := by
  rw [Int.toNat_natCast]
  unfold rowB
  rw [List.flatten_replicate_singleton]
  exact ((List.map_const' ..).trans (by rw [List.length_range])).symm
theorem rowB_get {n i : Nat} {f : Nat → Bool} (h : i < n) : (rowB n f)[i]? = some (.bl (f i)) := by
  unfold rowB
  rw [List.getElem?_map, List.getElem?_range h]; rfl
theorem all2_ints {p : Nat → Int} {H : Hp} : ∀ {is : List Nat} {ys : List V}, All2 (fun j y _ => y = V.int (p j)) H is ys → ys = (is.map p).map V.int
  | _, _, .nil => rfl
  | _, _, .cons h t => by rw [h, all2_ints t]; rfl
theorem rowB_len (n : Nat) (f : Nat → Bool) : (rowB n f).length = n := by unfold rowB; rw [List.length_map, List.length_range]
theorem rowB_set {n i : Nat} {f : Nat → Bool} {b : Bool} : (rowB n f).set i (.bl b) = rowB n fun k => if k = i then b else f k := by
  refine List.ext_getElem? fun k => ?_
  by_cases hk : k < n
  · by_cases e : k = i
    · subst e
      rw [List.getElem?_set_self (by rw [rowB_len]; exact hk), rowB_get hk, if_pos rfl]
    · rw [List.getElem?_set_ne (Ne.symm e), rowB_get hk, rowB_get hk, if_neg e]
  · rw [List.getElem?_eq_none (by rw [List.length_set, rowB_len]; omega), List.getElem?_eq_none (by rw [rowB_len]; omega)]
def spLCan (K : PySem.W.Frag) : Sp := fun vs H Q _ => ∃ (v : V) (T : SM.Tree) (m : Nat), vs = [v] ∧ TD K H v (trD T) ∧ SM.Ok m T ∧ T.length ≤ 60 ∧ ∀ D H' (f : Nat → Bool), H D = none → Same H H' → H' D = some (.lst (rowB T.length f)) → (∀ k, k < T.length → (f k = true ↔ SM.Live T k)) → Q (.ref D) H'
theorem ok_l_can {f : Addr} {fd : FuncData} (F : FnP K "_law_can_draw" sLCanDraw f fd) (T : Tx K mg aN aW) : FnOk P w K mg base CX0 1 f fd ["_law_nodes"] (spLCan K) := by
  refine F.ok scLCanDraw (fun vs H Q E h => ?_) (fun cdv A outer s H vs Q E hr h => ?_)
  · obtain ⟨_, _, _, rfl, _⟩ := h
    rfl
  · obtain ⟨v, Tr, m, rfl, tv, O, h60, k⟩ := h
    obtain ⟨a, xs, rfl, ha, hl, hxs⟩ := tree_td tv
    refine ⟨_, PSs.nox <| (pss_cons (ps_asg (pe_tup (pa_cons (pe_op op_rep (pe_lst (pa_cons pe_bl pa_nil)) (pe_callB (cLen K) (by rfl) T.len_ (by decide +kernel) (pa_cons (pv 0) pa_nil))) (pa_cons pe_bl pa_nil))) (gTup' K (pgs_cons (pg_name (i := 1) scLCanDraw.nd rfl (lc_ rfl)) (pgs_cons (pg_name (i := 2) scLCanDraw.nd rfl (lc_ rfl)) pgs_nil))))
      (pss_cons (ps_while PassesOwn.never (pt_val (pv 2)) (pss_cons (ps_set (i := 2) scLCanDraw.nd rfl (lc_ rfl) pe_bl)
      (pss_one (ps_for PassesOwn.never rfl (piEnumT K (by rfl) T.enumerate_ (pa_cons (pv 0) pa_nil)) (gTup' K (pgs_cons (pg_name (i := 3) scLCanDraw.nd rfl (lc_ rfl)) (pgs_cons (pg_name (i := 4) scLCanDraw.nd rfl (lc_ rfl)) pgs_nil))) (pss_one (ps_if (PW.pt (pw_and (pt_not (pt_val (pe_ix (ixL K) (pv 1) (pv 3) (fun _ _ => rfl)))) (pw_and1 (pt_cmpR (oNeD K hr.units) (pe_lc (own := [("_law_it", 5)]) (g := (gName 5)) (by rfl) scLCanDraw.nd (piT K (pv 4)) (blkOk_by (N := NLCanDraw) (sc := defScope sLCanDraw) (by decide +kernel)) (fun _ _ _ _ _ => (pg_name (i := 5) scLCanDraw.nd rfl (lc_ rfl))) (fun _ _ _ _ _ => (pts_one (PW.pt (pw_or (pt_cmp (pc_lt (pv 5) pe_int)) (pw_or1 (pt_val (pe_ix (ixL K) (pv 1) (pv 5) (fun _ _ => rfl)))))))) (fun _ _ _ _ _ => (pv 5))) (pe_lst pa_nil) (nomark _))))) (pss_one (ps_asg (pe_tup (pa_cons pe_bl (pa_cons pe_bl pa_nil))) (gTup' K (pgs_cons (pg_sub (pv 1) (pv 3) set_list) (pgs_cons (pg_name (i := 2) scLCanDraw.nd rfl (lc_ rfl)) pgs_nil))))) pss_nil))))))
      (pss_one (ps_ret (pv 1))))), ?_⟩
    have q0 : (100000 : Nat) ≤ sizeLine := by decide
    refine ⟨(by show 1 ≤ sizeLine; omega), fun p1 hp1 => ⟨_, rfl, a, xs, rfl, .inr (Ser.Same.sqT (Ser.Same.new hp1) ha), p1, _, _, rfl, rfl, upd_same, by omega, by omega, by rw [Int.toNat_natCast]; show 1 * xs.length ≤ sizeLine; omega, fun D hD => ⟨(by show 2 ≤ sizeLine; omega), fun p2 hp2 => ⟨p2, _, rfl, SqT.mk upd_same, rfl, _, _, rfl, _, _, rfl, rfl, ?_⟩⟩⟩⟩
    have s1 : Same H (upd H p1 (.lst [.bl false])) := Ser.Same.new hp1
    have hDn : H D = none := s1.free hD
    rw [rep_rowB, hl]
    rw [rep_rowB, hl] at hp2
    have s2 : Same (upd H p1 (.lst [.bl false])) (upd (upd H p1 (.lst [.bl false])) D (.lst (rowB Tr.length fun _ => false))) := Ser.Same.new hD
    have hD2 : (upd (upd H p1 (.lst [.bl false])) D (.lst (rowB Tr.length fun _ => false))) D = some (.lst (rowB Tr.length fun _ => false)) := upd_same
    generalize upd (upd H p1 (.lst [V.bl false])) D (.lst (rowB Tr.length fun _ => false)) = H2 at s2 hD2 hp2 ⊢
    have s3 : Same H2 (upd H2 p2 (.tup [.ref D, .bl true])) := Ser.Same.new hp2
    have hD3 := s3 _ _ hD2
    have s13 := (s1.trans s2).trans s3
    generalize upd H2 p2 (.tup [V.ref D, V.bl true]) = H3 at s3 hD3 s13 ⊢
    refine ⟨fun μ σ H' => ∃ (f : Nat → Bool) (g : Bool) (v3 v4 v5 : Option V), μ = 2 * (Tr.length - SM.cnt Tr.length f) + (if g = true then 1 else 0) ∧ σ = [some (.ref a), some (.ref D), some (.bl g), v3, v4, v5] ∧ Same H H' ∧ H' D = some (.lst (rowB Tr.length f)) ∧ (∀ k, k < Tr.length → f k = true → SM.Live Tr k) ∧ (g = false → ∀ k, k < Tr.length → f k = false → SM.hitN Tr f k = false),
      ⟨_, fun _ => false, true, none, none, none, rfl, rfl, s13, hD3, fun k hk h => (by cases h), fun h => (by cases h)⟩, ?_⟩
    rintro μ σ H4 ⟨f, g, v3, v4, v5, rfl, rfl, s4, hD4, snd, cls⟩
    refine ⟨_, rfl, _, rfl, iteB2 (fun hg => ?_) (fun hg => ?_)⟩
    · subst hg
      refine ⟨fun σ' H'' => ∃ m', m' < 2 * (Tr.length - SM.cnt Tr.length f) + 1 ∧ ∃ (f : Nat → Bool) (g : Bool) (v3 v4 v5 : Option V), m' = 2 * (Tr.length - SM.cnt Tr.length f) + (if g = true then 1 else 0) ∧ σ' = [some (.ref a), some (.ref D), some (.bl g), v3, v4, v5] ∧ Same H H'' ∧ H'' D = some (.lst (rowB Tr.length f)) ∧ (∀ k, k < Tr.length → f k = true → SM.Live Tr k) ∧ (g = false → ∀ k, k < Tr.length → f k = false → SM.hitN Tr f k = false), fun _ _ h => h, ?_⟩
      refine ⟨_, rfl, a, xs, rfl, Ser.Same.sqT s4 ha, ?_⟩
      refine for_it (walk_pr (n := xs.length)) (fun i σ H' => ∃ (f' : Nat → Bool) (g' : Bool) (v3 v4 v5 : Option V), σ = [some (.ref a), some (.ref D), some (.bl g'), v3, v4, v5] ∧ Same H H' ∧ H' D = some (.lst (rowB Tr.length f')) ∧ (∀ k, k < Tr.length → f' k = true → SM.Live Tr k) ∧ (∀ k, f k = true → f' k = true) ∧
        (g' = false → f' = f ∧ ∀ k, k < i → f k = false → SM.hitN Tr f k = false) ∧ (g' = true → SM.cnt Tr.length f < SM.cnt Tr.length f')) ⟨f, false, v3, v4, v5, rfl, s4, hD4, snd, fun _ h => h, fun _ => ⟨rfl, fun k h => absurd h (Nat.not_lt_zero _)⟩, fun h => by cases h⟩ (fun i σ H' _ ⟨_, _, _, _, _, _, s, _⟩ => Ser.Same.sqT s ha) ?_ ?_
      · rintro i x σ H5 H6 hi ⟨f', g', w3, w4, w5, rfl, s5, hD5, snd5, mono5, c5, d5⟩ ⟨z, x1, x2, rfl, hz, rfl, hx1, hx2⟩
        have hi' : i < Tr.length := by omega
        obtain ⟨q, hq, hqs⟩ := hxs i hi'
        cases hx1
        have hx2' : xs[i]? = some x2 := hx2
        rw [hq] at hx2'
        cases hx2'
        refine ⟨z, _, rfl, SqT.mk upd_same, rfl, _, _, rfl, _, _, rfl, rfl, ?_⟩
        have s6 : Same H5 (upd H5 z (.tup [.int (i : Nat), .ref q])) := Ser.Same.new hz
        have hD6 := s6 _ _ hD5
        have s56 := s5.trans s6
        generalize upd H5 z (.tup [V.int (i : Nat), V.ref q]) = H6 at s6 hD6 s56 ⊢
        refine ⟨_, rfl, _, rfl, D, _, i, _, rfl, rfl, SqL.mk hD6, atI_nat (rowB_get hi'), _, rfl, ?_⟩
        cases hfi : f' i with
        | true =>
          refine iteBF rfl (iteBF rfl ?_)
          refine ⟨f', g', _, _, _, rfl, s56, hD6, snd5, mono5, fun hg => ⟨(c5 hg).1, fun k hk hf => ?_⟩, d5⟩
          by_cases e : k = i
          · rw [e, ← (c5 hg).1, hfi] at hf; cases hf
          · exact (c5 hg).2 k (by omega) hf
        | false =>
          refine iteB rfl ?_
          refine ⟨_, rfl, q, rfl, ⟨_, Ser.Same.sqT s56 hqs⟩, fun C hC => ?_⟩
          let pl : Nat → Int := fun j => if j = 0 then SM.tl Tr i else SM.tr Tr i
          refine lc_gen (walk_tup (xs := [V.int (SM.tl Tr i), V.int (SM.tr Tr i)])) (fun j => SM.hit Tr f' (pl j)) (fun j y _ => y = .int (pl j)) hC (by show 2 < 100000; decide) (fun H' s => Ser.Same.sqT (s56.trans s) hqs) (fun _ _ _ _ _ _ e _ _ _ => e) ?_ ?_
          · rintro j y H7 H8 k2 els hj s7 ⟨zs, hzs⟩ ⟨rfl, hy⟩ ky kn
            have ey : y = V.int (pl j) ∧ pl j < Tr.length := by
              match j, hj, hy with
              | 0, _, hy => exact ⟨(Option.some.inj hy).symm, (O.rl i hi').2⟩
              | 1, _, hy => exact ⟨(Option.some.inj hy).symm, (O.rr i hi').2⟩
            obtain ⟨rfl, lt⟩ := ey
            generalize pl j = p at lt ky kn ⊢
            refine ⟨rfl, _, rfl, _, _, rfl, rfl, ?_⟩
            by_cases hp : p < 0
            · have hh : SM.hit Tr f' p = true := by unfold SM.hit; rw [decide_eq_true hp]; rfl
              exact ⟨_, rfl, iteB (decide_eq_true hp) (iteB rfl ⟨_, rfl, ky hh _ _ (fun _ _ e => e) rfl⟩)⟩
            · obtain ⟨n, rfl⟩ : ∃ n : Nat, p = (n : Int) := ⟨p.toNat, by omega⟩
              have hh : SM.hit Tr f' ((n : Nat) : Int) = f' n := by unfold SM.hit; rw [decide_eq_false hp, Int.toNat_natCast]; rfl
              refine ⟨_, rfl, iteBF (decide_eq_false hp) ⟨_, rfl, _, rfl, D, _, n, _, rfl, rfl, SqL.mk (s7 _ _ hD6), atI_nat (rowB_get (by omega)), _, rfl, ?_⟩⟩
              cases hf : f' n with
              | true => exact iteB rfl ⟨_, rfl, ky (hh.trans hf) _ _ (fun _ _ e => e) rfl⟩
              | false => exact iteBF rfl (kn (hh.trans hf) _ fun _ _ e => e)
          · intro ys H7 s7 hy al
            have ey := all2_ints al
            generalize ec : ((List.range [V.int (SM.tl Tr i), V.int (SM.tr Tr i)].length).filter fun j => SM.hit Tr f' (pl j)).map pl = cs at ey
            subst ey
            refine ⟨(by show 0 ≤ sizeLine; omega), fun q2 hq2 => ?_⟩
            have s8 : Same H7 (upd H7 q2 (.lst [])) := Ser.Same.new hq2
            refine ⟨.list (cs.map .int), .list [], .lst (SqL.mk (s8 _ _ hy)) (TDs.ints _).dp, .lst (SqL.mk upd_same) .nil, shaped_ints _, rfl, ?_⟩
            have e2 : PyData.eqv (.list (cs.map .int)) (.list []) = PyData.eqvAll (cs.map .int) (([] : List Int).map .int) := rfl
            rw [e2, eqv_ints]
            have s68 := (s56.trans s7).trans s8
            have hD8 := (s7.trans s8) _ _ hD6
            generalize upd H7 q2 (.lst []) = H8 at s8 s68 hD8 ⊢
            have hcs : decide (cs = []) = !SM.hitN Tr f' i := by
              rw [← ec]
              show decide (((List.filter (fun j => SM.hit Tr f' (pl j)) [0, 1]).map pl) = []) = _
              unfold SM.hitN
              rw [List.filter_cons, List.filter_cons, List.filter_nil]
              show decide (((if SM.hit Tr f' (SM.tl Tr i) = true then 0 :: (if SM.hit Tr f' (SM.tr Tr i) = true then [1] else []) else (if SM.hit Tr f' (SM.tr Tr i) = true then [1] else [])) : List Nat).map pl = []) = _
              cases SM.hit Tr f' (SM.tl Tr i) <;> cases SM.hit Tr f' (SM.tr Tr i) <;> rfl
            rw [hcs]
            refine ⟨_, rfl, ?_⟩
            cases hh : SM.hitN Tr f' i with
            | false =>
              refine iteBF rfl ?_
              refine ⟨f', g', _, _, _, rfl, s68, hD8, snd5, mono5, fun hg => ⟨(c5 hg).1, fun k hk hf => ?_⟩, d5⟩
              by_cases e : k = i
              · rw [e, ← (c5 hg).1]; exact hh
              · exact (c5 hg).2 k (by omega) hf
            | true =>
              refine iteB rfl ⟨(by show 2 ≤ sizeLine; omega), fun p hp => ⟨p, _, rfl, SqT.mk upd_same, rfl, _, _, rfl, ?_⟩⟩
              have s9 : Same H8 (upd H8 p (.tup [.bl true, .bl true])) := Ser.Same.new hp
              have hD9 := s9 _ _ hD8
              have s69 := s68.trans s9
              generalize upd H8 p (.tup [V.bl true, V.bl true]) = H9 at s9 hD9 s69 ⊢
              refine ⟨_, rfl, _, rfl, D, _, i, i, rfl, rfl, hD9, ixN_nat (by rw [rowB_len]; exact hi'), _, _, rfl, rfl, ?_⟩
              rw [rowB_set]
              refine ⟨fun k => if k = i then true else f' k, true, _, _, _, rfl, Ser.Same.put s69 hDn, upd_same, fun k hk hf => ?_, fun k hf => ?_, (fun h => Bool.noConfusion h), fun _ => ?_⟩
              · replace hf : (if k = i then true else f' k) = true := hf
                by_cases e : k = i
                · rw [e]; exact SM.live_hit O snd5 hi' hh
                · rw [if_neg e] at hf; exact snd5 k hk hf
              · show (if k = i then true else f' k) = true
                by_cases e : k = i
                · rw [if_pos e]
                · rw [if_neg e]; exact mono5 k hf
              · have le : SM.cnt Tr.length f ≤ SM.cnt Tr.length f' := (SM.cnt_more fun k _ h => mono5 k h).2
                refine Nat.lt_of_le_of_lt le ?_
                refine (SM.cnt_more (f := f') (g := fun k => if k = i then true else f' k) fun k _ h => ?_).1 i hi' hfi (if_pos rfl)
                show (if k = i then true else f' k) = true
                by_cases e : k = i
                · rw [if_pos e]
                · rw [if_neg e]; exact h
      · rintro σ H5 ⟨f', g', w3, w4, w5, rfl, s5, hD5, snd5, mono5, c5, d5⟩
        have cl := SM.cnt_le Tr.length f'
        have cl0 := SM.cnt_le Tr.length f
        refine ⟨_, ?_, f', g', w3, w4, w5, rfl, rfl, s5, hD5, snd5, fun hg => ?_⟩
        · cases g' with
          | true =>
            have := d5 rfl
            rw [if_pos rfl]; omega
          | false =>
            rw [(c5 rfl).1]
            simp
        · obtain ⟨e, c⟩ := c5 hg
          rw [e]
          exact fun k hk => c k (by omega)
    · subst hg
      exact ⟨_, rfl, k D H4 f hDn s4 hD4 fun k hk => ⟨snd k hk, SM.live_closed O (cls rfl) hk⟩⟩
end
end Ser
end
section
set_option maxRecDepth 100000
set_option maxHeartbeats 4000000
namespace Ser
open PySem L2
section
variable {P : Program} {w : World} {K : PySem.W.Frag} {mg : Str → Option Value} {base : Heap} {aN aW : Addr}
/-! ### met -/
abbrev sLMet : Stmt := top 48
def NLMet : List Str := ["_law_nodes", "_law_order", "_law_at", "_law_it"]
theorem scLMet : FnScope NLMet ["_law_nodes"] (defScope sLMet) := ⟨rfl, rfl, rfl, by decide +kernel, rfl, by decide +kernel, by decide +kernel⟩
def nts (os : List Nat) : List V := os.map fun k => V.int (k : Nat)
theorem nts_len (os : List Nat) : (nts os).length = os.length := by unfold nts; rw [List.length_map]
theorem nts_get {os : List Nat} {i j : Nat} (h : os[i]? = some j) : (nts os)[i]? = some (.int (j : Nat)) := by unfold nts; rw [List.getElem?_map, h]; rfl
theorem nts_flat (os : List Nat) : (nts os).all flatV = true := by
  unfold nts
  rw [List.all_map, List.all_eq_true]
  exact fun _ _ => rfl
theorem nts_in (os : List Nat) (n : Nat) : inV (.int (n : Nat)) (nts os) = decide (n ∈ os) := by
  unfold inV nts
  rw [List.any_map]
  cases h : decide (n ∈ os) with
  | true =>
    rw [List.any_eq_true]
    exact ⟨n, of_decide_eq_true h, by show ((n : Int) == (n : Int)) = true; exact beq_self_eq_true _⟩
  | false =>
    rw [List.any_eq_false]
    intro x hx
    show ¬ ((x : Int) == (n : Int)) = true
    rw [beq_iff_eq]
    exact fun e => of_decide_eq_false h (by rw [← Int.ofNat_inj.mp e]; exact hx)
/-- a tree of pairs, in a list or a tuple -/
def SqS (K : PySem.W.Frag) (H : Hp) (a : Addr) (xs : List V) : Prop := SqL K H a xs ∨ SqT K H a xs
theorem Same.sqS {H H' : Hp} {a : Addr} {xs : List V} (e : Same H H') (h : SqS K H a xs) : SqS K H' a xs := h.imp (L2.Same.seq e) (Ser.Same.sqT e)
def rIxS2 (K : PySem.W.Frag) : R2 := fun x y H Q => ∃ p xs i v, x = .ref p ∧ y = .int i ∧ SqS K H p xs ∧ atI xs i = some v ∧ Q v H
theorem ixLT {X : Cx} (K : PySem.W.Frag) (e : X.K = K := by rfl) : IxR X (rIxS2 K) := by
  subst e
  intro value slice pins s σ H x y v u Q I rx ry h hs
  obtain ⟨p, xs, i, z, h1, h2, h3, h4, h5⟩ := h
  rcases h3 with h3 | h3
  · exact ix_list value slice pins s σ H x y v u Q I rx ry ⟨p, xs, i, z, h1, h2, h3, h4, h5⟩ hs
  · exact ix_tup value slice pins s σ H x y v u Q I rx ry ⟨p, xs, i, z, h1, h2, h3, h4, h5⟩ hs
def TrS (K : PySem.W.Frag) (H : Hp) (v : V) (T : SM.Tree) : Prop := ∃ a xs, v = .ref a ∧ SqS K H a xs ∧ xs.length = T.length ∧ ∀ k, k < T.length → ∃ q, xs[k]? = some (.ref q) ∧ SqT K H q [.int (SM.tl T k), .int (SM.tr T k)]
theorem TrS.of {H : Hp} {v : V} {T : SM.Tree} (t : TD K H v (trD T)) : TrS K H v T := by
  obtain ⟨a, xs, h1, h2, h3⟩ := tree_td t
  exact ⟨a, xs, h1, .inr h2, h3⟩
theorem TrS.ofL {H : Hp} {a : Addr} {ys : List V} {T : SM.Tree} (h : SqL K H a ys) (t : TDs K H ys (T.map frD)) : TrS K H (.ref a) T := by
  refine ⟨a, ys, rfl, .inl h, by rw [t.length, List.length_map], fun k hk => ?_⟩
  obtain ⟨v, h1, h2⟩ := t.get (i := k) (d := frD (SM.tl T k, SM.tr T k)) (by rw [List.getElem?_map, SM.tree_at hk]; rfl)
  obtain ⟨q, rfl, hq⟩ := h2.fr
  exact ⟨q, h1, hq⟩
def spLMet (K : PySem.W.Frag) : Sp := fun vs H Q _ => ∃ (v : V) (T : SM.Tree) (m : Nat), vs = [v] ∧ TrS K H v T ∧ SM.Ok m T ∧ T.length ≤ 60 ∧ ∀ D H' (os : List Nat), H D = none → Same H H' → H' D = some (.lst (nts os)) → SM.Met T 0 os os.length → os[0]? = some 0 → Q (.ref D) H'
theorem ok_l_met {f : Addr} {fd : FuncData} (F : FnP K "_law_met" sLMet f fd) (T : Tx K mg aN aW) : FnOk P w K mg base CX0 1 f fd ["_law_nodes"] (spLMet K) := by
  refine F.ok scLMet (fun vs H Q E h => ?_) (fun cdv A outer s H vs Q E hr h => ?_)
  · obtain ⟨_, _, _, rfl, _⟩ := h
    rfl
  · obtain ⟨v, Tr, m, rfl, tv, O, h60, k⟩ := h
    obtain ⟨a, xs, rfl, ha, hl, hxs⟩ := tv
    refine ⟨_, PSs.nox <| (pss_cons (ps_par (i := 1) (j := 2) rfl scLMet.nd rfl rfl (by decide) rfl rfl (pa_cons (pe_lst (pa_cons pe_int pa_nil)) (pa_cons pe_int pa_nil)) (by rfl))
      (pss_cons (ps_while PassesOwn.never (pt_cmp (pc_lt (pv 2) (pe_callB (cLen K) (by rfl) T.len_ (by decide +kernel) (pa_cons (pv 1) pa_nil)))) (pss_cons (ps_for PassesOwn.never rfl (piT K (pe_ix (ixLT K) (pv 0) (pe_ix (ixL K) (pv 1) (pv 2) (fun _ _ => rfl)) (fun _ _ => rfl))) (pg_name (i := 3) scLMet.nd rfl (lc_ rfl)) (pss_one (ps_if (PW.pt (pw_and (pt_cmp (pc_ge (pv 3) pe_int)) (pw_and1 (pt_cmpR (oNotIn K) (pv 3) (pv 1) (by rfl))))) (pss_one (ps_expr (pBm K PySem.F.plainAttrs_list PySem.F.slot_list_append PySem.F.type_list_append mt_append (pv 1) (pa_cons (pv 3) pa_nil)))) pss_nil)))
      (pss_one (ps_set (i := 2) scLMet.nd rfl (lc_ rfl) (pe_op op_add (pv 2) pe_int)))))
      (pss_one (ps_ret (pv 1))))), ?_⟩
    have q0 : (100000 : Nat) ≤ sizeLine := by decide
    refine ⟨(by show 1 ≤ sizeLine; omega), fun D hD => ⟨_, _, rfl, ?_⟩⟩
    refine ⟨fun μ σ H' => ∃ (p : Nat) (os : List Nat) (v3 : Option V), μ = Tr.length - p ∧ σ = [some (.ref a), some (.ref D), some (.int p), v3] ∧ Same H H' ∧ H' D = some (.lst (nts os)) ∧ SM.Met Tr 0 os p ∧ os[0]? = some 0,
      ⟨_, 0, [0], none, rfl, rfl, Ser.Same.new hD, upd_same, SM.Met.begin Tr 0, rfl⟩, ?_⟩
    rintro μ σ H1 ⟨p, os, v3, rfl, rfl, s1, hD1, mt, z0⟩
    have hle := mt.le
    have hlen := mt.len O O.pos
    refine ⟨_, rfl, _, rfl, D, _, rfl, .inl (SqL.mk hD1), _, _, rfl, rfl, _, rfl, iteB2 (fun hc => ?_) (fun hc => ?_)⟩
    · have hc : (p : Int) < (nts os).length := of_decide_eq_true hc
      rw [nts_len] at hc
      have hp : p < os.length := by omega
      refine ⟨fun σ' H'' => ∃ m', m' < Tr.length - p ∧ ∃ (p : Nat) (os : List Nat) (v3 : Option V), m' = Tr.length - p ∧ σ' = [some (.ref a), some (.ref D), some (.int p), v3] ∧ Same H H'' ∧ H'' D = some (.lst (nts os)) ∧ SM.Met Tr 0 os p ∧ os[0]? = some 0, fun _ _ h => h, ?_⟩
      obtain ⟨j, hj⟩ : ∃ j, os[p]? = some j := ⟨os[p], by simp [hp]⟩
      have jm : j ∈ os := List.mem_of_getElem? hj
      have jlt := mt.lt O O.pos j jm
      obtain ⟨q, hq, hqs⟩ := hxs j jlt
      refine ⟨_, rfl, _, rfl, _, rfl, D, _, p, _, rfl, rfl, SqL.mk hD1, atI_nat (nts_get hj), a, xs, j, _, rfl, rfl, Ser.Same.sqS s1 ha, atI_nat hq, q, rfl, ⟨_, Ser.Same.sqT s1 hqs⟩, ?_⟩
      refine for_it (walk_tup (xs := [V.int (SM.tl Tr j), V.int (SM.tr Tr j)])) (fun i σ H' => ∃ (os : List Nat) (v3 : Option V), σ = [some (.ref a), some (.ref D), some (.int p), v3] ∧ Same H H' ∧ H' D = some (.lst (nts os)) ∧ SM.Met Tr 0 os p ∧ os[0]? = some 0 ∧ os[p]? = some j ∧ (1 ≤ i → ∀ c : Nat, SM.tl Tr j = (c : Int) → c ∈ os) ∧ (2 ≤ i → ∀ c : Nat, SM.tr Tr j = (c : Int) → c ∈ os))
        ⟨os, v3, rfl, s1, hD1, mt, z0, hj, fun h => by omega, fun h => by omega⟩ (fun i σ H' _ ⟨_, _, _, s, _⟩ => Ser.Same.sqT s hqs) ?_ ?_
      · rintro i x σ H2 H3 hi ⟨os, v3, rfl, s2, hD2, mt, z0, hj, c1, c2⟩ ⟨rfl, hx⟩
        have hlen := mt.len O O.pos
        have hp : p < os.length := (List.getElem?_eq_some_iff.mp hj).1
        have rj := mt.re j (List.mem_of_getElem? hj)
        have key : ∃ c : Int, x = .int c ∧ (∀ c' : Nat, c = (c' : Int) → SM.Reach Tr 0 c') ∧ ∀ os' : List Nat, (∀ y ∈ os, y ∈ os') → (∀ c' : Nat, c = (c' : Int) → c' ∈ os') → (1 ≤ i + 1 → ∀ c : Nat, SM.tl Tr j = (c : Int) → c ∈ os') ∧ (2 ≤ i + 1 → ∀ c : Nat, SM.tr Tr j = (c : Int) → c ∈ os') := by
          have : i = 0 ∨ i = 1 := by have : i < 2 := hi; omega
          rcases this with rfl | rfl
          · cases hx
            exact ⟨_, rfl, fun c' e => .left rj e, fun os' _ h => ⟨fun _ => h, fun h => by omega⟩⟩
          · cases hx
            exact ⟨_, rfl, fun c' e => .right rj e, fun os' h1 h => ⟨fun _ c e => h1 c (c1 (Nat.le_refl _) c e), fun _ => h⟩⟩
        obtain ⟨c, rfl, rc, kk⟩ := key
        refine ⟨_, rfl, _, _, rfl, rfl, _, rfl, ?_⟩
        by_cases hc : 0 ≤ c
        · obtain ⟨n, rfl⟩ : ∃ n : Nat, c = (n : Int) := ⟨c.toNat, by omega⟩
          refine iteB (decide_eq_true hc) ⟨_, rfl, _, rfl, D, _, rfl, .inl (SqL.mk hD2), rfl, nts_flat os, _, rfl, ?_⟩
          rw [nts_in]
          by_cases hm : n ∈ os
          · rw [decide_eq_true hm]
            obtain ⟨q1, q2⟩ := kk os (fun _ h => h) fun c' e => by rw [← Int.ofNat_inj.mp e]; exact hm
            exact iteBF rfl ⟨os, _, rfl, s2, hD2, mt, z0, hj, q1, q2⟩
          · rw [decide_eq_false hm]
            refine iteB rfl ⟨_, rfl, .inl ⟨rfl, _, SqL.mk hD2⟩, _, rfl, D, _, _, rfl, rfl, hD2, by rw [nts_len]; omega, ?_⟩
            obtain ⟨q1, q2⟩ := kk (os ++ [n]) (fun _ h => List.mem_append_left _ h) fun c' e => by rw [← Int.ofNat_inj.mp e]; simp
            refine ⟨os ++ [n], _, rfl, Ser.Same.put s2 hD, ?_, mt.more hm (rc n rfl), by rw [List.getElem?_append_left (by omega)]; exact z0, by rw [List.getElem?_append_left hp]; exact hj, q1, q2⟩
            rw [upd_same]
            unfold nts
            rw [List.map_append]; rfl
        · refine iteBF (decide_eq_false hc) (iteBF rfl ?_)
          obtain ⟨q1, q2⟩ := kk os (fun _ h => h) fun c' e => absurd e (by omega)
          exact ⟨os, _, rfl, s2, hD2, mt, z0, hj, q1, q2⟩
      · rintro σ H2 ⟨os, v3, rfl, s2, hD2, mt, z0, hj, c1, c2⟩
        have m2 := mt.next hj (c1 (by show 1 ≤ 2; decide)) (c2 (by show 2 ≤ 2; decide))
        have hlen := mt.len O O.pos
        have hp : p < os.length := (List.getElem?_eq_some_iff.mp hj).1
        exact ⟨_, rfl, _, _, rfl, rfl, Tr.length - (p + 1), by omega, p + 1, os, v3, rfl, rfl, s2, hD2, m2, z0⟩
    · have hc : ¬ (p : Int) < (nts os).length := of_decide_eq_false hc
      rw [nts_len] at hc
      have hp : p = os.length := by omega
      subst hp
      exact ⟨_, rfl, k D H1 os hD s1 hD1 mt z0⟩
end
end Ser
end
section
namespace SM
/-! ### the tree of what is met -/
def ren (os : List Nat) (p : Int) : Int := if 0 ≤ p then ((os.idxOf p.toNat : Nat) : Int) else p
def pru (T : Tree) (os : List Nat) : Tree := os.map fun k => (ren os (tl T k), ren os (tr T k))
theorem pru_tl {T : Tree} {os : List Nat} {i k : Nat} (h : os[i]? = some k) : tl (pru T os) i = ren os (tl T k) ∧ tr (pru T os) i = ren os (tr T k) := by
  have e : (pru T os)[i]? = some (ren os (tl T k), ren os (tr T k)) := by unfold pru; rw [List.getElem?_map, h]; rfl
  exact ⟨tl_at e, tr_at e⟩
theorem ren_pos {os : List Nat} {c : Nat} : ren os (c : Int) = (os.idxOf c : Int) := by
  unfold ren
  rw [if_pos (by omega), Int.toNat_natCast]
theorem pru_ok {m : Nat} {T : Tree} (O : Ok m T) {os : List Nat} (M : Met T 0 os os.length) : Ok m (pru T os) := by
  have hl : (pru T os).length = os.length := by unfold pru; rw [List.length_map]
  have h0 : 0 < os.length := List.length_pos_of_mem M.hd
  have one : ∀ k ∈ os, ∀ p : Int, -(m : Int) ≤ p → (∀ c : Nat, p = (c : Int) → c ∈ os) → -(m : Int) ≤ ren os p ∧ ren os p < os.length := fun k hk p h1 h2 => by
    by_cases hp : 0 ≤ p
    · obtain ⟨c, rfl⟩ : ∃ c : Nat, p = (c : Int) := ⟨p.toNat, by omega⟩
      rw [ren_pos]
      have := List.idxOf_lt_length_of_mem (h2 c rfl)
      omega
    · unfold ren
      rw [if_neg hp]
      omega
  have at_ : ∀ t, t < (pru T os).length → ∃ k, os[t]? = some k := fun t ht => ⟨os[t]'(by omega), List.getElem?_eq_getElem (by omega)⟩
  refine ⟨by omega, fun t ht => ?_, fun t ht => ?_⟩
  · obtain ⟨k, hk⟩ := at_ t ht
    have km := List.mem_of_getElem? hk
    have kl := M.lt O O.pos k km
    rw [(pru_tl hk).1, hl]
    exact one k km _ (O.rl k kl).1 (M.cl t (by omega) k hk).1
  · obtain ⟨k, hk⟩ := at_ t ht
    have km := List.mem_of_getElem? hk
    have kl := M.lt O O.pos k km
    rw [(pru_tl hk).2, hl]
    exact one k km _ (O.rr k kl).1 (M.cl t (by omega) k hk).2
theorem idx_at {os : List Nat} {c : Nat} (h : c ∈ os) : os[os.idxOf c]? = some c := by
  rw [List.getElem?_eq_getElem (List.idxOf_lt_length_of_mem h), List.getElem_idxOf]
theorem pru_reach {T : Tree} {os : List Nat} (M : Met T 0 os os.length) (h0 : os[0]? = some 0) : ∀ t, t < (pru T os).length → Reach (pru T os) 0 t := by
  have hl : (pru T os).length = os.length := by unfold pru; rw [List.length_map]
  have z0 : os.idxOf 0 = 0 := by
    cases os with
    | nil => cases h0
    | cons x r => cases h0; simp
  have st : ∀ k, Reach T 0 k → Reach (pru T os) 0 (os.idxOf k) := by
    intro k r
    induction r with
    | refl => rw [z0]; exact .refl
    | @left i j r e ih =>
      have im := (M.all i).mpr r
      have hi := idx_at im
      refine .left ih ?_
      rw [(pru_tl hi).1, e, ren_pos]
    | @right i j r e ih =>
      have im := (M.all i).mpr r
      have hi := idx_at im
      refine .right ih ?_
      rw [(pru_tl hi).2, e, ren_pos]
  intro t ht
  have ht' : t < os.length := by omega
  have r := st (os[t]) (M.re _ (List.getElem_mem ht'))
  have e : os.idxOf (os[t]) = t := by
    exact M.nd.idxOf_getElem t ht'
  rw [e] at r
  exact r
end SM
end
section
set_option maxRecDepth 100000
set_option maxHeartbeats 4000000
namespace Ser
open PySem L2
section
variable {P : Program} {w : World} {K : PySem.W.Frag} {mg : Str → Option Value} {base : Heap} {aN aW : Addr}
/-! ### pruned -/
abbrev sLPruned : Stmt := top 49
def NLPruned : List Str := ["_law_nodes", "_law_order", "_law_k", "_law_it"]
theorem scLPruned : FnScope NLPruned ["_law_nodes"] (defScope sLPruned) := ⟨rfl, rfl, rfl, by decide +kernel, rfl, by decide +kernel, by decide +kernel⟩
def spLPruned (K : PySem.W.Frag) : Sp := fun vs H Q _ => ∃ (v : V) (T : SM.Tree) (m : Nat), vs = [v] ∧ TrS K H v T ∧ SM.Ok m T ∧ T.length ≤ 60 ∧ ∀ v H' T', Same H H' → TD K H' v (trD T') → SM.Ok m T' → (∀ t, t < T'.length → SM.Reach T' 0 t) → T'.length ≤ T.length → Q v H'
theorem ok_l_pruned {f f1 : Addr} {fd fd1 : FuncData} (F : FnP K "_law_pruned" sLPruned f fd) (T : Tx K mg aN aW) (G__law_met : Def P w K mg base CX0 "_law_met" 1 ["_law_nodes"] (spLMet K) f1 fd1) : FnOk P w K mg base CX0 2 f fd ["_law_nodes"] (spLPruned K) := by
  refine F.ok scLPruned (fun vs H Q E h => ?_) (fun cdv A outer s H vs Q E hr h => ?_)
  · obtain ⟨_, _, _, rfl, _⟩ := h
    rfl
  · obtain ⟨v, Tr, m, rfl, tv, O, h60, k⟩ := h
    obtain ⟨a, xs, rfl, ha, hl, hxs⟩ := id tv
    refine ⟨_, PSs.nox <| (pss_cons (ps_set (i := 1) scLPruned.nd rfl (lc_ rfl) (dcall G__law_met (hr.mono (by decide)) (pa_cons (pv 0) pa_nil)))
      (pss_one (ps_ret (pe_callTy (cTuple K) (by rfl) T.tuple_ (by decide +kernel) (pa_cons (pe_lc (own := [("_law_k", 2)]) (g := (gName 2)) (tt := tYes) (by rfl) scLPruned.nd (piL K (pv 1)) (blkOk_by (N := NLPruned) (sc := defScope sLPruned) (by decide +kernel)) (fun _ _ _ _ _ => (pg_name (i := 2) scLPruned.nd rfl (lc_ rfl))) (fun _ _ _ _ _ => pts_nil) (fun _ _ _ _ _ => (pe_callTy (cTuple K) (by rfl) T.tuple_ (by decide +kernel) (pa_cons (pe_lc (own := [("_law_it", 3)]) (g := (gName 3)) (tt := tYes) (by rfl) scLPruned.nd (piT K (pe_ix (ixLT K) (pv 0) (pv 2) (fun _ _ => rfl))) (blkOk_by (N := NLPruned) (sc := (relS (lcSc (argE (valE (nthS (defBody sLPruned) 1)) 0)) (defScope sLPruned))) (by decide +kernel)) (fun _ _ _ _ _ => (pg_name (i := 3) scLPruned.nd rfl (lc_ rfl))) (fun _ _ _ _ _ => pts_nil) (fun _ _ _ _ _ => (pe_ifExp (pt_cmp (pc_ge (pv 3) pe_int)) (pBm K PySem.F.plainAttrs_list PySem.F.slot_list_index PySem.F.type_list_index (mIndex K) (pv 1) (pa_cons (pv 3) pa_nil)) (pv 3)))) pa_nil)))) pa_nil))))), ?_⟩
    have q0 : (100000 : Nat) ≤ sizeLine := by decide
    refine ⟨_, rfl, .ref a, Tr, m, rfl, tv, O, h60, fun D H1 os hD s1 hD1 mt z0 => ?_⟩
    have hlen := mt.len O O.pos
    refine ⟨_, rfl, D, rfl, ⟨_, SqL.mk hD1⟩, fun C hC => ?_⟩
    refine lc_tdY (K := K) (walk_list (xs := nts os)) (fun i => frD (SM.ren os (SM.tl Tr (os.getD i 0)), SM.ren os (SM.tr Tr (os.getD i 0)))) hC (by rw [nts_len]; omega) (fun H' s => SqL.mk (s _ _ hD1)) ?_ ?_
    · rintro i x H2 H3 k2 hi s2 ⟨zs, hzs⟩ ⟨rfl, hx⟩ kk
      rw [nts_len] at hi
      obtain ⟨j, hj⟩ : ∃ j, os[i]? = some j := ⟨os[i], by simp [hi]⟩
      have hx' : (nts os)[i]? = some x := hx
      rw [nts_get hj] at hx'
      cases hx'
      have jm : j ∈ os := List.mem_of_getElem? hj
      have jlt := mt.lt O O.pos j jm
      obtain ⟨q, hq, hqs⟩ := hxs j jlt
      have s12 := s1.trans s2
      have eg : os.getD i 0 = j := by rw [List.getD_eq_getElem?_getD, hj]; rfl
      rw [eg] at kk
      refine ⟨rfl, _, rfl, _, rfl, a, xs, j, _, rfl, rfl, Ser.Same.sqS s12 ha, atI_nat hq, q, rfl, ⟨_, Ser.Same.sqT s12 hqs⟩, fun C2 hC2 => ?_⟩
      have s3 : Same H3 (upd H3 C2 (.lst [])) := Ser.Same.new hC2
      refine lc_tdY (K := K) (walk_tup (xs := [V.int (SM.tl Tr j), V.int (SM.tr Tr j)])) (fun t => .int (SM.ren os (if t = 0 then SM.tl Tr j else SM.tr Tr j))) hC2 (by show 2 < 100000; decide) (fun H' s => Ser.Same.sqT (s12.trans s) hqs) ?_ ?_
      · rintro t x H4 H5 k3 ht s4 ⟨ws, hws⟩ ⟨rfl, hx⟩ kk2
        have key : ∃ p : Int, x = .int p ∧ p = (if t = 0 then SM.tl Tr j else SM.tr Tr j) ∧ ∀ c : Nat, p = (c : Int) → c ∈ os := by
          have cl := mt.cl i hi j hj
          match t, ht, hx with
          | 0, _, hx => exact ⟨_, (Option.some.inj hx).symm, rfl, cl.1⟩
          | 1, _, hx => exact ⟨_, (Option.some.inj hx).symm, rfl, cl.2⟩
        obtain ⟨p, rfl, ep, pm⟩ := key
        rw [← ep] at kk2
        refine ⟨rfl, _, rfl, _, _, rfl, rfl, _, rfl, iteB2 (fun hb => ?_) (fun hb => ?_)⟩
        · obtain ⟨c, rfl⟩ : ∃ c : Nat, p = (c : Int) := ⟨p.toNat, by have := of_decide_eq_true hb; omega⟩
          have cm := pm c rfl
          have D4 : H5 D = some (.lst (nts os)) := (s2.trans s4) _ _ hD1
          refine ⟨_, rfl, .inl ⟨rfl, _, SqL.mk D4⟩, _, rfl, D, nts os, _, os.idxOf c, _, rfl, rfl, SqL.mk D4, rfl, nts_flat os, nts_get (SM.idx_at cm), (by show ((c : Int) == (c : Int)) = true; exact beq_self_eq_true _), fun q z' hq hz => ?_, ?_⟩
          · obtain ⟨y, hy, rfl⟩ : ∃ y, os[q]? = some y ∧ z' = .int (y : Nat) := by
              unfold nts at hz
              rw [List.getElem?_map] at hz
              cases e : os[q]? with
              | none => rw [e] at hz; cases hz
              | some y => rw [e] at hz; exact ⟨y, rfl, (Option.some.inj hz).symm⟩
            show ((y : Int) == (c : Int)) = false
            rw [beq_eq_false_iff_ne]
            intro e
            have e := Int.ofNat_inj.mp e
            subst e
            have hle : os.idxOf y ≤ q := by
              have hq' : q < os.length := (List.getElem?_eq_some_iff.mp hy).1
              have eq2 : os[q] = y := (List.getElem?_eq_some_iff.mp hy).2
              rw [← eq2, mt.nd.idxOf_getElem q hq']
              exact Nat.le_refl _
            omega
          · refine kk2 _ _ (fun _ _ e => e) ?_
            rw [SM.ren_pos]
            exact .int _
        · have hp : p < 0 := by have := of_decide_eq_false hb; omega
          refine ⟨_, rfl, kk2 _ _ (fun _ _ e => e) ?_⟩
          unfold SM.ren
          rw [if_neg (by omega)]
          exact .int _
      · intro ys H4 s4 hy t
        refine ⟨C2, ys, rfl, .inl ⟨SqL.mk hy, fun l hl => ?_⟩⟩
        have s5 : Same H4 (upd H4 l (.tup ys)) := Ser.Same.new hl
        exact kk _ _ (s4.trans s5) (.tup (SqT.mk upd_same) (t.mono (TupEx.of s5)))
    · intro ys H2 s2 hy t
      refine ⟨C, ys, rfl, .inl ⟨SqL.mk hy, fun l hl => ?_⟩⟩
      have s5 : Same H2 (upd H2 l (.tup ys)) := Ser.Same.new hl
      have et : ((List.range (nts os).length).map fun i => frD (SM.ren os (SM.tl Tr (os.getD i 0)), SM.ren os (SM.tr Tr (os.getD i 0)))) = (SM.pru Tr os).map frD := by
        rw [nts_len]
        unfold SM.pru
        rw [List.map_map]
        refine List.ext_getElem (by simp) fun i h1 h2 => ?_
        have hi : i < os.length := by simpa using h1
        simp [List.getD_eq_getElem?_getD, hi]
      rw [et] at t
      have lp : (SM.pru Tr os).length = os.length := by unfold SM.pru; rw [List.length_map]
      refine k _ _ (SM.pru Tr os) ((s1.trans s2).trans s5) (.tup (SqT.mk upd_same) (t.mono (TupEx.of s5))) (SM.pru_ok O mt) (SM.pru_reach mt z0) (by omega)
end
end Ser
end
section
set_option maxRecDepth 100000
set_option maxHeartbeats 4000000
namespace Ser
open PySem L2
section
variable {P : Program} {w : World} {K : PySem.W.Frag} {mg : Str → Option Value} {base : Heap} {aN aW : Addr}
/-! ### any_tree -/
/-- all but the deck's two and what is new may be written over; tuples stand -/
theorem DkS.tup {D C : Addr} {n : Nat} {H H' : Hp} (d : Dck D C n H) (s : DkS D C H H') : TupEx H H' := by
  obtain ⟨_, ⟨x, _, _, hD⟩, cs, hC, _⟩ := d
  refine fun a xs => ⟨fun e => s a _ e (fun z => ?_) (fun z => ?_), fun o e => s a _ e (fun z => ?_) (fun z => ?_)⟩
  · rw [z, hD] at e; cases e
  · rw [z, hC] at e; cases e
  · rw [z, hD] at e; cases e
  · rw [z, hC] at e; cases e
theorem DkS.trans {D C : Addr} {H H1 H2 : Hp} (a : DkS D C H H1) (b : DkS D C H1 H2) : DkS D C H H2 := fun p o h n1 n2 => b p o (a p o h n1 n2) n1 n2
theorem DkS.same {D C : Addr} {H H1 H2 : Hp} (a : DkS D C H H1) (b : Same H1 H2) : DkS D C H H2 := fun p o h n1 n2 => b p o (a p o h n1 n2)
theorem DkS.refl (D C : Addr) (H : Hp) : DkS D C H H := fun _ _ h _ _ => h
theorem DkS.free {D C : Addr} {H H' : Hp} (s : DkS D C H H') {p : Addr} (h : H' p = none) (h1 : p ≠ D) (h2 : p ≠ C) : H p = none := by
  cases e : H p with
  | none => rfl
  | some o => rw [s p o e h1 h2] at h; cases h
/-- what H does not know may change -/
theorem DkS.put {D C : Addr} {H H' : Hp} {p : Addr} {o : HO} (e : DkS D C H H') (h : H p = none) : DkS D C H (upd H' p o) := fun a u q n1 n2 => by rw [upd_ne (ne_of_none q h)]; exact e a u q n1 n2
theorem Dck.same {D C : Addr} {n : Nat} {H H' : Hp} (d : Dck D C n H) (s : Same H H') : Dck D C n H' := by
  obtain ⟨h, ⟨x, h1, h2, hD⟩, cs, hC, hl⟩ := d
  exact ⟨h, ⟨x, h1, h2, s _ _ hD⟩, cs, s _ _ hC, hl⟩
theorem Dck.upd {D C : Addr} {n : Nat} {H : Hp} {p : Addr} {o : HO} (d : Dck D C n H) (hD : p ≠ D) (hC : p ≠ C) : Dck D C n (upd H p o) := by
  obtain ⟨h, ⟨x, h1, h2, eD⟩, cs, eC, hl⟩ := d
  exact ⟨h, ⟨x, h1, h2, by rw [upd_ne hD.symm]; exact eD⟩, cs, by rw [upd_ne hC.symm]; exact eC, hl⟩
theorem Dck.neD {D C : Addr} {n : Nat} {H : Hp} {p : Addr} (d : Dck D C n H) (h : H p = none) : p ≠ D ∧ p ≠ C := by
  obtain ⟨_, ⟨x, h1, h2, eD⟩, cs, eC, hl⟩ := d
  exact ⟨fun z => (by rw [z, eD] at h; cases h), fun z => (by rw [z, eC] at h; cases h)⟩
theorem iteB3 {b : Bool} {A B : VK → Prop} {Q : VK} (R : VK) (hA : b = true → (∀ v H, R v H → Q v H) → A Q) (hB : b = false → (∀ v H, R v H → Q v H) → B Q) (hQ : ∀ v H, R v H → Q v H) : if b = true then A Q else B Q :=
  iteB2 (fun h => hA h hQ) (fun h => hB h hQ)
abbrev sLAnyTree : Stmt := top 50
def NLAnyTree : List Str := ["_law_deck_here", "_law_much", "_law_size", "_law_nodes", "_law_often", "_law_k", "_law_sides", "_law_side", "_law_piece", "_law_node"]
theorem scLAnyTree : FnScope NLAnyTree ["_law_deck_here", "_law_much"] (defScope sLAnyTree) := ⟨rfl, rfl, rfl, by decide +kernel, rfl, by decide +kernel, by decide +kernel⟩
structure Vs (m : Nat) (T : SM.Tree) : Prop where
  va : Va m T
  l12 : T.length ≤ 12
def spLAny (K : PySem.W.Frag) : Sp := fun vs H Q _ => ∃ (D C : Addr) (n m : Nat), vs = [.ref D, .int m] ∧ Dck D C n H ∧ 1 ≤ m ∧ m ≤ 12 ∧ n ≤ 4000 ∧ ∀ v H' n' T, n' ≤ n + 100 → Dck D C n' H' → DkS D C H H' → TD K H' v (trD T) → Vs m T → Q v H'
theorem ok_l_any {f f1 f2 : Addr} {fd fd1 fd2 : FuncData} (F : FnP K "_law_any_tree" sLAnyTree f fd) (T : Tx K mg aN aW) (G__law_draw : Def P w K mg base CX0 "_law_draw" 1 ["_law_deck_here", "_law_much"] spLDraw f1 fd1) (G__law_pruned : Def P w K mg base CX0 "_law_pruned" 2 ["_law_nodes"] (spLPruned K) f2 fd2) : FnOk P w K mg base CX0 3 f fd ["_law_deck_here", "_law_much"] (spLAny K) := by
  refine F.ok scLAnyTree (fun vs H Q E h => ?_) (fun cdv A outer s H vs Q E hr h => ?_)
  · obtain ⟨_, _, _, _, rfl, _⟩ := h
    rfl
  · obtain ⟨D, C, n, m, rfl, dk, m1, m2, hn, k⟩ := h
    refine ⟨_, PSs.nox <| (pss_cons (ps_par3 (i := 2) (j := 3) (l := 4) rfl scLAnyTree.nd rfl rfl rfl (by decide) (by decide) (by decide) rfl rfl rfl (pa_cons (pe_op op_add pe_int (dcall G__law_draw (hr.mono (by decide)) (pa_cons (pv 0) (pa_cons pe_int pa_nil)))) (pa_cons (pe_lst pa_nil) (pa_cons (pe_op op_add pe_int (dcall G__law_draw (hr.mono (by decide)) (pa_cons (pv 0) (pa_cons pe_int pa_nil)))) pa_nil))) (by rfl))
      (pss_cons (ps_set (i := 2) scLAnyTree.nd rfl (lc_ rfl) (pe_ifExp (pt_cmp (pc_eqI (dcall G__law_draw (hr.mono (by decide)) (pa_cons (pv 0) (pa_cons pe_int pa_nil))) pe_int)) (pe_op op_add pe_int (dcall G__law_draw (hr.mono (by decide)) (pa_cons (pv 0) (pa_cons pe_int pa_nil)))) (pv 2)))
      (pss_cons (ps_for PassesOwn.never rfl (pi_range1 (by rfl) T.range_ (pa_cons (pv 2) pa_nil)) (pg_name (i := 5) scLAnyTree.nd rfl (lc_ rfl)) (pss_cons (ps_set (i := 6) scLAnyTree.nd rfl (lc_ rfl) (pe_lst pa_nil))
      (pss_cons (ps_for PassesOwn.never rfl (pi_range1 (by rfl) T.range_ (pa_cons pe_int pa_nil)) (pg_name (i := 7) scLAnyTree.nd rfl (lc_ rfl)) (pss_cons (ps_par (i := 8) (j := 9) rfl scLAnyTree.nd rfl rfl (by decide) rfl rfl (pa_cons (pe_op op_sub (pe_un un_neg pe_int) (dcall G__law_draw (hr.mono (by decide)) (pa_cons (pv 0) (pa_cons (pv 1) pa_nil)))) (pa_cons (dcall G__law_draw (hr.mono (by decide)) (pa_cons (pv 0) (pa_cons (pv 2) pa_nil))) pa_nil)) (by rfl))
      (pss_one (ps_expr (pBm K PySem.F.plainAttrs_list PySem.F.slot_list_append PySem.F.type_list_append mt_append (pv 6) (pa_cons (pe_ifExp (pt_cmp (pc_eqI (dcall G__law_draw (hr.mono (by decide)) (pa_cons (pv 0) (pa_cons (pv 4) pa_nil))) pe_int)) (pv 8) (pv 9)) pa_nil))))))
      (pss_one (ps_expr (pBm K PySem.F.plainAttrs_list PySem.F.slot_list_append PySem.F.type_list_append mt_append (pv 3) (pa_cons (pe_callTy (cTuple K) (by rfl) T.tuple_ (by decide +kernel) (pa_cons (pv 6) pa_nil)) pa_nil)))))))
      (pss_one (ps_ret (dcall G__law_pruned (hr.mono (by decide)) (pa_cons (pv 3) pa_nil))))))), ?_⟩
    have q0 : (100000 : Nat) ≤ sizeLine := by decide
    have hcC : ∀ {H' n' p}, Dck D C n' H' → H' p = none → p ≠ D ∧ p ≠ C := fun d h => d.neD h
    refine ⟨_, rfl, D, C, n, 7, rfl, dk, by decide, by decide, by omega, fun r1 H1 hr1 d1 s1 => ⟨_, _, rfl, rfl, (by show 0 ≤ sizeLine; omega), fun L hL => ?_⟩⟩
    obtain ⟨hLD, hLC⟩ := d1.neD hL
    have d2 := d1.same (Ser.Same.new (o := .lst []) hL)
    have s2 := s1.same (Ser.Same.new (o := .lst []) hL)
    have LL : (upd H1 L (.lst [])) L = some (.lst []) := upd_same
    have hL0 : H L = none := s1.free hL hLD hLC
    generalize upd H1 L (.lst []) = H2 at d2 s2 LL ⊢
    refine ⟨_, rfl, D, C, n + 1, 2, rfl, d2, by decide, by decide, by omega, fun r2 H3 hr2 d3 s3 => ⟨_, _, rfl, rfl, _, _, _, rfl, ?_⟩⟩
    have L3 := s3 _ _ LL hLD hLC
    have t3 := s2.trans s3
    obtain ⟨of, eo, o1, o2⟩ : ∃ of : Nat, (2 : Int) + (r2 : Int) = of ∧ 1 ≤ of ∧ of ≤ 3 := ⟨2 + r2, by omega, by omega, by omega⟩
    refine ⟨_, rfl, D, C, n + 2, 6, rfl, d3, by decide, by decide, by omega, fun r3 H4 hr3 d4 s4 => ⟨_, _, rfl, rfl, _, rfl, ?_⟩⟩
    have L4 := s4 _ _ L3 hLD hLC
    refine iteB3 (fun v H' => ∃ (sz n5 : Nat), v = .int sz ∧ 1 ≤ sz ∧ sz ≤ 12 ∧ n5 ≤ n + 4 ∧ Dck D C n5 H' ∧ H' L = some (.lst []) ∧ DkS D C H H') (fun hb kk => ?_) (fun hb kk => ?_) ?_
    · exact ⟨_, rfl, D, C, n + 3, 5, rfl, d4, by decide, by decide, by omega, fun r4 H5 hr4 d5 s5 => ⟨_, _, rfl, rfl, kk _ _ ⟨8 + r4, n + 4, congrArg V.int (by omega), by omega, by omega, Nat.le_refl _, d5, s5 _ _ L4 hLD hLC, (t3.trans s4).trans s5⟩⟩⟩
    · exact ⟨_, rfl, kk _ _ ⟨1 + r1, n + 3, congrArg V.int (by omega), by omega, by omega, by omega, d4, L4, t3.trans s4⟩⟩
    rintro _ H5 ⟨sz, n5, rfl, z1, z2, hn5, d6, L5, t5⟩
    refine ⟨_, rfl, (sz : Nat), rfl, by omega, by omega, ?_⟩
    refine for_it (walk_range (lo := 0) (n := sz)) (fun i σ H' => ∃ (ps : List (Int × Int)) (ys : List V) (n' : Nat) (v5 v6 v7 v8 v9 : Option V), σ = [some (.ref D), some (.int m), some (.int sz), some (.ref L), some (.int of), v5, v6, v7, v8, v9] ∧ n' ≤ n + 4 + 6 * i ∧ Dck D C n' H' ∧ DkS D C H H' ∧ H' L = some (.lst ys) ∧ TDs K H' ys (ps.map frD) ∧ ps.length = i ∧ ∀ x ∈ ps, (-(m : Int) ≤ x.1 ∧ x.1 < sz) ∧ -(m : Int) ≤ x.2 ∧ x.2 < sz)
      ⟨[], [], n5, none, none, none, none, none, (by rw [← eo]; rfl), hn5, d6, t5, L5, .nil, rfl, fun x h => nomatch h⟩ (fun _ _ _ _ _ => trivial) ?_ ?_
    · rintro i x σ H6 H7 hi ⟨ps, ys, n6, v5, v6, v7, v8, v9, rfl, hn6, d7, t7, L7, td7, lp, bp⟩ ⟨rfl, rfl⟩
      refine ⟨(by show 0 ≤ sizeLine; omega), fun S hS => ?_⟩
      obtain ⟨hSD, hSC⟩ := d7.neD hS
      have hS0 := t7.free hS hSD hSC
      have hSL : S ≠ L := fun z => by rw [z, L7] at hS; cases hS
      have sS : Same H7 (upd H7 S (.lst [])) := Ser.Same.new hS
      have d8 := d7.same sS
      have t8 := t7.same sS
      have L8 := sS _ _ L7
      have td8 := td7.mono (TupEx.of sS)
      have S8 : (upd H7 S (.lst [])) S = some (.lst []) := upd_same
      generalize upd H7 S (.lst []) = H8 at sS d8 t8 L8 td8 S8 ⊢
      refine ⟨(2 : Nat), rfl, by decide, by decide, ?_⟩
      refine for_it (walk_range (lo := 0) (n := 2)) (fun j σ H' => ∃ (cs : List Int) (n' : Nat) (v7 v8 v9 : Option V), σ = [some (.ref D), some (.int m), some (.int sz), some (.ref L), some (.int of), some (.int (0 + (i : Int))), some (.ref S), v7, v8, v9] ∧ n' ≤ n + 4 + 6 * i + 3 * j ∧ Dck D C n' H' ∧ DkS D C H H' ∧ H' L = some (.lst ys) ∧ TDs K H' ys (ps.map frD) ∧ H' S = some (.lst (cs.map V.int)) ∧ cs.length = j ∧ ∀ c ∈ cs, -(m : Int) ≤ c ∧ c < sz)
        ⟨[], n6, _, _, _, rfl, hn6, d8, t8, L8, td8, S8, rfl, fun x h => nomatch h⟩ (fun _ _ _ _ _ => trivial) ?_ ?_
      · rintro j x σ H9 H10 hj ⟨cs, n9, w7, w8, w9, rfl, hn9, d9, t9, L9, td9, S9, lc, bc⟩ ⟨rfl, rfl⟩
        refine ⟨_, rfl, _, rfl, _, rfl, D, C, n9, m, rfl, d9, m1, by omega, by omega, fun p1 HA hp1 dA sA => ⟨_, _, rfl, rfl, ?_⟩⟩
        refine ⟨_, rfl, _, rfl, D, C, n9 + 1, sz, rfl, dA, z1, by omega, by omega, fun p2 HB hp2 dB sB => ⟨_, _, rfl, ?_⟩⟩
        have tB := (t9.trans sA).trans sB
        have LB := sB _ _ (sA _ _ L9 hLD hLC) hLD hLC
        have SB := sB _ _ (sA _ _ S9 hSD hSC) hSD hSC
        have tdB := (td9.mono (DkS.tup d9 sA)).mono (DkS.tup dA sB)
        refine ⟨_, rfl, .inl ⟨rfl, _, SqL.mk SB⟩, _, rfl, _, rfl, D, C, n9 + 2, of, rfl, dB, o1, by omega, by omega, fun p3 HC hp3 dC sC => ⟨_, _, rfl, rfl, _, rfl, ?_⟩⟩
        have tC := tB.trans sC
        have LC := sC _ _ LB hLD hLC
        have SC := sC _ _ SB hSD hSC
        have tdC := tdB.mono (DkS.tup dB sC)
        have bc2 : ∀ c : Int, -(m : Int) ≤ c → c < sz → ∀ y ∈ cs ++ [c], -(m : Int) ≤ y ∧ y < sz := fun c c1 c2 y hy => by
          rcases List.mem_append.mp hy with h | h
          · exact bc y h
          · rw [List.mem_singleton.mp h]; exact ⟨c1, c2⟩
        refine iteB2 (fun hb => ⟨_, rfl, S, _, _, rfl, rfl, SC, by rw [List.length_map]; omega, ?_⟩) (fun hb => ⟨_, rfl, S, _, _, rfl, rfl, SC, by rw [List.length_map]; omega, ?_⟩)
        · exact ⟨cs ++ [-1 - (p1 : Int)], n9 + 3, _, _, _, rfl, by omega, dC.upd hSD hSC, tC.put hS0, (by rw [upd_ne hSL.symm]; exact LC), tdC.mono (TupEx.lst SC), (by rw [upd_same, List.map_append]; rfl), (by rw [List.length_append, lc]; rfl), bc2 _ (by omega) (by omega)⟩
        · exact ⟨cs ++ [(p2 : Int)], n9 + 3, _, _, _, rfl, by omega, dC.upd hSD hSC, tC.put hS0, (by rw [upd_ne hSL.symm]; exact LC), tdC.mono (TupEx.lst SC), (by rw [upd_same, List.map_append]; rfl), (by rw [List.length_append, lc]; rfl), bc2 _ (by omega) (by omega)⟩
      · rintro σ H9 ⟨cs, n9, w7, w8, w9, rfl, hn9, d9, t9, L9, td9, S9, lc, bc⟩
        obtain ⟨c1, c2, rfl⟩ : ∃ c1 c2, cs = [c1, c2] := by
          match cs, lc with
          | [a, b], _ => exact ⟨a, b, rfl⟩
        refine ⟨_, rfl, .inl ⟨rfl, _, SqL.mk L9⟩, _, rfl, S, _, rfl, .inl ⟨SqL.mk S9, fun l hl => ?_⟩⟩
        have sl : Same H9 (upd H9 l (.tup ([c1, c2].map V.int))) := Ser.Same.new hl
        have Ll := sl _ _ L9
        refine ⟨L, ys, _, rfl, rfl, Ll, by have := td9.length; rw [List.length_map] at this; omega, ?_⟩
        have tX := TupEx.lst (o := .lst (ys ++ [.ref l])) Ll
        have hlL : l ≠ L := fun z => by rw [z, L9] at hl; cases hl
        refine ⟨ps ++ [(c1, c2)], ys ++ [.ref l], n9, _, _, _, _, _, rfl, by omega, (d9.same sl).upd hLD hLC, (t9.same sl).put hL0, upd_same, ?_, by rw [List.length_append, lp]; rfl, fun y hy => ?_⟩
        · rw [List.map_append]
          refine ((td9.mono (TupEx.of sl)).mono tX).append (.one (TD.fr_mk (SqT.mk ?_)))
          rw [upd_ne hlL, upd_same]; rfl
        · rcases List.mem_append.mp hy with h | h
          · exact bp y h
          · rw [List.mem_singleton.mp h]
            exact ⟨bc c1 (by simp), bc c2 (by simp)⟩
    · rintro σ H6 ⟨ps, ys, n6, v5, v6, v7, v8, v9, rfl, hn6, d7, t7, L7, td7, lp, bp⟩
      have at_ : ∀ t, t < ps.length → ((-(m : Int) ≤ SM.tl ps t ∧ SM.tl ps t < ps.length) ∧ -(m : Int) ≤ SM.tr ps t ∧ SM.tr ps t < ps.length) := fun t ht => by
        have := bp (ps[t]) (List.getElem_mem ht)
        have e : ps[t]? = some ps[t] := List.getElem?_eq_getElem ht
        rw [SM.tl_at e, SM.tr_at e, lp]
        exact this
      have O : SM.Ok m ps := ⟨by omega, fun t ht => (at_ t ht).1, fun t ht => (at_ t ht).2⟩
      refine ⟨_, rfl, .ref L, ps, m, rfl, TrS.ofL (SqL.mk L7) td7, O, by omega, fun v H8 T' s8 tv O' R' l' => ?_⟩
      exact k v H8 n6 T' (by omega) (d7.same s8) (t7.same s8) tv ⟨⟨O', R', by omega, by omega, m2⟩, by omega⟩
end
end Ser
end
section
namespace SM
/-! ### even trees of all rows of so many tosses, needless tosses ahead -/
def evP (m w k : Nat) (x : Int × Int) : Prop := (2 * k + 1 < w - 1 ∧ (x = (2 * (k : Int) + 1, 2 * (k : Int) + 2) ∨ x = (2 * (k : Int) + 2, 2 * (k : Int) + 1))) ∨ (w - 1 ≤ 2 * k + 1 ∧ (-(m : Int) ≤ x.1 ∧ x.1 ≤ 0) ∧ -(m : Int) ≤ x.2 ∧ x.2 ≤ 0)
structure Rd (m : Nat) (T : Tree) : Prop where
  ok : Ok m T
  ro : ∀ t, t < T.length → Reach T 0 t
theorem even_rd {m w : Nat} {T : Tree} (hw : 2 ≤ w) (h2 : w % 2 = 0) (hl : T.length = w - 1) (h : ∀ k x, T[k]? = some x → evP m w k x) : Rd m T := by
  have at_ : ∀ t, t < T.length → evP m w t (tl T t, tr T t) := fun t ht => h t _ (tree_at ht)
  have b : ∀ t, t < T.length → ((-(m : Int) ≤ tl T t ∧ tl T t < T.length) ∧ -(m : Int) ≤ tr T t ∧ tr T t < T.length) := fun t ht => by
    rcases at_ t ht with ⟨h1, h3 | h3⟩ | ⟨h1, h3, h4⟩
    · obtain ⟨e1, e2⟩ := Prod.mk.inj h3
      rw [e1, e2]; omega
    · obtain ⟨e1, e2⟩ := Prod.mk.inj h3
      rw [e1, e2]; omega
    · replace h3 : -(m : Int) ≤ tl T t ∧ tl T t ≤ 0 := h3
      replace h4 : -(m : Int) ≤ tr T t ∧ tr T t ≤ 0 := h4
      omega
  refine ⟨⟨by omega, fun t ht => (b t ht).1, fun t ht => (b t ht).2⟩, ?_⟩
  intro t
  induction t using Nat.strongRecOn with
  | _ t ih =>
    intro ht
    by_cases h0 : t = 0
    · subst h0; exact .refl
    · have hk : (t - 1) / 2 < t := by omega
      have hk2 : (t - 1) / 2 < T.length := by omega
      have r := ih _ hk hk2
      rcases at_ _ hk2 with ⟨h1, h3 | h3⟩ | ⟨h1, h3, h4⟩
      · obtain ⟨e1, e2⟩ := Prod.mk.inj h3
        by_cases e : 2 * ((t - 1) / 2) + 1 = t
        · exact .left r (by rw [e1]; omega)
        · exact .right r (by rw [e2]; omega)
      · obtain ⟨e1, e2⟩ := Prod.mk.inj h3
        by_cases e : 2 * ((t - 1) / 2) + 1 = t
        · exact .right r (by rw [e2]; omega)
        · exact .left r (by rw [e1]; omega)
      · omega
def shp (b p : Int) : Int := if p < 0 then p else if p = 0 then b else p + 1
def stk (b : Int) (T : Tree) : Tree := (1, 1) :: T.map fun x => (shp b x.1, shp b x.2)
theorem stk_len (b : Int) (T : Tree) : (stk b T).length = T.length + 1 := by unfold stk; simp
theorem stk_at {b : Int} {T : Tree} {k : Nat} (h : k < T.length) : tl (stk b T) (k + 1) = shp b (tl T k) ∧ tr (stk b T) (k + 1) = shp b (tr T k) := by
  have e : (stk b T)[k + 1]? = some (shp b (tl T k), shp b (tr T k)) := by
    unfold stk
    rw [List.getElem?_cons_succ, List.getElem?_map, tree_at h]; rfl
  exact ⟨tl_at e, tr_at e⟩
theorem stk_rd {m : Nat} {T : Tree} {b : Int} (hb : b = 0 ∨ b = 1) (R : Rd m T) : Rd m (stk b T) := by
  have O := R.ok
  have hp := O.pos
  have one : ∀ p : Int, -(m : Int) ≤ p → p < T.length → -(m : Int) ≤ shp b p ∧ shp b p < (T.length : Int) + 1 := fun p h1 h2 => by
    unfold shp
    split
    · omega
    · split
      · rcases hb with rfl | rfl <;> omega
      · omega
  have z1 : tl (stk b T) 0 = 1 := rfl
  have z2 : tr (stk b T) 0 = 1 := rfl
  have c : ((stk b T).length : Int) = (T.length : Int) + 1 := by rw [stk_len]; rfl
  have O2 : Ok m (stk b T) := by
    refine ⟨by rw [stk_len]; omega, fun t ht => ?_, fun t ht => ?_⟩
    · rw [c]
      rw [stk_len] at ht
      cases t with
      | zero => rw [z1]; omega
      | succ t => rw [(stk_at (by omega)).1]; exact one _ (O.rl t (by omega)).1 (O.rl t (by omega)).2
    · rw [c]
      rw [stk_len] at ht
      cases t with
      | zero => rw [z2]; omega
      | succ t => rw [(stk_at (by omega)).2]; exact one _ (O.rr t (by omega)).1 (O.rr t (by omega)).2
  refine ⟨O2, ?_⟩
  have r1 : Reach (stk b T) 0 1 := .left .refl z1
  have st : ∀ t, Reach T 0 t → Reach (stk b T) 0 (t + 1) := by
    intro t r
    induction r with
    | refl => exact r1
    | @left i j r' e ih =>
      have hi := r'.lt O hp
      by_cases h0 : j = 0
      · subst h0; exact r1
      · refine .left ih ?_
        rw [(stk_at hi).1, e]
        unfold shp
        rw [if_neg (by omega), if_neg (by omega)]; rfl
    | @right i j r' e ih =>
      have hi := r'.lt O hp
      by_cases h0 : j = 0
      · subst h0; exact r1
      · refine .right ih ?_
        rw [(stk_at hi).2, e]
        unfold shp
        rw [if_neg (by omega), if_neg (by omega)]; rfl
  intro t ht
  rw [stk_len] at ht
  cases t with
  | zero => exact .refl
  | succ t => exact st t (R.ro t (by omega))
end SM
end
section
set_option maxRecDepth 100000
set_option maxHeartbeats 4000000
namespace Ser
open PySem L2
section
variable {P : Program} {w : World} {K : PySem.W.Frag} {mg : Str → Option Value} {base : Heap} {aN aW : Addr}
/-! ### even_tree -/
theorem seqAsg {te : TE} {g : TG} {u : TS} {D : Ends} {σ : L2.St} {H : Hp} (R : VK) (hA : ∀ Q : VK, (∀ v H, R v H → Q v H) → te σ H Q) (hQ : ∀ v H', R v H' → g v σ H' (u D)) : tSeq (tAsg te g) u D σ H := hA _ hQ
theorem iteS {b : Bool} {tA tB : TS} {D : Ends} {σ : L2.St} {H : Hp} (R : L2.St → Hp → Prop) (hA : b = true → (∀ σ' H', R σ' H' → D.nx σ' H') → tA D σ H) (hB : b = false → (∀ σ' H', R σ' H' → D.nx σ' H') → tB D σ H) (hQ : ∀ σ' H', R σ' H' → D.nx σ' H') : if b = true then tA D σ H else tB D σ H :=
  iteB2 (fun h => hA h hQ) (fun h => hB h hQ)
theorem all2_two {R : Nat → V → Hp → Prop} {H : Hp} {ys : List V} (h : All2 R H (List.range 2) ys) : ∃ a b, ys = [a, b] ∧ R 0 a H ∧ R 1 b H := by
  have e : List.range 2 = [0, 1] := rfl
  rw [e] at h
  cases h with
  | cons h1 r =>
    cases r with
    | cons h2 r =>
      cases r
      exact ⟨_, _, rfl, h1, h2⟩
abbrev sLEvenTree : Stmt := top 51
def NLEvenTree : List Str := ["_law_deck_here", "_law_much", "_law_wide", "_law_by", "_law_nodes", "_law_great", "_law_k", "_law_sides", "_law_spots", "_law_side", "_law_spot", "_law_go", "_law_back", "_law_node", "_law_it"]
theorem scLEvenTree : FnScope NLEvenTree ["_law_deck_here", "_law_much"] (defScope sLEvenTree) := ⟨rfl, rfl, rfl, by decide +kernel, rfl, by decide +kernel, by decide +kernel⟩
def spLEven (K : PySem.W.Frag) : Sp := fun vs H Q _ => ∃ (D C : Addr) (n m : Nat), vs = [.ref D, .int m] ∧ Dck D C n H ∧ 1 ≤ m ∧ m ≤ 6 ∧ n ≤ 4000 ∧ ∀ v H' n' T, n' ≤ n + 100 → Dck D C n' H' → DkS D C H H' → TD K H' v (trD T) → Vs m T → Q v H'
theorem ok_l_even {f f1 : Addr} {fd fd1 : FuncData} (F : FnP K "_law_even_tree" sLEvenTree f fd) (T : Tx K mg aN aW) (G__law_draw : Def P w K mg base CX0 "_law_draw" 1 ["_law_deck_here", "_law_much"] spLDraw f1 fd1) : FnOk P w K mg base CX0 2 f fd ["_law_deck_here", "_law_much"] (spLEven K) := by
  refine F.ok scLEvenTree (fun vs H Q E h => ?_) (fun cdv A outer s H vs Q E hr h => ?_)
  · obtain ⟨_, _, _, _, rfl, _⟩ := h
    rfl
  · obtain ⟨D, C, n, m, rfl, dk, m1, m2, hn, k⟩ := h
    refine ⟨_, PSs.nox <| (pss_cons (ps_set (i := 2) scLEvenTree.nd rfl (lc_ rfl) pe_int)
      (pss_cons (ps_while PassesOwn.never (pt_cmp (pc_lt (pv 2) (pv 1))) (pss_one (ps_set (i := 2) scLEvenTree.nd rfl (lc_ rfl) (pe_op op_mul pe_int (pv 2)))))
      (pss_cons (ps_set (i := 2) scLEvenTree.nd rfl (lc_ rfl) (pe_ifExp (PW.pt (pw_and (pt_cmp (pc_lt (pv 2) pe_int)) (pw_and1 (pt_cmp (pc_eqI (dcall G__law_draw (hr.mono (by decide)) (pa_cons (pv 0) (pa_cons pe_int pa_nil))) pe_int))))) (pe_op op_mul pe_int (pv 2)) (pv 2)))
      (pss_cons (ps_asg (pe_tup (pa_cons (dcall G__law_draw (hr.mono (by decide)) (pa_cons (pv 0) (pa_cons (pv 1) pa_nil))) (pa_cons (pe_lst pa_nil) (pa_cons (pe_op op_mul (pe_op op_fdiv (pv 2) (pv 1)) (pv 1)) pa_nil)))) (gTup' K (pgs_cons (pg_name (i := 3) scLEvenTree.nd rfl (lc_ rfl)) (pgs_cons (pg_name (i := 4) scLEvenTree.nd rfl (lc_ rfl)) (pgs_cons (pg_name (i := 5) scLEvenTree.nd rfl (lc_ rfl)) pgs_nil)))))
      (pss_cons (ps_for PassesOwn.never rfl (pi_range1 (by rfl) T.range_ (pa_cons (pe_op op_sub (pv 2) pe_int) pa_nil)) (pg_name (i := 6) scLEvenTree.nd rfl (lc_ rfl)) (pss_cons (ps_set (i := 7) scLEvenTree.nd rfl (lc_ rfl) (pe_lst (pa_cons (pe_op op_add (pe_op op_mul pe_int (pv 6)) pe_int) (pa_cons (pe_op op_add (pe_op op_mul pe_int (pv 6)) pe_int) pa_nil))))
      (pss_cons (ps_if (pt_cmp (pc_ge (pe_ix (ixL K) (pv 7) pe_int (fun _ _ => rfl)) (pe_op op_sub (pv 2) pe_int))) (pss_cons (ps_setLc (i := 8) (own := [("_law_side", 9)]) (g := (gName 9)) (tt := tYes) (by rfl) scLEvenTree.nd rfl rfl (sw_true rfl rfl rfl (by decide +kernel)) (piL K (pv 7)) (blkOk_by (N := NLEvenTree) (sc := defScope sLEvenTree) (by decide +kernel)) (fun _ _ _ _ _ => (pg_name (i := 9) scLEvenTree.nd rfl (lc_ rfl))) (fun _ _ _ _ _ => pts_nil) (fun _ _ _ _ _ => (pe_op op_sub (pv 9) (pe_op op_sub (pv 2) pe_int))))
      (pss_one (ps_setLc (i := 7) (own := [("_law_spot", 10)]) (g := (gName 10)) (tt := tYes) (by rfl) scLEvenTree.nd rfl rfl (sw_true rfl rfl rfl (by decide +kernel)) (piL K (pv 8)) (blkOk_by (N := NLEvenTree) (sc := defScope sLEvenTree) (by decide +kernel)) (fun _ _ _ _ _ => (pg_name (i := 10) scLEvenTree.nd rfl (lc_ rfl))) (fun _ _ _ _ _ => pts_nil) (fun _ _ _ _ _ => (pe_ifExp (pt_cmp (pc_lt (pv 10) (pv 5))) (pe_op op_sub (pe_un un_neg pe_int) (pe_op op_mod (pe_callTy call_int1 (by rfl) T.int_ (by decide +kernel) (pa_cons (pe_op op_add (pv 10) (pv 3)) pa_nil)) (pv 1))) pe_int))))) pss_nil)
      (pss_one (ps_expr (pBm K PySem.F.plainAttrs_list PySem.F.slot_list_append PySem.F.type_list_append mt_append (pv 4) (pa_cons (pe_callTy (cTuple K) (by rfl) T.tuple_ (by decide +kernel) (pa_cons (pe_ifExp (pt_cmp (pc_eqI (dcall G__law_draw (hr.mono (by decide)) (pa_cons (pv 0) (pa_cons pe_int pa_nil))) pe_int)) (pv 7) (pRevL K (pv 7))) pa_nil)) pa_nil)))))))
      (pss_cons (ps_for PassesOwn.never rfl (pi_range1 (by rfl) T.range_ (pa_cons (dcall G__law_draw (hr.mono (by decide)) (pa_cons (pv 0) (pa_cons (pe_ifExp (pt_cmp (pc_eqI (dcall G__law_draw (hr.mono (by decide)) (pa_cons (pv 0) (pa_cons pe_int pa_nil))) pe_int)) pe_int pe_int) pa_nil))) pa_nil)) (pg_name (i := 11) scLEvenTree.nd rfl (lc_ rfl)) (pss_cons (ps_set (i := 12) scLEvenTree.nd rfl (lc_ rfl) (dcall G__law_draw (hr.mono (by decide)) (pa_cons (pv 0) (pa_cons pe_int pa_nil))))
      (pss_cons (ps_setLc (i := 4) (own := [("_law_node", 13)]) (g := (gName 13)) (tt := tYes) (by rfl) scLEvenTree.nd rfl rfl (sw_true rfl rfl rfl (by decide +kernel)) (piL K (pv 4)) (blkOk_by (N := NLEvenTree) (sc := defScope sLEvenTree) (by decide +kernel)) (fun _ _ _ _ _ => (pg_name (i := 13) scLEvenTree.nd rfl (lc_ rfl))) (fun _ _ _ _ _ => pts_nil) (fun _ _ _ _ _ => (pe_callTy (cTuple K) (by rfl) T.tuple_ (by decide +kernel) (pa_cons (pe_lc (own := [("_law_it", 14)]) (g := (gName 14)) (tt := tYes) (by rfl) scLEvenTree.nd (piT K (pv 13)) (blkOk_by (N := NLEvenTree) (sc := (relS (lcSc (valE (nthS (bodyS (nthS (defBody sLEvenTree) 5)) 1))) (defScope sLEvenTree))) (by decide +kernel)) (fun _ _ _ _ _ => (pg_name (i := 14) scLEvenTree.nd rfl (lc_ rfl))) (fun _ _ _ _ _ => pts_nil) (fun _ _ _ _ _ => (pe_ifExp (pt_cmp (pc_lt (pv 14) pe_int)) (pv 14) (pe_ifExp (pt_cmp (pc_eqI (pv 14) pe_int)) (pv 12) (pe_op op_add (pv 14) pe_int))))) pa_nil))))
      (pss_one (ps_set (i := 4) scLEvenTree.nd rfl (lc_ rfl) (pe_op op_cat (pe_lst (pa_cons (pe_tup (pa_cons pe_int (pa_cons pe_int pa_nil))) pa_nil)) (pv 4)))))))
      (pss_one (ps_ret (pe_callTy (cTuple K) (by rfl) T.tuple_ (by decide +kernel) (pa_cons (pv 4) pa_nil)))))))))), ?_⟩
    have q0 : (100000 : Nat) ≤ sizeLine := by decide
    refine ⟨fun μ σ H' => ∃ wd : Nat, μ = 16 - wd ∧ σ = [some (.ref D), some (.int m), some (.int wd), none, none, none, none, none, none, none, none, none, none, none, none] ∧ H' = H ∧ (wd = 2 ∨ wd = 4 ∨ wd = 8), ⟨_, 2, rfl, rfl, rfl, .inl rfl⟩, ?_⟩
    rintro μ σ H0 ⟨wd, rfl, rfl, rfl, hw⟩
    refine ⟨_, rfl, _, rfl, _, _, rfl, rfl, _, rfl, iteB2 (fun hb => ?_) (fun hb => ?_)⟩
    · have hb : (wd : Int) < m := of_decide_eq_true hb
      refine ⟨fun σ' H'' => ∃ m', m' < 16 - wd ∧ ∃ wd : Nat, m' = 16 - wd ∧ σ' = [some (.ref D), some (.int m), some (.int wd), none, none, none, none, none, none, none, none, none, none, none, none] ∧ H'' = H0 ∧ (wd = 2 ∨ wd = 4 ∨ wd = 8), fun _ _ h => h, ?_⟩
      exact ⟨_, rfl, _, _, rfl, rfl, .inl ⟨by decide, by decide⟩, 16 - 2 * wd, by omega, 2 * wd, rfl, rfl, rfl, by omega⟩
    have hb : ¬ (wd : Int) < m := of_decide_eq_false hb
    dsimp only
    refine seqAsg (fun v H' => ∃ wd n', v = .int (wd : Nat) ∧ (wd = 2 ∨ wd = 4 ∨ wd = 8) ∧ n' ≤ n + 1 ∧ Dck D C n' H' ∧ DkS D C H0 H') ?_ ?_
    · intro Qc kk
      refine ⟨_, rfl, _, _, rfl, rfl, _, rfl, iteB2 (fun hb2 => ?_) (fun hb2 => ?_)⟩
      · have hb2 : (wd : Int) < 8 := of_decide_eq_true hb2
        refine ⟨_, rfl, D, C, n, 2, rfl, dk, by decide, by decide, by omega, fun r1 H1 hr1 d1 s1 => ⟨_, _, rfl, rfl, _, rfl, iteB2 (fun hb3 => ?_) (fun hb3 => ?_)⟩⟩
        · exact ⟨_, rfl, _, _, rfl, rfl, .inl ⟨by decide, by decide⟩, kk _ _ ⟨2 * wd, n + 1, congrArg V.int (by omega), by omega, Nat.le_refl _, d1, s1⟩⟩
        · exact ⟨_, rfl, kk _ _ ⟨wd, n + 1, rfl, by omega, Nat.le_refl _, d1, s1⟩⟩
      · exact iteBF rfl ⟨_, rfl, kk _ _ ⟨wd, n, rfl, by omega, Nat.le_succ _, dk, DkS.refl _ _ _⟩⟩
    rintro _ H1 ⟨wd, n1, rfl, hw, hn1, d1, s1⟩
    refine ⟨_, rfl, _, rfl, D, C, n1, m, rfl, d1, m1, by omega, by omega, fun by_ H2 hby d2 s2 => ⟨(by show 0 ≤ sizeLine; omega), fun L hL => ?_⟩⟩
    obtain ⟨hLD, hLC⟩ := d2.neD hL
    have t2 := s1.trans s2
    have hL0 := t2.free hL hLD hLC
    have sL : Same H2 (upd H2 L (.lst [])) := Ser.Same.new hL
    have L3 : (upd H2 L (.lst [])) L = some (.lst []) := upd_same
    have d3 := d2.same sL
    have t3 := t2.same sL
    generalize upd H2 L (.lst []) = H3 at L3 d3 t3 ⊢
    refine ⟨_, rfl, _, rfl, _, _, rfl, rfl, ⟨by omega, by omega⟩, _, rfl, _, _, rfl, rfl, .inr ⟨by omega, by omega⟩, (by show 3 ≤ sizeLine; omega), fun p hp => ⟨p, _, rfl, SqT.mk upd_same, rfl, _, _, rfl, _, _, rfl, _, _, rfl, rfl, ?_⟩⟩
    obtain ⟨gr, hgr⟩ : ∃ g : Int, g = (wd : Int) / (m : Int) * (m : Int) := ⟨_, rfl⟩
    have sp : ∀ x, Same H3 (upd H3 p x) := fun x => Ser.Same.new hp
    -- the nodes of all rows
    refine ⟨_, rfl, _, _, rfl, rfl, (wd - 1 : Nat), congrArg (fun z => [V.int z]) (by omega), by omega, by omega, ?_⟩
    refine for_it (walk_range (lo := 0) (n := wd - 1)) (fun i σ H' => ∃ (ps : List (Int × Int)) (ys : List V) (n' : Nat) (v6 v7 v8 v9 v10 : Option V), σ = [some (.ref D), some (.int m), some (.int wd), some (.int (by_ : Nat)), some (.ref L), some (.int gr), v6, v7, v8, v9, v10, none, none, none, none] ∧ n' ≤ n + 2 + i ∧ Dck D C n' H' ∧ DkS D C H0 H' ∧ H' L = some (.lst ys) ∧ TDs K H' ys (ps.map frD) ∧ ps.length = i ∧ ∀ k x, ps[k]? = some x → SM.evP m wd k x)
      ⟨[], [], n1 + 1, none, none, none, none, none, by rw [hgr]; rfl, by omega, d3.same (sp _), t3.same (sp _), sp _ _ _ L3, .nil, rfl, fun k x h => by simp at h⟩ (fun _ _ _ _ _ => trivial) ?_ ?_
    · rintro i x σ H6 H7 hi ⟨ps, ys, n6, v6, v7, v8, v9, v10, rfl, hn6, d7, t7, L7, td7, lp, bp⟩ ⟨rfl, rfl⟩
      have e0 : (0 : Int) + (i : Int) = i := by omega
      show gName 6 (V.int (0 + (i : Int))) _ _ _
      rw [e0]
      refine ⟨_, rfl, _, _, rfl, rfl, .inl ⟨by decide, by decide⟩, _, _, rfl, rfl, _, rfl, _, _, rfl, rfl, .inl ⟨by decide, by decide⟩, _, _, rfl, rfl, (by show 2 ≤ sizeLine; omega), fun S hS => ?_⟩
      have sS : Same H7 (upd H7 S (.lst [.int (2 * (i : Int) + 1), .int (2 * (i : Int) + 2)])) := Ser.Same.new hS
      have S8 : (upd H7 S (.lst [.int (2 * (i : Int) + 1), .int (2 * (i : Int) + 2)])) S = some (.lst [.int (2 * (i : Int) + 1), .int (2 * (i : Int) + 2)]) := upd_same
      dsimp only
      generalize upd H7 S (.lst [V.int (2 * (i : Int) + 1), V.int (2 * (i : Int) + 2)]) = H8 at sS S8 ⊢
      refine ⟨_, rfl, S, _, (0 : Nat), _, rfl, rfl, SqL.mk S8, rfl, _, rfl, _, _, rfl, rfl, _, _, rfl, rfl, _, rfl, ?_⟩
      refine iteS (fun σ' H' => ∃ (a b : Int) (S : Addr) (v8 v9 v10 : Option V), σ' = [some (.ref D), some (.int m), some (.int wd), some (.int (by_ : Nat)), some (.ref L), some (.int gr), some (.int i), some (.ref S), v8, v9, v10, none, none, none, none] ∧ Same H7 H' ∧ H7 S = none ∧ H' S = some (.lst [.int a, .int b]) ∧ SM.evP m wd i (a, b) ∧ SM.evP m wd i (b, a)) (fun hb kk => ?_) (fun hb kk => ?_) ?_
      · have hb : 2 * (i : Int) + 1 ≥ (wd : Int) - 1 := of_decide_eq_true hb
        refine ⟨_, rfl, S, rfl, ⟨_, SqL.mk S8⟩, fun E1 hE1 => ?_⟩
        refine lc_genY (walk_list (xs := [V.int (2 * (i : Int) + 1), V.int (2 * (i : Int) + 2)])) (fun _ y _ => ∃ c : Int, y = .int c) hE1 (by show 2 < 100000; decide) (fun H' s => SqL.mk (s _ _ S8)) (fun _ _ _ _ _ _ e _ _ _ => e) ?_ ?_
        · rintro j x HA HB k2 hj sA _ ⟨rfl, hx⟩ kk2
          obtain ⟨c, rfl⟩ : ∃ c : Int, x = .int c := by
            match j, hj, hx with
            | 0, _, hx => exact ⟨_, (Option.some.inj hx).symm⟩
            | 1, _, hx => exact ⟨_, (Option.some.inj hx).symm⟩
          exact ⟨rfl, _, rfl, _, rfl, _, _, rfl, rfl, _, _, rfl, rfl, kk2 _ _ (fun _ _ e => e) ⟨_, rfl⟩⟩
        · intro ys1 H9 s9 hy9 al
          obtain ⟨_, _, rfl, ⟨c1, rfl⟩, ⟨c2, rfl⟩⟩ := all2_two al
          refine ⟨_, rfl, E1, rfl, ⟨_, SqL.mk hy9⟩, fun E2 hE2 => ?_⟩
          refine lc_genY (walk_list (xs := [V.int c1, V.int c2])) (fun _ y _ => ∃ c : Int, y = .int c ∧ -(m : Int) ≤ c ∧ c ≤ 0) hE2 (by show 2 < 100000; decide) (fun H' s => SqL.mk (s _ _ hy9)) (fun _ _ _ _ _ _ e _ _ _ => e) ?_ ?_
          · rintro j x HA HB k2 hj sA _ ⟨rfl, hx⟩ kk2
            obtain ⟨c, rfl⟩ : ∃ c : Int, x = .int c := by
              match j, hj, hx with
              | 0, _, hx => exact ⟨_, (Option.some.inj hx).symm⟩
              | 1, _, hx => exact ⟨_, (Option.some.inj hx).symm⟩
            refine ⟨rfl, _, rfl, _, rfl, _, _, rfl, rfl, _, rfl, iteB2 (fun hb2 => ?_) (fun hb2 => ?_)⟩
            · refine ⟨_, rfl, _, rfl, _, rfl, _, _, rfl, rfl, .inl ⟨_, rfl, _, rfl, _, _, rfl, rfl, (by show (0 : Int) < (m : Int); omega), _, _, rfl, rfl, kk2 _ _ (fun _ _ e => e) ⟨_, rfl, ?_⟩⟩⟩
              have h1 := Int.emod_nonneg (c + (by_ : Int)) (b := (m : Int)) (by omega)
              have h2 := Int.emod_lt_of_pos (c + (by_ : Int)) (b := (m : Int)) (by omega)
              show -(m : Int) ≤ -1 - (c + (by_ : Int)) % (m : Int) ∧ -1 - (c + (by_ : Int)) % (m : Int) ≤ 0
              omega
            · exact kk2 _ _ (fun _ _ e => e) ⟨_, rfl, by omega⟩
          · intro ys2 HA sA hyA al2
            obtain ⟨_, _, rfl, ⟨a, rfl, ha⟩, ⟨b, rfl, hb2⟩⟩ := all2_two al2
            exact kk _ _ ⟨a, b, E2, _, _, _, rfl, (sS.trans s9).trans sA, (sS.trans s9).free hE2, hyA, .inr ⟨by omega, ha, hb2⟩, .inr ⟨by omega, hb2, ha⟩⟩
      · have hb : ¬ 2 * (i : Int) + 1 ≥ (wd : Int) - 1 := of_decide_eq_false hb
        exact kk _ _ ⟨2 * (i : Int) + 1, 2 * (i : Int) + 2, S, _, _, _, rfl, sS, hS, S8, .inl ⟨by omega, .inl rfl⟩, .inl ⟨by omega, .inr rfl⟩⟩
      clear S8 sS hS
      rintro _ H9 ⟨a, b, S, v8, v9, v10, rfl, s9, S7, S9, eab, eba⟩
      have d9 := d7.same s9
      have L9 := s9 _ _ L7
      refine ⟨_, rfl, .inl ⟨rfl, _, SqL.mk L9⟩, _, rfl, D, C, n6, 2, rfl, d9, by decide, by decide, by omega, fun r HA hr dA sA => ⟨_, _, rfl, rfl, _, rfl, ?_⟩⟩
      obtain ⟨hSD, hSC⟩ := d7.neD S7
      have SA := sA _ _ S9 hSD hSC
      have LA := sA _ _ L9 hLD hLC
      have tA := (t7.same s9).trans sA
      have tdA := (td7.mono (TupEx.of s9)).mono (DkS.tup d9 sA)
      refine iteB3 (fun v H' => ∃ (S' : Addr) (x : Int × Int), v = .ref S' ∧ Same HA H' ∧ H' S' = some (.lst [.int x.1, .int x.2]) ∧ SM.evP m wd i x) (fun hb kk => ?_) (fun hb kk => ?_) ?_
      · exact ⟨_, rfl, kk _ _ ⟨S, (a, b), rfl, fun _ _ e => e, SA, eab⟩⟩
      · exact ⟨_, rfl, S, _, rfl, SqL.mk SA, fun q hq => kk _ _ ⟨q, (b, a), rfl, Ser.Same.new hq, upd_same, eba⟩⟩
      rintro _ HB ⟨S', x, rfl, sB, SB, ex⟩
      refine ⟨S', _, rfl, .inl ⟨SqL.mk SB, fun l hl => ?_⟩⟩
      have sl : Same HB (upd HB l (.tup [.int x.1, .int x.2])) := Ser.Same.new hl
      have Ll := sl _ _ (sB _ _ LA)
      refine ⟨L, ys, _, rfl, rfl, Ll, by have := td7.length; rw [List.length_map] at this; omega, ?_⟩
      have hlL : l ≠ L := fun z => by rw [z, sB _ _ LA] at hl; cases hl
      refine ⟨ps ++ [x], ys ++ [.ref l], n6 + 1, _, _, _, _, _, rfl, by omega, (dA.same (sB.trans sl)).upd hLD hLC, (tA.same (sB.trans sl)).put hL0, upd_same, ?_, by rw [List.length_append, lp]; rfl, fun q y hy => ?_⟩
      · rw [List.map_append]
        refine ((tdA.mono (TupEx.of (sB.trans sl))).mono (TupEx.lst Ll)).append (.one (TD.fr_mk (SqT.mk ?_)))
        rw [upd_ne hlL, upd_same]
      · by_cases hq : q < ps.length
        · rw [List.getElem?_append_left hq] at hy
          exact bp q y hy
        · have := (List.getElem?_eq_some_iff.mp hy).1
          rw [List.length_append, List.length_singleton] at this
          have e : q = i := by omega
          subst e
          rw [List.getElem?_append_right (by omega), lp, Nat.sub_self] at hy
          cases hy
          exact ex
    · rintro σ H6 ⟨ps, ys, n6, v6, v7, v8, v9, v10, rfl, hn6, d7, t7, L7, td7, lp, bp⟩
      have R0 : SM.Rd m ps := SM.even_rd (w := wd) (by omega) (by omega) lp bp
      refine ⟨_, rfl, _, rfl, D, C, n6, 6, rfl, d7, by decide, by decide, by omega, fun r1 H7 hr1 d8 s8 => ⟨_, _, rfl, rfl, _, rfl, ?_⟩⟩
      refine iteB3 (fun v H' => ∃ q : Nat, v = .int q ∧ 1 ≤ q ∧ q ≤ 6 ∧ H' = H7) (fun hb kk => kk _ _ ⟨6, rfl, by decide, by decide, rfl⟩) (fun hb kk => kk _ _ ⟨3, rfl, by decide, by decide, rfl⟩) ?_
      rintro _ _ ⟨q, rfl, hq1, hq2, rfl⟩
      refine ⟨D, C, n6 + 1, q, rfl, d8, hq1, by omega, by omega, fun r2 H8 hr2 d9 s9 => ⟨(r2 : Nat), rfl, by omega, by omega, ?_⟩⟩
      have L9 := s9 _ _ (s8 _ _ L7 hLD hLC) hLD hLC
      have td9 := (td7.mono (DkS.tup d7 s8)).mono (DkS.tup d8 s9)
      have t9 := (t7.trans s8).trans s9
      refine for_it (walk_range (lo := 0) (n := r2)) (fun i σ H' => ∃ (Tr : SM.Tree) (N : Addr) (ys : List V) (n' : Nat) (v6 v7 v8 v9 v10 v11 v12 v13 v14 : Option V), σ = [some (.ref D), some (.int m), some (.int wd), some (.int (by_ : Nat)), some (.ref N), some (.int gr), v6, v7, v8, v9, v10, v11, v12, v13, v14] ∧ n' ≤ n + 20 + i ∧ Dck D C n' H' ∧ DkS D C H0 H' ∧ H' N = some (.lst ys) ∧ N ≠ D ∧ N ≠ C ∧ TDs K H' ys (Tr.map frD) ∧ SM.Rd m Tr ∧ Tr.length = wd - 1 + i)
        ⟨ps, L, ys, n6 + 2, _, _, _, _, _, _, _, _, _, rfl, by omega, d9, t9, L9, hLD, hLC, td9, R0, lp⟩ (fun _ _ _ _ _ => trivial) ?_ ?_
      · rintro i x σ HA HB hi ⟨Tr, N, ys, nA, v6, v7, v8, v9, v10, v11, v12, v13, v14, rfl, hnA, dA, tA, NA, hND, hNC, tdA, RA, lA⟩ ⟨rfl, rfl⟩
        refine ⟨_, rfl, D, C, nA, 2, rfl, dA, by decide, by decide, by omega, fun b HC hb dB sB => ?_⟩
        have NB := sB _ _ NA hND hNC
        have tdB := tdA.mono (DkS.tup dA sB)
        have tB := tA.trans sB
        refine ⟨_, rfl, N, rfl, ⟨_, SqL.mk NB⟩, fun G hG => ?_⟩
        have hlen := tdB.length
        rw [List.length_map] at hlen
        refine lc_tdY (K := K) (walk_list (xs := ys)) (fun i => frD (SM.shp b (SM.tl Tr i), SM.shp b (SM.tr Tr i))) hG (by omega) (fun H' s => SqL.mk (s _ _ NB)) ?_ ?_
        · rintro j x HD HE k2 hj sD ⟨zs, hzs⟩ ⟨rfl, hx⟩ kk
          rw [hlen] at hj
          obtain ⟨v, hv, tv⟩ := tdB.get (i := j) (d := frD (SM.tl Tr j, SM.tr Tr j)) (by rw [List.getElem?_map, SM.tree_at hj]; rfl)
          rw [hx] at hv
          cases hv
          obtain ⟨q, rfl, hqs⟩ := tv.fr
          refine ⟨rfl, _, rfl, q, rfl, ⟨_, Ser.Same.sqT sD hqs⟩, fun G2 hG2 => ?_⟩
          refine lc_tdY (K := K) (walk_tup (xs := [V.int (SM.tl Tr j), V.int (SM.tr Tr j)])) (fun t => .int (SM.shp b (if t = 0 then SM.tl Tr j else SM.tr Tr j))) hG2 (by show 2 < 100000; decide) (fun H' s => Ser.Same.sqT (sD.trans s) hqs) ?_ ?_
          · rintro t x HF HG k3 ht sF _ ⟨rfl, hx⟩ kk2
            have key : ∃ p : Int, x = .int p ∧ p = (if t = 0 then SM.tl Tr j else SM.tr Tr j) := by
              match t, ht, hx with
              | 0, _, hx => exact ⟨_, (Option.some.inj hx).symm, rfl⟩
              | 1, _, hx => exact ⟨_, (Option.some.inj hx).symm, rfl⟩
            obtain ⟨p, rfl, ep⟩ := key
            rw [← ep] at kk2
            have fin : ∀ c : Int, c = SM.shp b p → k3 (.int c) HG := fun c ec => kk2 _ _ (fun _ _ e => e) (by rw [ec]; exact .int _)
            refine ⟨rfl, _, rfl, _, _, rfl, rfl, _, rfl, iteB2 (fun h1 => ?_) (fun h1 => ?_)⟩
            · have h1 : p < 0 := of_decide_eq_true h1
              exact ⟨_, rfl, fin _ (by unfold SM.shp; rw [if_pos h1])⟩
            · have h1 : ¬ p < 0 := of_decide_eq_false h1
              refine ⟨_, rfl, _, _, rfl, rfl, _, rfl, iteB2 (fun h2 => ?_) (fun h2 => ?_)⟩
              · have h2 : p = 0 := of_decide_eq_true h2
                exact ⟨_, rfl, fin _ (by unfold SM.shp; rw [if_neg h1, if_pos h2])⟩
              · have h2 : ¬ p = 0 := of_decide_eq_false h2
                exact ⟨_, rfl, _, _, rfl, rfl, fin _ (by unfold SM.shp; rw [if_neg h1, if_neg h2])⟩
          · intro ys2 HF sF hyF t2
            refine ⟨G2, ys2, rfl, .inl ⟨SqL.mk hyF, fun l hl => ?_⟩⟩
            have s5 : Same HF (upd HF l (.tup ys2)) := Ser.Same.new hl
            exact kk _ _ (sF.trans s5) (.tup (SqT.mk upd_same) (t2.mono (TupEx.of s5)))
        · intro ys2 HD sD hyD t2
          have et : ((List.range ys.length).map fun i => frD (SM.shp b (SM.tl Tr i), SM.shp b (SM.tr Tr i))) = (Tr.map fun x => (SM.shp b x.1, SM.shp b x.2)).map frD := by
            rw [hlen, List.map_map]
            refine List.ext_getElem (by simp) fun i h1 h2 => ?_
            have hi : i < Tr.length := by simpa using h1
            have e := SM.tree_at hi
            rw [List.getElem?_eq_getElem hi] at e
            simp [Option.some.inj e]
          rw [et] at t2
          refine ⟨(by show 2 ≤ sizeLine; omega), fun tp htp => ⟨(by show 1 ≤ sizeLine; omega), fun l hl => ?_⟩⟩
          have s1' : Same HD (upd HD tp (.tup [.int 1, .int 1])) := Ser.Same.new htp
          have s2' : Same (upd HD tp (.tup [.int 1, .int 1])) (upd (upd HD tp (.tup [.int 1, .int 1])) l (.lst [.ref tp])) := Ser.Same.new hl
          have htp2 := s2' _ _ (upd_same : (upd HD tp (.tup [.int 1, .int 1])) tp = _)
          have G3 := (s1'.trans s2') _ _ hyD
          have sX := (sD.trans s1').trans s2'
          have dX := dB.same sX
          have tX := tB.same sX
          have t3 := t2.mono (TupEx.of (s1'.trans s2'))
          have l3 : (upd (upd HD tp (.tup [.int 1, .int 1])) l (.lst [.ref tp])) l = some (.lst [.ref tp]) := upd_same
          generalize upd (upd HD tp (.tup [V.int 1, V.int 1])) l (.lst [V.ref tp]) = HE at s2' htp2 G3 sX dX tX t3 l3 ⊢
          have hl2 := t3.length
          rw [List.length_map, List.length_map] at hl2
          refine ⟨_, rfl, l, G, _, _, rfl, rfl, l3, G3, (by show 1 + ys2.length ≤ sizeLine; omega), fun N2 hN2 => ?_⟩
          obtain ⟨hN2D, hN2C⟩ := dX.neD hN2
          have s4 : Same HE (upd HE N2 (.lst ([.ref tp] ++ ys2))) := Ser.Same.new hN2
          refine ⟨SM.stk b Tr, N2, _, nA + 1, _, _, _, _, _, _, _, _, _, rfl, by omega, dX.same s4, tX.same s4, upd_same, hN2D, hN2C, ?_, SM.stk_rd (by omega) RA, by rw [SM.stk_len]; omega⟩
          exact .cons (TD.fr_mk (x := (1, 1)) (SqT.mk (s4 _ _ htp2))) (t3.mono (TupEx.of s4))
      · rintro σ HA ⟨Tr, N, ys, nA, v6, v7, v8, v9, v10, v11, v12, v13, v14, rfl, hnA, dA, tA, NA, hND, hNC, tdA, RA, lA⟩
        refine ⟨_, rfl, N, _, rfl, .inl ⟨SqL.mk NA, fun l hl => ?_⟩⟩
        have s4 : Same HA (upd HA l (.tup ys)) := Ser.Same.new hl
        exact k _ _ nA Tr (by omega) (dA.same s4) (tA.same s4) (.tup (SqT.mk upd_same) (tdA.mono (TupEx.of s4))) ⟨⟨RA.ok, RA.ro, by omega, by omega, by omega⟩, by omega⟩
end
end Ser
end
section
set_option exponentiation.threshold 600
set_option maxRecDepth 100000
set_option maxHeartbeats 4000000
namespace Ser
open PySem L2
section
variable {P : Program} {w : World} {K : PySem.W.Frag} {mg : Str → Option Value} {base : Heap} {aN aW : Addr}
/-! ### is_ends -/
structure Fs (x : Int × Int) : Prop where
  pos : 0 < x.2
  red : SM.fr x.1 x.2 = x
  s1 : Sz 500 x.1
  s2 : Sz 500 x.2
theorem Fs.frc {x : Int × Int} (h : Fs x) : Frc x := ⟨h.pos, h.red, h.s2.mono (by decide)⟩
theorem fs_fr {p q : Int} (hq : 0 < q) (h1 : Sz 500 p) (h2 : Sz 500 q) : Fs (SM.fr p q) := by
  obtain ⟨a, b⟩ := SM.fr_natAbs (p := p) hq
  exact ⟨SM.fr_pos hq, SM.fr_fr hq, Nat.lt_of_le_of_lt a h1, Nat.lt_of_le_of_lt b h2⟩
theorem fs_sh {m : Nat} {T : SM.Tree} (V0 : Va m T) (hL : AllLive T) (t x : Nat) : Fs (SM.shF m T t x) :=
  fs_fr (SM.dT_pos hL) (SM.small_of V0.le (SM.ee_abs V0.le (SM.cc_abs m T) t (T.length + x))) (SM.D_small (k := T.length) V0.le (SM.cc_abs m T))
theorem fs_mn {m : Nat} {T : SM.Tree} (V0 : Va m T) (hL : AllLive T) (t : Nat) : Fs (SM.mnF m T t) :=
  fs_fr (SM.dT_pos hL) (SM.small_of V0.le (SM.ee_abs V0.le (SM.cc_abs m T) t (T.length + m))) (SM.D_small (k := T.length) V0.le (SM.cc_abs m T))
theorem fs_ind (p : Prop) [Decidable p] : Fs (SM.ind p, 1) := by
  have h : SM.ind p = 0 ∨ SM.ind p = 1 := by unfold SM.ind; split <;> simp
  refine ⟨(by decide : (0 : Int) < 1), SM.fr_self (by simp), ?_, (by unfold Sz; decide : Sz 500 1)⟩
  show Sz 500 (SM.ind p)
  rcases h with h | h <;> rw [h] <;> unfold Sz <;> decide
theorem fs_pl {m : Nat} {T : SM.Tree} (V0 : Va m T) (hL : AllLive T) (p : Int) (x : Nat) : Fs (SM.plF m T p x) := by
  unfold SM.plF
  split
  · exact fs_sh V0 hL _ _
  · exact fs_ind _
theorem fs_pm {m : Nat} {T : SM.Tree} (V0 : Va m T) (hL : AllLive T) (p : Int) : Fs (SM.pmF m T p) := by
  unfold SM.pmF
  split
  · exact fs_mn V0 hL _
  · exact ⟨by decide, by decide, by unfold Sz; decide, by unfold Sz; decide⟩
theorem walk_zipT {a b : Addr} {xs ys : List V} {n : Nat} (hn : n = min xs.length ys.length) : Walk (RZ.ItzT K a b) n (fun H => SqT K H a xs ∧ SqT K H b ys) (YPair (fun i => xs[i]?) (fun i => ys[i]?)) where
  goes i H hi q := ⟨xs, ys, xs[i]'(by omega), ys[i]'(by omega), q.1, q.2, List.getElem?_eq_getElem _, List.getElem?_eq_getElem _⟩
  stops H q := ⟨xs, ys, q.1, q.2, by omega⟩
  yields i H v H' _ q := fun ⟨p, x, y, e1, e2, e3, fx, fy⟩ => ⟨p, x, y, e1, e2, e3, fx xs q.1, fy ys q.2⟩
/-- a comprehension whose test holds of none -/
theorem lc_none {J : It} {n : Nat} {G : Hp → Prop} {Y : Nat → Hp → V → Hp → Prop} (w : Walk J n G Y) {g : TG} {tt : TT} {te : TE} {vs : List Nat} {σ : L2.St} {H1 : Hp} {D : Addr} {Qd : Hp → Prop} (hD : H1 D = none) (hn : n < 100000)
    (hG : ∀ H, Same H1 H → G H)
    (hs : ∀ i x H H' (k : V → Hp → Prop) (els : Hp → Prop), i < n → Same H1 H → Y i H x H' → (∀ H4, Same H H4 → els H4) →
      g x (wipe σ vs) H' fun σ2 H2 => wipe σ2 vs = wipe σ vs ∧ tt σ2 H2 fun b H3 => if b = true then te σ2 H3 k else els H3)
    (hd : ∀ H, Same H1 H → H D = some (.lst []) → Qd H) :
    ∃ W : Nat → Nat → Hp → Prop, (∃ m, W 0 m (upd H1 D (.lst []))) ∧ ∀ i m H, W i m H →
      (J.stop i H ∧ Qd H) ∨ (J.go i H ∧ ∃ Nx : Hp → Prop, (∀ H', Nx H' → ∃ m', m' < m ∧ W (i + 1) m' H') ∧ ∀ x H', J.yld i H x H' → g x (wipe σ vs) H' fun σ2 H2 => wipe σ2 vs = wipe σ vs ∧ tt σ2 H2 fun b H3 =>
        if b = true then te σ2 H3 fun y H4 => ∃ acc, H4 D = some (.lst acc) ∧ acc.length < sizeLine ∧ Nx (upd H4 D (.lst (acc ++ [y]))) else Nx H3) :=
  lc_gen w (fun _ => false) (fun _ _ _ => True) hD hn hG (fun _ _ _ _ _ _ _ _ _ _ => trivial) (fun i x H H' k els hi s _ y _ h0 => hs i x H H' k els hi s y (h0 rfl)) fun ys H s hy al => by
    have hys : ys = [] := by
      have := al.len
      rw [List.filter_eq_nil_iff.mpr (fun _ _ => by decide)] at this
      exact List.length_eq_zero_iff.mp this.symm
    rw [hys] at hy
    exact hd H s hy
theorem eqv_frs : ∀ {fs gs : List (Int × Int)}, PyData.eqvAll (fs.map frD) (gs.map frD) = decide (fs = gs)
  | [], [] => rfl
  | [], _ :: _ => rfl
  | _ :: _, [] => rfl
  | x :: xs, y :: ys => by
    show (PyData.eqv (frD x) (frD y) && PyData.eqvAll (xs.map frD) (ys.map frD)) = _
    rw [eqv_frs, eqv_fr]
    by_cases e : x = y <;> simp [e]
theorem shaped_frs (fs : List (Int × Int)) : SeqAt.shaped (.tuple (fs.map frD)) = true := (Shp.tuple (n := 1) fun d hd => by
  obtain ⟨x, _, rfl⟩ := List.mem_map.mp hd
  exact .fr x).ok (by decide)
theorem tds_two {K : PySem.W.Frag} {H : Hp} {ys : List V} {d e : PyData} (t : TDs K H ys [d, e]) : ∃ a b, ys = [a, b] ∧ TD K H a d ∧ TD K H b e := by
  cases t with
  | cons h1 r =>
    cases r with
    | cons h2 r =>
      cases r
      exact ⟨_, _, rfl, h1, h2⟩
def frsD (m : Nat) (g : Nat → Int × Int) : PyData := .tuple ((List.range m).map fun x => frD (g x))
theorem frsD_eq (m : Nat) (g : Nat → Int × Int) : frsD m g = .tuple (((List.range m).map g).map frD) := by unfold frsD; rw [List.map_map]; rfl
theorem frsD_congr {m : Nat} {g h : Nat → Int × Int} (e : ∀ x, x < m → g x = h x) : frsD m g = frsD m h := by
  rw [frsD_eq, frsD_eq]
  congr 2
  exact List.map_congr_left fun x hx => e x (List.mem_range.mp hx)
theorem frsD_self (m : Nat) (g : Nat → Int × Int) : PyData.eqv (frsD m g) (frsD m g) = true := by
  rw [frsD_eq]
  exact eqv_frs.trans (decide_eq_true rfl)
theorem frsD_shaped (m : Nat) (g : Nat → Int × Int) : SeqAt.shaped (frsD m g) = true := by rw [frsD_eq]; exact shaped_frs _
abbrev sLIsEnds : Stmt := top 56
def NLIsEnds : List Str := ["_law_much", "_law_nodes", "_law_rows", "_law_means", "_law_row", "_law_x", "_law_k", "_law_node", "_law_near", "_law_far", "_law_it", "_law_y", "_law_times_now", "_law_half_here"]
theorem scLIsEnds : FnScope NLIsEnds ["_law_much", "_law_nodes", "_law_rows", "_law_means"] (defScope sLIsEnds) := ⟨rfl, rfl, rfl, by decide +kernel, rfl, by decide +kernel, by decide +kernel⟩
def rowsD (m : Nat) (T : SM.Tree) : PyData := .tuple ((List.range T.length).map (rowD m T))
def mnsD (m : Nat) (T : SM.Tree) : PyData := .tuple ((List.range T.length).map fun t => frD (SM.mnF m T t))
def spLIsEnds (K : PySem.W.Frag) : Sp := fun vs H Q _ => ∃ (vN vR vM : V) (T : SM.Tree) (m : Nat), vs = [.int m, vN, vR, vM] ∧ TD K H vN (trD T) ∧ TD K H vR (rowsD m T) ∧ TD K H vM (mnsD m T) ∧ Va m T ∧ AllLive T ∧ ∀ H', Same H H' → Q (.bl true) H'
theorem ok_l_is_ends {f f1 f2 f3 f4 : Addr} {fd fd1 fd2 fd3 fd4 : FuncData} (F : FnP K "_law_is_ends" sLIsEnds f fd) (T : Tx K mg aN aW) (G__law_is_fraction : Def P w K mg base CX0 "_law_is_fraction" 2 ["_law_it"] (spLIsFraction K) f1 fd1)
    (G__law_row_of : Def P w K mg base CX0 "_law_row_of" 1 ["_law_much", "_law_rows", "_law_it"] (spLRowOf K) f2 fd2) (G__law_half : Def P w K mg base CX0 "_law_half" 2 ["_law_x", "_law_y"] (spLHalf K) f3 fd3)
    (G__law_ratio : Def P w K mg base CX0 "_law_ratio" 1 ["_law_top", "_law_bottom"] (spLRatio K) f4 fd4) : FnOk P w K mg base CX0 3 f fd ["_law_much", "_law_nodes", "_law_rows", "_law_means"] (spLIsEnds K) := by
  refine F.ok scLIsEnds (fun vs H Q E h => ?_) (fun cdv A outer s H vs Q E hr h => ?_)
  · obtain ⟨_, _, _, _, _, rfl, _⟩ := h
    rfl
  · obtain ⟨vN, vR, vM, Tr, m, rfl, tN, tR, tM, V0, hL, k⟩ := h
    refine ⟨_, PSs.nox <| (pss_cons (ps_if (PW.pt (pw_or (pt_not (pt_val (pe_callB (oIsi K) (by rfl) T.isinstance_ (by decide +kernel) (pa_cons (pv 2) (pa_cons (pe_bltn (v := .ty "tuple") (u := .type "tuple") (by rfl) T.tuple_ (by decide +kernel) rfl) pa_nil))))) (pw_or1 (pt_cmp (pc_neI (pe_callB (cLen K) (by rfl) T.len_ (by decide +kernel) (pa_cons (pv 2) pa_nil)) (pe_callB (cLen K) (by rfl) T.len_ (by decide +kernel) (pa_cons (pv 1) pa_nil))))))) (pss_one (ps_ret pe_bl)) pss_nil)
      (pss_cons (ps_if (PW.pt (pw_or (pt_not (pt_val (pe_callB (oIsi K) (by rfl) T.isinstance_ (by decide +kernel) (pa_cons (pv 3) (pa_cons (pe_bltn (v := .ty "tuple") (u := .type "tuple") (by rfl) T.tuple_ (by decide +kernel) rfl) pa_nil))))) (pw_or1 (pt_cmp (pc_neI (pe_callB (cLen K) (by rfl) T.len_ (by decide +kernel) (pa_cons (pv 3) pa_nil)) (pe_callB (cLen K) (by rfl) T.len_ (by decide +kernel) (pa_cons (pv 1) pa_nil))))))) (pss_one (ps_ret pe_bl)) pss_nil)
      (pss_cons (ps_for PassesOwn.never rfl (piT K (pv 2)) (pg_name (i := 4) scLIsEnds.nd rfl (lc_ rfl)) (pss_one (ps_if (PW.pt (pw_or (pt_not (pt_val (pe_callB (oIsi K) (by rfl) T.isinstance_ (by decide +kernel) (pa_cons (pv 4) (pa_cons (pe_bltn (v := .ty "tuple") (u := .type "tuple") (by rfl) T.tuple_ (by decide +kernel) rfl) pa_nil))))) (pw_or (pt_cmp (pc_neI (pe_callB (cLen K) (by rfl) T.len_ (by decide +kernel) (pa_cons (pv 4) pa_nil)) (pv 0))) (pw_or1 (pt_cmpR (oNeD K hr.units) (pe_lc (own := [("_law_x", 5)]) (g := (gName 5)) (by rfl) scLIsEnds.nd (piT K (pv 4)) (blkOk_by (N := NLIsEnds) (sc := defScope sLIsEnds) (by decide +kernel)) (fun _ _ _ _ _ => (pg_name (i := 5) scLIsEnds.nd rfl (lc_ rfl))) (fun _ _ _ _ _ => (pts_one (pt_not (pt_val (dcall G__law_is_fraction (hr.mono (by decide)) (pa_cons (pv 5) pa_nil)))))) (fun _ _ _ _ _ => (pv 5))) (pe_lst pa_nil) (nomark _)))))) (pss_one (ps_ret pe_bl)) pss_nil)))
      (pss_cons (ps_if (pt_cmpR (oNeD K hr.units) (pe_lc (own := [("_law_x", 5)]) (g := (gName 5)) (by rfl) scLIsEnds.nd (piT K (pv 3)) (blkOk_by (N := NLIsEnds) (sc := defScope sLIsEnds) (by decide +kernel)) (fun _ _ _ _ _ => (pg_name (i := 5) scLIsEnds.nd rfl (lc_ rfl))) (fun _ _ _ _ _ => (pts_one (pt_not (pt_val (dcall G__law_is_fraction (hr.mono (by decide)) (pa_cons (pv 5) pa_nil)))))) (fun _ _ _ _ _ => (pv 5))) (pe_lst pa_nil) (nomark _)) (pss_one (ps_ret pe_bl)) pss_nil)
      (pss_cons (ps_for PassesOwn.never rfl (piEnumT K (by rfl) T.enumerate_ (pa_cons (pv 1) pa_nil)) (gTup' K (pgs_cons (pg_name (i := 6) scLIsEnds.nd rfl (lc_ rfl)) (pgs_cons (pg_name (i := 7) scLIsEnds.nd rfl (lc_ rfl)) pgs_nil))) (pss_cons (ps_asg (pe_lc (own := [("_law_it", 10)]) (g := (gName 10)) (tt := tYes) (by rfl) scLIsEnds.nd (piT K (pv 7)) (blkOk_by (N := NLIsEnds) (sc := defScope sLIsEnds) (by decide +kernel)) (fun _ _ _ _ _ => (pg_name (i := 10) scLIsEnds.nd rfl (lc_ rfl))) (fun _ _ _ _ _ => pts_nil) (fun _ _ _ _ _ => (dcall G__law_row_of (hr.mono (by decide)) (pa_cons (pv 0) (pa_cons (pv 2) (pa_cons (pv 10) pa_nil)))))) (gUnl' K (pgs_cons (pg_name (i := 8) scLIsEnds.nd rfl (lc_ rfl)) (pgs_cons (pg_name (i := 9) scLIsEnds.nd rfl (lc_ rfl)) pgs_nil))))
      (pss_cons (ps_if (pt_cmpR (oNeD K hr.units) (pe_ix (ixT K) (pv 2) (pv 6) (fun _ _ => rfl)) (pe_callTy (cTuple K) (by rfl) T.tuple_ (by decide +kernel) (pa_cons (pe_lc (own := [("_law_x", 5), ("_law_y", 11)]) (g := (gTup K 2 (gCons (gName 5) (gCons (gName 11) gNil)))) (tt := tYes) (by rfl) scLIsEnds.nd (piZipA K (by rfl) T.zip_ (pa_cons (pv 8) (pa_cons (pv 9) pa_nil))) (blkOk_by (N := NLIsEnds) (sc := defScope sLIsEnds) (by decide +kernel)) (fun _ _ _ _ _ => (gTup' K (pgs_cons (pg_name (i := 5) scLIsEnds.nd rfl (lc_ rfl)) (pgs_cons (pg_name (i := 11) scLIsEnds.nd rfl (lc_ rfl)) pgs_nil)))) (fun _ _ _ _ _ => pts_nil) (fun _ _ _ _ _ => (dcall G__law_half (hr.mono (by decide)) (pa_cons (pv 5) (pa_cons (pv 11) pa_nil))))) pa_nil)) (nomark _)) (pss_one (ps_ret pe_bl)) pss_nil)
      (pss_cons (ps_setLc (i := 12) (own := [("_law_it", 10)]) (g := (gName 10)) (tt := tYes) (by rfl) scLIsEnds.nd rfl rfl (sw_true rfl rfl rfl (by decide +kernel)) (piT K (pv 7)) (blkOk_by (N := NLIsEnds) (sc := defScope sLIsEnds) (by decide +kernel)) (fun _ _ _ _ _ => (pg_name (i := 10) scLIsEnds.nd rfl (lc_ rfl))) (fun _ _ _ _ _ => pts_nil) (fun _ _ _ _ _ => (pe_ifExp (pt_cmp (pc_ge (pv 10) pe_int)) (pe_ix (ixT K) (pv 3) (pv 10) (fun _ _ => rfl)) (pe_tup (pa_cons pe_int (pa_cons pe_int pa_nil))))))
      (pss_cons (ps_set (i := 13) scLIsEnds.nd rfl (lc_ rfl) (dcall G__law_half (hr.mono (by decide)) (pa_cons (pe_ix (ixL K) (pv 12) pe_int (fun _ _ => rfl)) (pa_cons (pe_ix (ixL K) (pv 12) pe_int (fun _ _ => rfl)) pa_nil))))
      (pss_one (ps_if (pt_cmpR (oNeD K hr.units) (pe_ix (ixT K) (pv 3) (pv 6) (fun _ _ => rfl)) (dcall G__law_ratio (hr.mono (by decide)) (pa_cons (pe_op op_add (pe_ix (ixT K) (pv 13) pe_int (fun _ _ => rfl)) (pe_ix (ixT K) (pv 13) pe_int (fun _ _ => rfl))) (pa_cons (pe_ix (ixT K) (pv 13) pe_int (fun _ _ => rfl)) pa_nil))) (nomark _)) (pss_one (ps_ret pe_bl)) pss_nil)))))))
      (pss_one (ps_ret pe_bl))))))), ?_⟩
    have q0 : (100000 : Nat) ≤ sizeLine := by decide
    obtain ⟨aN, xsN, rfl, hN, lN, eN⟩ := tree_td tN
    obtain ⟨aR, xsR, rfl, hR, tdR⟩ := tR.tuple
    obtain ⟨aM, xsM, rfl, hM, tdM⟩ := tM.tuple
    have O := V0.ok
    have lR : xsR.length = Tr.length := by rw [tdR.length, List.length_map, List.length_range]
    have lM : xsM.length = Tr.length := by rw [tdM.length, List.length_map, List.length_range]
    have l60 := V0.le
    have m12 := V0.m12
    have hrow : ∀ t, t < Tr.length → ∃ q fs, xsR[t]? = some (.ref q) ∧ SqT K H q fs ∧ TDs K H fs ((List.range m).map fun x => frD (SM.shF m Tr t x)) := fun t ht => by
      obtain ⟨v, h1, h2⟩ := tdR.get (i := t) (d := rowD m Tr t) (by rw [List.getElem?_map, List.getElem?_range ht]; rfl)
      obtain ⟨q, fs, rfl, h3, h4⟩ := h2.tuple
      exact ⟨q, fs, h1, h3, h4⟩
    have hmn : ∀ t, t < Tr.length → ∃ v, xsM[t]? = some v ∧ TD K H v (frD (SM.mnF m Tr t)) := fun t ht => tdM.get (i := t) (by rw [List.getElem?_map, List.getElem?_range ht]; rfl)
    -- the looks
    refine ⟨_, rfl, _, _, _, _, true, rfl, .ty _, sqt_ty hR, kit_tt, _, rfl, iteBF rfl ⟨_, rfl, aR, _, rfl, .inr hR, _, rfl, aN, _, rfl, .inr hN, _, _, rfl, rfl, _, rfl, iteBF ?_ ?_⟩⟩
    · show (!decide ((xsR.length : Int) = (xsN.length : Int))) = false
      rw [lR, lN, decide_eq_true rfl]; rfl
    refine ⟨_, rfl, _, _, _, _, true, rfl, .ty _, sqt_ty hM, kit_tt, _, rfl, iteBF rfl ⟨_, rfl, aM, _, rfl, .inr hM, _, rfl, aN, _, rfl, .inr hN, _, _, rfl, rfl, _, rfl, iteBF ?_ ?_⟩⟩
    · show (!decide ((xsM.length : Int) = (xsN.length : Int))) = false
      rw [lM, lN, decide_eq_true rfl]; rfl
    refine ⟨_, rfl, aR, rfl, ⟨_, hR⟩, ?_⟩
    refine for_it (walk_tup (xs := xsR)) (fun i σ H' => ∃ v4 : Option V, σ = [some (.int m), some (.ref aN), some (.ref aR), some (.ref aM), v4, none, none, none, none, none, none, none, none, none] ∧ Same H H') ⟨none, rfl, fun _ _ e => e⟩ (fun i σ H' _ ⟨_, _, s⟩ => Ser.Same.sqT s hR) ?_ ?_
    · rintro i x σ H1 H2 hi ⟨v4, rfl, s1⟩ ⟨rfl, hx⟩
      obtain ⟨q, fs, h1, h2, h3⟩ := hrow i (by omega)
      rw [h1] at hx
      cases hx
      have h2' := Ser.Same.sqT s1 h2
      have h3' := h3.mono (TupEx.of s1)
      have lf : fs.length = m := by rw [h3.length, List.length_map, List.length_range]
      refine ⟨_, rfl, _, _, _, _, true, rfl, .ty _, sqt_ty h2', kit_tt, _, rfl, iteBF rfl ⟨_, rfl, q, _, rfl, .inr h2', _, rfl, _, _, rfl, rfl, _, rfl, iteBF ?_ ?_⟩⟩
      · show (!decide ((fs.length : Int) = (m : Int))) = false
        rw [lf, decide_eq_true rfl]; rfl
      refine ⟨_, rfl, q, rfl, ⟨_, h2'⟩, fun D hD => ?_⟩
      refine lc_none (walk_tup (xs := fs)) hD (by omega) (fun H' s => Ser.Same.sqT s h2') ?_ ?_
      · rintro j y H3 H4 k2 els hj s3 ⟨rfl, hy⟩ kn
        obtain ⟨v, hv, tv⟩ := h3'.get (i := j) (d := frD (SM.shF m Tr i j)) (by rw [List.getElem?_map, List.getElem?_range (by omega)]; rfl)
        rw [hy] at hv
        cases hv
        exact ⟨rfl, _, rfl, _, _, rfl, tv.mono (TupEx.of s3), (fs_sh V0 hL i j).frc, fun H5 s5 => ⟨_, rfl, iteBF rfl (kn _ s5)⟩⟩
      · intro H3 s3 hy
        refine ⟨(by show 0 ≤ sizeLine; omega), fun q2 hq2 => ?_⟩
        have s4 : Same H3 (upd H3 q2 (.lst [])) := Ser.Same.new hq2
        refine ⟨.list [], .list [], .lst (SqL.mk (s4 _ _ hy)) .nil, .lst (SqL.mk upd_same) .nil, rfl, rfl, _, rfl, iteBF rfl ?_⟩
        exact ⟨_, rfl, (s1.trans s3).trans s4⟩
    rintro σ H1 ⟨v4, rfl, s1⟩
    have hM1 := Ser.Same.sqT s1 hM
    refine ⟨_, rfl, aM, rfl, ⟨_, hM1⟩, fun D hD => ?_⟩
    refine lc_none (walk_tup (xs := xsM)) hD (by omega) (fun H' s => Ser.Same.sqT s hM1) ?_ ?_
    · rintro j y H3 H4 k2 els hj s3 ⟨rfl, hy⟩ kn
      obtain ⟨v, hv, tv⟩ := hmn j (by omega)
      rw [hy] at hv
      cases hv
      exact ⟨rfl, _, rfl, _, _, rfl, tv.mono (TupEx.of (s1.trans s3)), (fs_mn V0 hL j).frc, fun H5 s5 => ⟨_, rfl, iteBF rfl (kn _ s5)⟩⟩
    intro H3 s3 hy
    refine ⟨(by show 0 ≤ sizeLine; omega), fun q2 hq2 => ?_⟩
    have s4 : Same H3 (upd H3 q2 (.lst [])) := Ser.Same.new hq2
    refine ⟨.list [], .list [], .lst (SqL.mk (s4 _ _ hy)) .nil, .lst (SqL.mk upd_same) .nil, rfl, rfl, _, rfl, iteBF rfl ?_⟩
    have s5 := (s1.trans s3).trans s4
    generalize upd H3 q2 (.lst []) = H4 at s5 ⊢
    clear s4 hq2 hy s3 hD hM1 s1
    -- the nodes
    refine ⟨_, rfl, aN, xsN, rfl, Ser.Same.sqT s5 hN, ?_⟩
    refine for_it (walk_pr (n := xsN.length)) (fun i σ H' => ∃ v6 v7 v8 v9 v10 v11 v12 v13 : Option V, σ = [some (.int m), some (.ref aN), some (.ref aR), some (.ref aM), v4, none, v6, v7, v8, v9, v10, v11, v12, v13] ∧ Same H H') ⟨_, _, _, _, _, _, _, _, rfl, s5⟩ (fun i σ H' _ ⟨_, _, _, _, _, _, _, _, _, s⟩ => Ser.Same.sqT s hN) ?_ ?_
    · rintro i x σ H5 H6 hi ⟨v6, v7, v8, v9, v10, v11, v12, v13, rfl, s6⟩ ⟨z, x1, x2, rfl, hz, rfl, hx1, hx2⟩
      have hi' : i < Tr.length := by omega
      obtain ⟨q, hq, hqs⟩ := eN i hi'
      cases hx1
      have hx2' : xsN[i]? = some x2 := hx2
      rw [hq] at hx2'
      cases hx2'
      refine ⟨z, _, rfl, SqT.mk upd_same, rfl, _, _, rfl, _, _, rfl, rfl, ?_⟩
      have s7 : Same H5 (upd H5 z (.tup [.int (i : Nat), .ref q])) := Ser.Same.new hz
      have s67 := s6.trans s7
      generalize upd H5 z (.tup [V.int (i : Nat), V.ref q]) = H6 at s7 s67 ⊢
      have hqs6 := Ser.Same.sqT s67 hqs
      have two : ∀ t, t < 2 → ∀ y, ([V.int (SM.tl Tr i), V.int (SM.tr Tr i)] : List V)[t]? = some y → ∃ p : Int, y = .int p ∧ p = (if t = 0 then SM.tl Tr i else SM.tr Tr i) ∧ -(m : Int) ≤ p ∧ p < Tr.length := fun t ht y hy => by
        match t, ht, hy with
        | 0, _, hy => exact ⟨_, (Option.some.inj hy).symm, rfl, O.rl i hi'⟩
        | 1, _, hy => exact ⟨_, (Option.some.inj hy).symm, rfl, O.rr i hi'⟩
      -- the rows of both sides
      refine ⟨_, rfl, q, rfl, ⟨_, hqs6⟩, fun D1 hD1 => ?_⟩
      refine lc_tdY (K := K) (walk_tup (xs := [V.int (SM.tl Tr i), V.int (SM.tr Tr i)])) (fun t => frsD m (SM.plF m Tr (if t = 0 then SM.tl Tr i else SM.tr Tr i))) hD1 (by show 2 < 100000; decide) (fun H' s => Ser.Same.sqT s hqs6) ?_ ?_
      · rintro t x H7 H8 k2 ht s8 _ ⟨rfl, hx⟩ kk
        obtain ⟨p, rfl, ep, p1, p2⟩ := two t ht x hx
        rw [← ep] at kk
        refine ⟨rfl, _, rfl, _, rfl, _, rfl, aR, xsR, m, p, rfl, Ser.Same.sqT (s67.trans s8) hR, by omega, fun x ex => ?_, fun x ex v H9 s9 tv => kk _ _ s9 ?_⟩
        · obtain ⟨v, h1, h2⟩ := tdR.get (i := x) (d := rowD m Tr x) (by rw [List.getElem?_map, List.getElem?_range (by omega)]; rfl)
          refine ⟨v, h1, kk _ _ (fun _ _ e => e) ?_⟩
          have e : frsD m (SM.plF m Tr p) = rowD m Tr x := by
            refine frsD_congr (h := fun y => SM.shF m Tr x y) fun y _ => ?_
            unfold SM.plF
            rw [ex, if_pos (by omega), Int.toNat_natCast]
          rw [e]
          exact h2.mono (TupEx.of (s67.trans s8))
        · have e : frsD m (SM.plF m Tr p) = pthD m x := by
            refine frsD_congr (h := fun y => (SM.ind (y = x), 1)) fun y _ => ?_
            unfold SM.plF
            rw [ex, if_neg (by omega), show (-1 - (-1 - (x : Int))).toNat = x by omega]
          rw [e]
          exact tv
      intro ysN H7 s8 hy7 t7
      have t7' : TDs K H7 ysN [frsD m (SM.plF m Tr (SM.tl Tr i)), frsD m (SM.plF m Tr (SM.tr Tr i))] := t7
      obtain ⟨vn, vf, rfl, tn, tf⟩ := tds_two t7'
      refine ⟨D1, _, rfl, SqL.mk hy7, rfl, _, _, rfl, _, _, rfl, rfl, ?_⟩
      obtain ⟨an, ns, rfl, hn, tns⟩ := tn.tuple
      obtain ⟨af, fs, rfl, hf, tfs⟩ := tf.tuple
      have ln : ns.length = m := by rw [tns.length, List.length_map, List.length_range]
      have lf : fs.length = m := by rw [tfs.length, List.length_map, List.length_range]
      have s68 := s67.trans s8
      obtain ⟨vr, hvr, tvr⟩ := tdR.get (i := i) (d := rowD m Tr i) (by rw [List.getElem?_map, List.getElem?_range hi']; rfl)
      refine ⟨_, rfl, _, rfl, aR, xsR, i, vr, rfl, rfl, Ser.Same.sqT s68 hR, atI_nat hvr, _, rfl, _, rfl, an, af, ns, fs, rfl, .inr ⟨hn, hf, fun D2 hD2 => ?_⟩⟩
      refine lc_tdY (K := K) (walk_zipT (xs := ns) (ys := fs) (n := m) (by rw [ln, lf, Nat.min_self])) (fun x => frD (SM.half (SM.plF m Tr (SM.tl Tr i) x) (SM.plF m Tr (SM.tr Tr i) x))) hD2 (by omega) (fun H' s => ⟨Ser.Same.sqT s hn, Ser.Same.sqT s hf⟩) ?_ ?_
      · rintro t x H8 H9 k2 ht s9 _ ⟨z2, y1, y2, rfl, hz2, rfl, hy1, hy2⟩ kk
        obtain ⟨u1, g1, q1⟩ := tns.get (i := t) (d := frD (SM.plF m Tr (SM.tl Tr i) t)) (by rw [List.getElem?_map, List.getElem?_range ht]; rfl)
        obtain ⟨u2, g2, q2⟩ := tfs.get (i := t) (d := frD (SM.plF m Tr (SM.tr Tr i) t)) (by rw [List.getElem?_map, List.getElem?_range ht]; rfl)
        have hy1' : ns[t]? = some y1 := hy1
        have hy2' : fs[t]? = some y2 := hy2
        rw [g1] at hy1'
        rw [g2] at hy2'
        cases hy1'
        cases hy2'
        have sz : Same H8 (upd H8 z2 (.tup [y1, y2])) := Ser.Same.new hz2
        have f1 := fs_pl V0 hL (SM.tl Tr i) t
        have f2 := fs_pl V0 hL (SM.tr Tr i) t
        have e9 := TupEx.of (s9.trans sz)
        refine ⟨z2, _, rfl, SqT.mk upd_same, rfl, _, _, rfl, _, _, rfl, rfl, rfl, ?_⟩
        exact ⟨_, rfl, _, rfl, y1, y2, _, _, rfl, q1.mono e9, q2.mono e9, f1.pos, f2.pos, f1.s1.mono (by decide), f1.s2.mono (by decide), f2.s1.mono (by decide), f2.s2.mono (by decide), fun v HA sA tA => kk v HA (sz.trans sA) tA⟩
      intro ysH H8 s9 hy8 t8
      refine ⟨D2, ysH, rfl, .inl ⟨SqL.mk hy8, fun l hl => ?_⟩⟩
      have sl : Same H8 (upd H8 l (.tup ysH)) := Ser.Same.new hl
      have s69 := (s68.trans s9).trans sl
      have eh : frsD m (fun x => SM.half (SM.plF m Tr (SM.tl Tr i) x) (SM.plF m Tr (SM.tr Tr i) x)) = rowD m Tr i := frsD_congr (h := fun y => SM.shF m Tr i y) fun x hx => (SM.sh_eq O hL hi' hx).symm
      have th : TD K (upd H8 l (.tup ysH)) (.ref l) (rowD m Tr i) := by
        rw [← eh]
        exact .tup (SqT.mk upd_same) (t8.mono (TupEx.of sl))
      refine ⟨rowD m Tr i, rowD m Tr i, (tvr.mono (TupEx.of s69)).dp, th.dp, frsD_shaped _ _, frsD_shaped _ _, _, rfl, iteBF ?_ ?_⟩
      · show (!PyData.eqv (frsD m fun x => SM.shF m Tr i x) (frsD m fun x => SM.shF m Tr i x)) = false
        rw [frsD_self]; rfl
      clear th
      generalize upd H8 l (.tup ysH) = H9 at sl s69 ⊢
      -- the means of both sides
      have hqs9 := Ser.Same.sqT s69 hqs
      refine ⟨_, rfl, q, rfl, ⟨_, hqs9⟩, fun D3 hD3 => ?_⟩
      refine lc_tdY (K := K) (walk_tup (xs := [V.int (SM.tl Tr i), V.int (SM.tr Tr i)])) (fun t => frD (SM.pmF m Tr (if t = 0 then SM.tl Tr i else SM.tr Tr i))) hD3 (by show 2 < 100000; decide) (fun H' s => Ser.Same.sqT s hqs9) ?_ ?_
      · rintro t x HA HB k2 ht sB _ ⟨rfl, hx⟩ kk
        obtain ⟨p, rfl, ep, p1, p2⟩ := two t ht x hx
        rw [← ep] at kk
        refine ⟨rfl, _, rfl, _, _, rfl, rfl, _, rfl, iteB2 (fun hb => ?_) (fun hb => ?_)⟩
        · have hb : p ≥ 0 := of_decide_eq_true hb
          obtain ⟨x, rfl⟩ : ∃ x : Nat, p = (x : Int) := ⟨p.toNat, by omega⟩
          obtain ⟨v, h1, h2⟩ := hmn x (by omega)
          refine ⟨_, rfl, _, rfl, aM, xsM, x, v, rfl, rfl, Ser.Same.sqT (s69.trans sB) hM, atI_nat h1, kk _ _ (fun _ _ e => e) ?_⟩
          have e : SM.pmF m Tr (x : Int) = SM.mnF m Tr x := by unfold SM.pmF; rw [if_pos hb, Int.toNat_natCast]
          rw [e]
          exact h2.mono (TupEx.of (s69.trans sB))
        · have hb : ¬ p ≥ 0 := of_decide_eq_false hb
          refine ⟨(by show 2 ≤ sizeLine; omega), fun q hq => kk _ _ (Ser.Same.new hq) ?_⟩
          have e : SM.pmF m Tr p = (0, 1) := by unfold SM.pmF; rw [if_neg hb]
          rw [e]
          exact TD.fr_mk (SqT.mk upd_same)
      intro ysT HA sA hyA tA
      have tA' : TDs K HA ysT [frD (SM.pmF m Tr (SM.tl Tr i)), frD (SM.pmF m Tr (SM.tr Tr i))] := tA
      obtain ⟨vn, vf, rfl, tn, tf⟩ := tds_two tA'
      have f1 := fs_pm V0 hL (SM.tl Tr i)
      have f2 := fs_pm V0 hL (SM.tr Tr i)
      refine ⟨_, rfl, D3, _, 0, _, rfl, rfl, SqL.mk hyA, rfl, _, rfl, D3, _, 1, _, rfl, rfl, SqL.mk hyA, rfl, _, _, _, _, rfl, tn, tf, f1.pos, f2.pos, f1.s1.mono (by decide), f1.s2.mono (by decide), f2.s1.mono (by decide), f2.s2.mono (by decide), fun v HB sB tB => ?_⟩
      have em := SM.mn_eq O hL hi'
      have hh : hlf (SM.pmF m Tr (SM.tl Tr i)) (SM.pmF m Tr (SM.tr Tr i)) = SM.half (SM.pmF m Tr (SM.tl Tr i)) (SM.pmF m Tr (SM.tr Tr i)) := rfl
      have f0 : 0 < (2 : Int) * (SM.pmF m Tr (SM.tl Tr i)).2 * (SM.pmF m Tr (SM.tr Tr i)).2 := Int.mul_pos (Int.mul_pos (by decide) f1.pos) f2.pos
      have h0 : 0 < (SM.half (SM.pmF m Tr (SM.tl Tr i)) (SM.pmF m Tr (SM.tr Tr i))).2 := SM.fr_pos f0
      have hz : Sz 8000 (SM.half (SM.pmF m Tr (SM.tl Tr i)) (SM.pmF m Tr (SM.tr Tr i))).2 := by
        have z2 : Sz 2 2 := by unfold Sz; decide
        have := (SM.fr_natAbs (p := (SM.pmF m Tr (SM.tl Tr i)).1 * (SM.pmF m Tr (SM.tr Tr i)).2 + (SM.pmF m Tr (SM.tr Tr i)).1 * (SM.pmF m Tr (SM.tl Tr i)).2) f0).2
        exact Sz.mono (Nat.lt_of_le_of_lt this ((z2.mul f1.s2).mul f2.s2)) (by decide)
      rw [hh] at tB
      generalize SM.half (SM.pmF m Tr (SM.tl Tr i)) (SM.pmF m Tr (SM.tr Tr i)) = hx at em h0 hz tB
      obtain ⟨ah, rfl, hah⟩ := tB.fr
      obtain ⟨vm, hvm, tvm⟩ := hmn i hi'
      have s6B := (s69.trans sA).trans sB
      refine ⟨_, rfl, _, rfl, aM, xsM, i, vm, rfl, rfl, Ser.Same.sqT s6B hM, atI_nat hvm, ?_⟩
      refine ⟨_, rfl, ah, _, 0, _, rfl, rfl, hah, rfl, _, rfl, ah, _, 1, _, rfl, rfl, hah, rfl, _, _, rfl, rfl, _, rfl, ah, _, 1, _, rfl, rfl, hah, rfl, _, _, rfl, h0, hz, fun v HC sC tC => ?_⟩
      rw [← em] at tC
      refine ⟨_, _, (tvm.mono (TupEx.of (s6B.trans sC))).dp, tC.dp, shaped_fr, shaped_fr, _, rfl, iteBF ?_ ?_⟩
      · show (!PyData.eqv (frD (SM.mnF m Tr i)) (frD (SM.mnF m Tr i))) = false
        rw [eqv_fr, decide_eq_true rfl]; rfl
      exact ⟨_, _, _, _, _, _, _, _, rfl, s6B.trans sC⟩
    · rintro σ H5 ⟨v6, v7, v8, v9, v10, v11, v12, v13, rfl, s6⟩
      exact k _ s6
end
end Ser
end
section
set_option maxRecDepth 100000
set_option maxHeartbeats 4000000
namespace Ser
open PySem L2
section
variable {P : Program} {w : World} {K : PySem.W.Frag} {mg : Str → Option Value} {base : Heap} {aN aW : Addr}
/-! ### is_paper -/
theorem tds_three {K : PySem.W.Frag} {H : Hp} {ys : List V} {d e f : PyData} (t : TDs K H ys [d, e, f]) : ∃ a b c, ys = [a, b, c] ∧ TD K H a d ∧ TD K H b e ∧ TD K H c f := by
  cases t with
  | cons h1 r =>
    obtain ⟨b, c, rfl, h2, h3⟩ := tds_two r
    exact ⟨_, _, _, rfl, h1, h2, h3⟩
theorem wk_all {T : SM.Tree} {b t : Nat} {u : Str} (h : Wk T b u t) : ∀ c ∈ u.cps.toList, c = 48 ∨ c = 49 := by
  induction h with
  | nil => intro c hc; exact absurd hc (by decide +revert)
  | left _ _ ih =>
    intro c hc
    rw [cps_app, Array.toList_push, List.mem_append, List.mem_singleton] at hc
    exact hc.elim (ih c) .inl
  | right _ _ ih =>
    intro c hc
    rw [cps_app, Array.toList_push, List.mem_append, List.mem_singleton] at hc
    exact hc.elim (ih c) .inr
theorem wk_strOk {T : SM.Tree} {b t : Nat} {u : Str} (h : Wk T b u t) : PySem.PyData.strOk u = true := by
  unfold PySem.PyData.strOk
  rw [Array.all_eq_true']
  intro c hc
  have := wk_all h c (Array.mem_toList_iff.mpr hc)
  rw [decide_eq_true_iff]
  omega
theorem Shp.str {n : Nat} {u : Str} (h : PySem.PyData.strOk u = true) : Shp n (.str u) := ⟨h, Nat.zero_le _⟩
theorem papE_shaped {u : Str} (h : PySem.PyData.strOk u = true) : SeqAt.shaped (papE u) = true := (Shp.tuple (n := 1) fun d hd => by
  simp only [List.mem_cons, List.not_mem_nil, or_false] at hd
  rcases hd with rfl | rfl
  · exact .str (by decide +kernel)
  · exact .str h).ok (by decide)
theorem papF_shaped (m : Nat) (T : SM.Tree) : SeqAt.shaped (papF m T) = true := (Shp.tuple (n := 3) fun d hd => by
  simp only [List.mem_cons, List.not_mem_nil, or_false] at hd
  rcases hd with rfl | rfl | rfl
  · exact .str (by decide +kernel)
  · refine Shp.tuple (n := 2) fun d hd => ?_
    obtain ⟨t, _, rfl⟩ := List.mem_map.mp hd
    refine Shp.tuple (n := 1) fun d hd => ?_
    obtain ⟨x, _, rfl⟩ := List.mem_map.mp hd
    exact .fr _
  · refine (Shp.tuple (n := 1) fun d hd => ?_).mono (by decide)
    obtain ⟨x, _, rfl⟩ := List.mem_map.mp hd
    exact .fr _).ok (by decide)
theorem tw_all {g : Nat → Bool} : ∀ {l : List Nat}, (∀ c ∈ l, g c = true) → l.takeWhile g = l
  | [], _ => rfl
  | x :: l, h => by rw [List.takeWhile_cons, if_pos (h x List.mem_cons_self), tw_all fun c hc => h c (List.mem_cons_of_mem _ hc)]
theorem strip_wk {T : SM.Tree} {u : Str} {t : Nat} (h : Wk T 0 u t) : Txt.stripChars u "01" = "" := by
  have hw := wk_all h
  have hg : ∀ c ∈ u.cps.toList, ("01" : Str).cps.contains c = true := fun c hc => by
    rcases hw c hc with rfl | rfl <;> decide +kernel
  show Txt.stripBy ("01" : Str).cps.contains true true u = ""
  generalize ("01" : Str).cps.contains = g at hg
  have e1 : PySem.stripLo g true u = u.cps.size := by
    unfold PySem.stripLo
    rw [if_pos rfl, tw_all hg, Array.length_toList]
  have e2 : PySem.stripHi g true u u.cps.size = u.cps.size := by
    unfold PySem.stripHi
    rw [if_pos rfl, List.drop_eq_nil_of_le (by rw [Array.length_toList]; exact Nat.le_refl _)]
    rfl
  unfold Txt.stripBy
  split
  · rename_i hs
    unfold PySem.stripSame at hs
    rw [e1, Bool.and_eq_true, beq_iff_eq] at hs
    have : u.cps = #[] := Array.eq_empty_of_size_eq_zero hs.1
    cases u
    simp only at this
    rw [this]; rfl
  · unfold PySem.stripped
    rw [e1, e2]
    unfold PySem.Builtin.Str.strSub
    rw [Array.extract_empty_of_stop_le_start (Nat.le_refl _)]; rfl
abbrev sLIsPaper : Stmt := top 58
def NLIsPaper : List Str := ["_law_much", "_law_nodes", "_law_it", "_law_told"]
theorem scLIsPaper : FnScope NLIsPaper ["_law_much", "_law_nodes", "_law_it"] (defScope sLIsPaper) := ⟨rfl, rfl, rfl, by decide +kernel, rfl, by decide +kernel, by decide +kernel⟩
/-- a right paper -/
def RtP (m : Nat) (T : SM.Tree) (d : PyData) : Prop := (AllLive T ∧ d = papF m T) ∨ ∃ u, DeadAt T u ∧ d = papE u
def spLIsPaper (K : PySem.W.Frag) : Sp := fun vs H Q _ => ∃ (vN v : V) (T : SM.Tree) (m : Nat) (d : PyData), vs = [.int m, vN, v] ∧ TD K H vN (trD T) ∧ TD K H v d ∧ Va m T ∧ RtP m T d ∧ ∀ H', Same H H' → Q (.bl true) H'
theorem ok_l_is_paper {f f1 f2 f3 : Addr} {fd fd1 fd2 fd3 : FuncData} (F : FnP K "_law_is_paper" sLIsPaper f fd) (T : Tx K mg aN aW)
    (G__law_is_ends : Def P w K mg base CX0 "_law_is_ends" 3 ["_law_much", "_law_nodes", "_law_rows", "_law_means"] (spLIsEnds K) f1 fd1)
    (G__law_walked : Def P w K mg base CX0 "_law_walked" 1 ["_law_nodes", "_law_flips"] (spLWalked K) f2 fd2) (G__law_can_draw : Def P w K mg base CX0 "_law_can_draw" 1 ["_law_nodes"] (spLCan K) f3 fd3) : FnOk P w K mg base CX0 4 f fd ["_law_much", "_law_nodes", "_law_it"] (spLIsPaper K) := by
  refine F.ok scLIsPaper (fun vs H Q E h => ?_) (fun cdv A outer s H vs Q E hr h => ?_)
  · obtain ⟨_, _, _, _, _, rfl, _⟩ := h
    rfl
  · obtain ⟨vN, v, Tr, m, d, rfl, tN, tv, V0, hP, k⟩ := h
    refine ⟨_, PSs.nox <| (pss_cons (ps_if (PW.pt (pw_or (pt_not (pt_val (pe_callB (oIsi K) (by rfl) T.isinstance_ (by decide +kernel) (pa_cons (pv 2) (pa_cons (pe_bltn (v := .ty "tuple") (u := .type "tuple") (by rfl) T.tuple_ (by decide +kernel) rfl) pa_nil))))) (pw_or (pt_cmpR (oEqD K hr.units) (pv 2) (pe_tup pa_nil) (nomark _)) (pw_or1 (pt_not (pt_val (pe_callB (oIsi K) (by rfl) T.isinstance_ (by decide +kernel) (pa_cons (pe_ix (ixT K) (pv 2) pe_int (fun _ _ => rfl)) (pa_cons (pe_bltn (v := .ty "str") (u := .type "str") (by rfl) T.str_ (by decide +kernel) rfl) pa_nil))))))))) (pss_one (ps_ret pe_bl)) pss_nil)
      (pss_cons (ps_if (pt_cmpR op_eq (pe_ix (ixT K) (pv 2) pe_int (fun _ _ => rfl)) pe_str (nomark _)) (pss_one (ps_ret (pe_and (pe_cmp (pc_eqI (pe_callB (cLen K) (by rfl) T.len_ (by decide +kernel) (pa_cons (pv 2) pa_nil)) pe_int)) (pe_one (dcall G__law_is_ends (hr.mono (by decide)) (pa_cons (pv 0) (pa_cons (pv 1) (pa_cons (pe_ix (ixT K) (pv 2) pe_int (fun _ _ => rfl)) (pa_cons (pe_ix (ixT K) (pv 2) pe_int (fun _ _ => rfl)) pa_nil))))))))) pss_nil)
      (pss_cons (ps_if (PW.pt (pw_or (pt_cmpR op_ne (pe_ix (ixT K) (pv 2) pe_int (fun _ _ => rfl)) pe_str (nomark _)) (pw_or (pt_cmp (pc_neI (pe_callB (cLen K) (by rfl) T.len_ (by decide +kernel) (pa_cons (pv 2) pa_nil)) pe_int)) (pw_or (pt_not (pt_val (pe_callB (oIsi K) (by rfl) T.isinstance_ (by decide +kernel) (pa_cons (pe_ix (ixT K) (pv 2) pe_int (fun _ _ => rfl)) (pa_cons (pe_bltn (v := .ty "str") (u := .type "str") (by rfl) T.str_ (by decide +kernel) rfl) pa_nil))))) (pw_or1 (pt_cmpR op_ne (pe_bm PySem.F.plainAttrs_str PySem.F.slot_str_strip PySem.F.type_str_strip mt_stripChars (pe_ix (ixT K) (pv 2) pe_int (fun _ _ => rfl)) (pa_cons pe_str pa_nil)) pe_str (nomark _))))))) (pss_one (ps_ret pe_bl)) pss_nil)
      (pss_cons (ps_set (i := 3) scLIsPaper.nd rfl (lc_ rfl) (dcall G__law_walked (hr.mono (by decide)) (pa_cons (pv 1) (pa_cons (pe_ix (ixT K) (pv 2) pe_int (fun _ _ => rfl)) pa_nil))))
      (pss_one (ps_ret (pe_and (pe_cmpR op_eq (pe_ix (ixT K) (pv 3) pe_int (fun _ _ => rfl)) pe_str (nomark _)) (pe_one (pe_not (pe_ix (ixL K) (dcall G__law_can_draw (hr.mono (by decide)) (pa_cons (pv 1) pa_nil)) (pe_ix (ixT K) (pv 3) pe_int (fun _ _ => rfl)) (fun _ _ => rfl))))))))))), ?_⟩
    have q0 : (100000 : Nat) ≤ sizeLine := by decide
    have O := V0.ok
    have hshape : ∃ a xs d1 ds, v = .ref a ∧ SqT K H a xs ∧ d = .tuple (d1 :: ds) ∧ TDs K H xs (d1 :: ds) ∧ SeqAt.shaped d = true := by
      rcases hP with ⟨_, rfl⟩ | ⟨u, hD, rfl⟩
      · obtain ⟨a, xs, rfl, h1, h2⟩ := tv.tuple
        exact ⟨a, xs, _, _, rfl, h1, rfl, h2, papF_shaped m Tr⟩
      · obtain ⟨a, xs, rfl, h1, h2⟩ := tv.tuple
        obtain ⟨t, _, _, hw, _⟩ := hD
        exact ⟨a, xs, _, _, rfl, h1, rfl, h2, papE_shaped (wk_strOk hw)⟩
    obtain ⟨a, xs, d1, ds, rfl, ha, ed, tds, hsh⟩ := hshape
    refine ⟨_, rfl, _, _, _, _, true, rfl, .ty _, sqt_ty ha, kit_tt, _, rfl, iteBF rfl ⟨_, rfl, (by show 0 ≤ sizeLine; omega), fun q hq => ?_⟩⟩
    have s1 : Same H (upd H q (.tup [])) := Ser.Same.new hq
    refine ⟨d, .tuple [], (tv.mono (TupEx.of s1)).dp, .tup (SqT.mk upd_same) .nil, hsh, rfl, _, rfl, iteBF (by rw [ed]; rfl) ?_⟩
    generalize upd H q (.tup []) = H1 at s1 ⊢
    have ha1 := Ser.Same.sqT s1 ha
    have tds1 := tds.mono (TupEx.of s1)
    have tN1 := tN.mono (TupEx.of s1)
    rcases hP with ⟨hL, e⟩ | ⟨u, hD, e⟩
    · rw [ed] at e
      have e2 : (d1 :: ds) = [.str "ends", rowsD m Tr, mnsD m Tr] := by injection e
      rw [e2] at tds1
      obtain ⟨x1, x2, x3, rfl, h1, h2, h3⟩ := tds_three tds1
      have := h1.str_
      subst this
      refine ⟨_, rfl, a, _, 0, _, rfl, rfl, ha1, rfl, _, _, _, _, true, rfl, .ty _, .base (.str _), kit_ss, _, rfl, iteBF rfl ?_⟩
      refine ⟨_, rfl, a, _, 0, _, rfl, rfl, ha1, rfl, rfl, _, rfl, iteB (by decide) ?_⟩
      refine ⟨_, rfl, a, _, rfl, .inr ha1, _, _, rfl, rfl, _, rfl, iteB rfl ?_⟩
      refine ⟨_, rfl, _, rfl, _, rfl, a, _, 1, _, rfl, rfl, ha1, rfl, _, rfl, a, _, 2, _, rfl, rfl, ha1, rfl, ?_⟩
      exact ⟨vN, x2, x3, Tr, m, rfl, tN1, h2, h3, V0, hL, fun H2 s2 => k _ (s1.trans s2)⟩
    · rw [ed] at e
      have e2 : (d1 :: ds) = [.str "endless", .str u] := by injection e
      rw [e2] at tds1
      obtain ⟨x1, x2, rfl, h1, h2⟩ := tds_two tds1
      have := h1.str_
      subst this
      have := h2.str_
      subst this
      obtain ⟨t, ht, hd, hw, hu⟩ := hD
      refine ⟨_, rfl, a, _, 0, _, rfl, rfl, ha1, rfl, _, _, _, _, true, rfl, .ty _, .base (.str _), kit_ss, _, rfl, iteBF rfl ?_⟩
      refine ⟨_, rfl, a, _, 0, _, rfl, rfl, ha1, rfl, rfl, _, rfl, iteBF (by decide) ?_⟩
      refine ⟨_, rfl, a, _, 0, _, rfl, rfl, ha1, rfl, rfl, _, rfl, iteBF (by decide) ?_⟩
      refine ⟨_, rfl, a, _, rfl, .inr ha1, _, _, rfl, rfl, _, rfl, iteBF rfl ?_⟩
      refine ⟨_, rfl, a, _, 1, _, rfl, rfl, ha1, rfl, _, _, _, _, true, rfl, .ty _, .base (.str _), kit_ss, _, rfl, iteBF rfl ?_⟩
      refine ⟨_, rfl, a, _, 1, _, rfl, rfl, ha1, rfl, rfl, u, "01", rfl, rfl, by omega, rfl, _, rfl, iteBF ?_ ?_⟩
      · rw [strip_wk hw]; decide
      refine ⟨_, rfl, _, rfl, a, _, 1, _, rfl, rfl, ha1, rfl, vN, Tr, m, t, u, rfl, tN1, O, hw, hu, fun v2 H2 s2 t2 => ?_⟩
      obtain ⟨b, ys, rfl, hb, tb⟩ := t2.tuple
      obtain ⟨y1, y2, rfl, g1, g2⟩ := tds_two tb
      have := g1.str_
      subst this
      have := g2.int_
      subst this
      refine ⟨_, rfl, b, _, 0, _, rfl, rfl, hb, rfl, rfl, _, rfl, iteB (by decide) ?_⟩
      refine ⟨_, rfl, vN, Tr, m, rfl, tN1.mono (TupEx.of s2), O, V0.le, fun D H3 f hD s3 hD3 hf => ?_⟩
      have hft : f t = false := by
        cases e : f t with
        | false => rfl
        | true => exact absurd ((hf t ht).mp e) hd
      refine ⟨_, rfl, b, _, 1, _, rfl, rfl, Ser.Same.sqT s3 hb, rfl, D, _, t, _, rfl, rfl, SqL.mk hD3, atI_nat (rowB_get ht), _, rfl, ?_⟩
      rw [hft]
      exact k _ ((s1.trans s2).trans s3)
end
end Ser
end
section
set_option maxRecDepth 100000
set_option maxHeartbeats 4000000
namespace Ser
open PySem L2
section
variable {P : Program} {w : World} {K : PySem.W.Frag} {mg : Str → Option Value} {base : Heap} {aN aW : Addr}
/-! ### leaves_by_depth of the law -/
def pS (T : SM.Tree) (W : Nat → Int) (i : Nat) (p : Int) : Int := SM.sm i fun j => W j * (SM.ind (SM.tl T j = p) + SM.ind (SM.tr T j = p))
def pJ (T : SM.Tree) (W : Nat → Int) (i t : Nat) (p : Int) : Int := pS T W i p + (if 1 ≤ t then W i * SM.ind (SM.tl T i = p) else 0) + (if 2 ≤ t then W i * SM.ind (SM.tr T i = p) else 0)
theorem pJ_zero {T : SM.Tree} {W : Nat → Int} {i : Nat} (p : Int) : pJ T W i 0 p = pS T W i p := by
  unfold pJ
  rw [if_neg (by omega), if_neg (by omega), Int.add_zero, Int.add_zero]
theorem pJ_end {T : SM.Tree} {W : Nat → Int} {i : Nat} (p : Int) : pJ T W i 2 p = pS T W (i + 1) p := by
  unfold pJ
  rw [if_pos (by omega), if_pos (by omega)]
  show _ = pS T W i p + W i * (SM.ind (SM.tl T i = p) + SM.ind (SM.tr T i = p))
  rw [Int.mul_add, Int.add_assoc]
theorem pJ_step {T : SM.Tree} {W : Nat → Int} {i t : Nat} (ht : t = 0 ∨ t = 1) (p : Int) : pJ T W i (t + 1) p = pJ T W i t p + W i * SM.ind ((if t = 0 then SM.tl T i else SM.tr T i) = p) := by
  rcases ht with rfl | rfl
  · unfold pJ
    simp
  · unfold pJ
    simp
abbrev sLLeaves : Stmt := top 59
def NLLeaves : List Str := ["_law_much", "_law_nodes", "_law_limit", "_law_ways", "_law_found", "_law_k", "_law_go", "_law_later", "_law_row", "_law_node", "_law_side"]
theorem scLLeaves : FnScope NLLeaves ["_law_much", "_law_nodes", "_law_limit"] (defScope sLLeaves) := ⟨rfl, rfl, rfl, by decide +kernel, rfl, by decide +kernel, by decide +kernel⟩
def spLLeaves (K : PySem.W.Frag) : Sp := fun vs H Q _ => ∃ (v : V) (T : SM.Tree) (m lim : Nat), vs = [.int m, v, .int lim] ∧ TD K H v (trD T) ∧ SM.Ok m T ∧ T.length ≤ 60 ∧ 1 ≤ m ∧ m ≤ 12 ∧ lim ≤ 100 ∧
  ∀ D H' (qs : List Addr), H D = none → Same H H' → H' D = some (.lst (qs.map V.ref)) → qs.length = lim + 1 → (∀ d q, qs[d]? = some q → H' q = some (.lst (rowV m fun x => SM.Lv T d x))) → Q (.ref D) H'
theorem ok_l_leaves {f : Addr} {fd : FuncData} (F : FnP K "_law_leaves_by_depth" sLLeaves f fd) (T : Tx K mg aN aW) : FnOk P w K mg base CX0 1 f fd ["_law_much", "_law_nodes", "_law_limit"] (spLLeaves K) := by
  refine F.ok scLLeaves (fun vs H Q E h => ?_) (fun cdv A outer s H vs Q E hr h => ?_)
  · obtain ⟨_, _, _, _, rfl, _⟩ := h
    rfl
  · obtain ⟨v, Tr, m, lim, rfl, tv, O, h60, m1, m2, hlim, k⟩ := h
    obtain ⟨a, xs, rfl, ha, hl, hxs⟩ := tree_td tv
    refine ⟨_, PSs.nox <| (pss_cons (ps_par (i := 3) (j := 4) rfl scLLeaves.nd rfl rfl (by decide) rfl rfl (pa_cons (pe_lc (own := [("_law_k", 5)]) (g := (gName 5)) (tt := tYes) (by rfl) scLLeaves.nd (pi_range1 (by rfl) T.range_ (pa_cons (pe_callB (cLen K) (by rfl) T.len_ (by decide +kernel) (pa_cons (pv 1) pa_nil)) pa_nil)) (blkOk_by (N := NLLeaves) (sc := defScope sLLeaves) (by decide +kernel)) (fun _ _ _ _ _ => (pg_name (i := 5) scLLeaves.nd rfl (lc_ rfl))) (fun _ _ _ _ _ => pts_nil) (fun _ _ _ _ _ => (pe_callTy call_int1 (by rfl) T.int_ (by decide +kernel) (pa_cons (pe_cmp (pc_eqI (pv 5) pe_int)) pa_nil)))) (pa_cons (pe_lst (pa_cons (pe_op op_rep (pe_lst (pa_cons pe_int pa_nil)) (pv 0)) pa_nil)) pa_nil)) (by rfl))
      (pss_cons (ps_for PassesOwn.never rfl (pi_range1 (by rfl) T.range_ (pa_cons (pv 2) pa_nil)) (pg_name (i := 6) scLLeaves.nd rfl (lc_ rfl)) (pss_cons (ps_par (i := 7) (j := 8) rfl scLLeaves.nd rfl rfl (by decide) rfl rfl (pa_cons (pe_op op_rep (pe_lst (pa_cons pe_int pa_nil)) (pe_callB (cLen K) (by rfl) T.len_ (by decide +kernel) (pa_cons (pv 1) pa_nil))) (pa_cons (pe_op op_rep (pe_lst (pa_cons pe_int pa_nil)) (pv 0)) pa_nil)) (by rfl))
      (pss_cons (ps_for PassesOwn.never rfl (piEnumT K (by rfl) T.enumerate_ (pa_cons (pv 1) pa_nil)) (gTup' K (pgs_cons (pg_name (i := 5) scLLeaves.nd rfl (lc_ rfl)) (pgs_cons (pg_name (i := 9) scLLeaves.nd rfl (lc_ rfl)) pgs_nil))) (pss_one (ps_for PassesOwn.never rfl (piT K (pv 9)) (pg_name (i := 10) scLLeaves.nd rfl (lc_ rfl)) (pss_one (ps_if (pt_cmp (pc_lt (pv 10) pe_int)) (pss_one (ps_asg (pe_op op_add (pe_ix (ixL K) (pv 8) (pe_op op_sub (pe_un un_neg pe_int) (pv 10)) (fun _ _ => rfl)) (pe_ix (ixL K) (pv 3) (pv 5) (fun _ _ => rfl))) (pg_sub (pv 8) (pe_op op_sub (pe_un un_neg pe_int) (pv 10)) set_list))) (pss_one (ps_asg (pe_op op_add (pe_ix (ixL K) (pv 7) (pv 10) (fun _ _ => rfl)) (pe_ix (ixL K) (pv 3) (pv 5) (fun _ _ => rfl))) (pg_sub (pv 7) (pv 10) set_list))))))))
      (pss_cons (ps_set (i := 3) scLLeaves.nd rfl (lc_ rfl) (pv 7))
      (pss_one (ps_expr (pBm K PySem.F.plainAttrs_list PySem.F.slot_list_append PySem.F.type_list_append mt_append (pv 4) (pa_cons (pv 8) pa_nil))))))))
      (pss_one (ps_ret (pv 4))))), ?_⟩
    have q0 : (100000 : Nat) ≤ sizeLine := by decide
    have hlen : xs.length = Tr.length := hl
    refine ⟨_, rfl, a, _, rfl, .inr ha, (Tr.length : Nat), congrArg (fun z : Nat => [V.int (z : Int)]) hl, by omega, by omega, fun W0 hW0 => ?_⟩
    refine lc_tdY (K := K) (walk_range (lo := 0) (n := Tr.length)) (fun i => .int (SM.ind (i = 0))) hW0 (by omega) (fun _ _ => trivial) ?_ ?_
    · rintro i x H1 H2 k2 hi s1 _ ⟨rfl, rfl⟩ kk
      refine ⟨rfl, _, rfl, _, _, rfl, rfl, .inr ⟨_, rfl, kk _ _ (fun _ _ e => e) ?_⟩⟩
      have e2 : (if decide ((0 : Int) + (i : Int) = 0) = true then (1 : Int) else 0) = SM.ind (i = 0) := by
        unfold SM.ind
        by_cases e3 : i = 0
        · rw [if_pos e3, if_pos (decide_eq_true (by omega))]
        · rw [if_neg e3, if_neg (by rw [decide_eq_true_iff]; omega)]
      show TD K _ (.int (if decide ((0 : Int) + (i : Int) = 0) = true then (1 : Int) else 0)) _
      rw [e2]
      exact .int _
    intro ysW H1 s1 hyW tW
    rw [ints_of tW] at hyW
    refine ⟨(by show 1 ≤ sizeLine; omega), fun p1 hp1 => ⟨_, rfl, p1, _, _, rfl, rfl, upd_same, by omega, by omega, by rw [Int.toNat_natCast]; show 1 * m ≤ sizeLine; omega, fun R0 hR0 => ⟨(by show 1 ≤ sizeLine; omega), fun Fd hFd => ⟨_, _, rfl, ?_⟩⟩⟩⟩
    rw [rep_row] at hFd ⊢
    have sa : Same H1 (upd H1 p1 (.lst [.int 0])) := Ser.Same.new hp1
    have sb : Same (upd H1 p1 (.lst [.int 0])) (upd (upd H1 p1 (.lst [.int 0])) R0 (.lst (rowV m fun _ => 0))) := Ser.Same.new hR0
    have R1 : (upd (upd H1 p1 (.lst [.int 0])) R0 (.lst (rowV m fun _ => 0))) R0 = some (.lst (rowV m fun _ => 0)) := upd_same
    have sab := sa.trans sb
    generalize upd (upd H1 p1 (.lst [V.int 0])) R0 (.lst (rowV m fun _ => 0)) = H2 at R1 hFd sab ⊢
    have sc : Same H2 (upd H2 Fd (.lst [.ref R0])) := Ser.Same.new hFd
    have W2 := (sab.trans sc) _ _ hyW
    have R2 := sc _ _ R1
    have F2 : (upd H2 Fd (.lst [.ref R0])) Fd = some (.lst [.ref R0]) := upd_same
    have hF0 : H Fd = none := (s1.trans sab).free hFd
    have sd := (s1.trans sab).trans sc
    have nR : R0 ≠ Fd := fun z => by rw [z, hFd] at R1; cases R1
    have nW : W0 ≠ Fd := fun z => by rw [← z, sab _ _ hyW] at hFd; cases hFd
    generalize upd H2 Fd (.lst [V.ref R0]) = H3 at W2 R2 F2 sd ⊢
    clear sc sab sb sa hFd
    refine ⟨_, rfl, (lim : Nat), rfl, by omega, by omega, ?_⟩
    refine for_it (walk_range (lo := 0) (n := lim)) (fun i σ H' => ∃ (qs : List Addr) (Wd : Addr) (v5 v6 v7 v8 v9 v10 : Option V), σ = [some (.int m), some (.ref a), some (.int lim), some (.ref Wd), some (.ref Fd), v5, v6, v7, v8, v9, v10] ∧ Same H H' ∧ H' Fd = some (.lst (qs.map V.ref)) ∧ Wd ≠ Fd ∧ H' Wd = some (.lst (rowV Tr.length (SM.Wv Tr i))) ∧ qs.length = i + 1 ∧ ∀ d q, qs[d]? = some q → q ≠ Fd ∧ H' q = some (.lst (rowV m fun x => SM.Lv Tr d x)))
      ⟨[R0], W0, none, none, none, none, none, none, rfl, sd, F2, nW, W2, rfl, fun d q hq => ?_⟩ (fun _ _ _ _ _ => trivial) ?_ ?_
    · match d, hq with
      | 0, hq => cases hq; exact ⟨nR, R2⟩
    · rintro i x σ H4 H5 hi ⟨qs, Wd, v5, v6, v7, v8, v9, v10, rfl, s4, F4, nWd, W4, lq, hqs⟩ ⟨rfl, rfl⟩
      refine ⟨(by show 1 ≤ sizeLine; omega), fun p1 hp1 => ⟨_, rfl, a, _, rfl, .inr ((Ser.Same.sqT (Ser.Same.new hp1)) (Ser.Same.sqT s4 ha)), p1, _, _, rfl, rfl, upd_same, by omega, by omega, by rw [Int.toNat_natCast]; show 1 * xs.length ≤ sizeLine; omega, fun Lr hLr => ⟨(by show 1 ≤ sizeLine; omega), fun p2 hp2 => ⟨_, rfl, p2, _, _, rfl, rfl, upd_same, by omega, by omega, by rw [Int.toNat_natCast]; show 1 * m ≤ sizeLine; omega, fun Rr hRr => ⟨_, _, rfl, ?_⟩⟩⟩⟩⟩
      rw [rep_row, hl] at hp2 hRr
      rw [rep_row, rep_row, hl]
      have sa : Same H5 (upd H5 p1 (.lst [.int 0])) := Ser.Same.new hp1
      have sb : Same (upd H5 p1 (.lst [.int 0])) (upd (upd H5 p1 (.lst [.int 0])) Lr (.lst (rowV Tr.length fun _ => 0))) := Ser.Same.new hLr
      have L0 : H5 Lr = none := sa.free hLr
      have LA : (upd (upd H5 p1 (.lst [.int 0])) Lr (.lst (rowV Tr.length fun _ => 0))) Lr = some (.lst (rowV Tr.length fun _ => 0)) := upd_same
      have sab := sa.trans sb
      generalize upd (upd H5 p1 (.lst [V.int 0])) Lr (.lst (rowV Tr.length fun _ => 0)) = HA at hp2 hRr LA sab ⊢
      have sc : Same HA (upd HA p2 (.lst [.int 0])) := Ser.Same.new hp2
      have LB := sc _ _ LA
      have sabc := sab.trans sc
      have R0' : H5 Rr = none := sabc.free hRr
      generalize upd HA p2 (.lst [V.int 0]) = HB at hRr LB sabc ⊢
      have se : Same HB (upd HB Rr (.lst (rowV m fun _ => 0))) := Ser.Same.new hRr
      have LC := se _ _ LB
      have RC : (upd HB Rr (.lst (rowV m fun _ => 0))) Rr = some (.lst (rowV m fun _ => 0)) := upd_same
      have nLR : Lr ≠ Rr := fun z => by rw [← z, LB] at hRr; cases hRr
      have s6 := sabc.trans se
      generalize upd HB Rr (.lst (rowV m fun _ => 0)) = HC at LC RC s6 ⊢
      clear se hRr sc sab sb sa LA LB hp2
      have nLF : Lr ≠ Fd := fun z => by rw [z, F4] at L0; cases L0
      have nRF : Rr ≠ Fd := fun z => by rw [z, F4] at R0'; cases R0'
      refine ⟨_, rfl, a, xs, rfl, Ser.Same.sqT (s4.trans s6) ha, ?_⟩
      refine for_it (walk_pr (n := xs.length)) (fun j σ H' => ∃ (v5 v9 v10 : Option V), σ = [some (.int m), some (.ref a), some (.int lim), some (.ref Wd), some (.ref Fd), v5, some (.int (0 + (i : Int))), some (.ref Lr), some (.ref Rr), v9, v10] ∧ Same H5 H' ∧ H' Lr = some (.lst (rowV Tr.length fun y => pS Tr (SM.Wv Tr i) j (y : Int))) ∧ H' Rr = some (.lst (rowV m fun y => pS Tr (SM.Wv Tr i) j (-1 - (y : Int)))))
        ⟨_, _, _, rfl, s6, LC, RC⟩ (fun j σ H' _ ⟨_, _, _, _, s, _⟩ => Ser.Same.sqT (s4.trans s) ha) ?_ ?_
      · rintro j x σ H6 H7 hj ⟨w5, w9, w10, rfl, s7, L7, R7⟩ ⟨z, x1, x2, rfl, hz, rfl, hx1, hx2⟩
        have hj' : j < Tr.length := by omega
        obtain ⟨q, hq, hqs2⟩ := hxs j hj'
        cases hx1
        have hx2' : xs[j]? = some x2 := hx2
        rw [hq] at hx2'
        cases hx2'
        have sz : Same H6 (upd H6 z (.tup [.int (j : Nat), .ref q])) := Ser.Same.new hz
        refine ⟨z, _, rfl, SqT.mk upd_same, rfl, _, _, rfl, _, _, rfl, rfl, ?_⟩
        have s8 := s7.trans sz
        have L8 := sz _ _ L7
        have R8 := sz _ _ R7
        generalize upd H6 z (.tup [V.int (j : Nat), V.ref q]) = H7 at s8 L8 R8 ⊢
        have hqs8 := Ser.Same.sqT (s4.trans s8) hqs2
        refine ⟨_, rfl, q, rfl, ⟨_, hqs8⟩, ?_⟩
        refine for_it (walk_tup (xs := [V.int (SM.tl Tr j), V.int (SM.tr Tr j)])) (fun t σ H' => ∃ v10 : Option V, σ = [some (.int m), some (.ref a), some (.int lim), some (.ref Wd), some (.ref Fd), some (.int (j : Nat)), some (.int (0 + (i : Int))), some (.ref Lr), some (.ref Rr), some (.ref q), v10] ∧ Same H5 H' ∧ H' Lr = some (.lst (rowV Tr.length fun y => pJ Tr (SM.Wv Tr i) j t (y : Int))) ∧ H' Rr = some (.lst (rowV m fun y => pJ Tr (SM.Wv Tr i) j t (-1 - (y : Int)))))
          ⟨_, rfl, s8, by rw [L8]; simp only [pJ_zero], by rw [R8]; simp only [pJ_zero]⟩ (fun t σ H' _ ⟨_, _, s, _⟩ => Ser.Same.sqT (s4.trans s) hqs2) ?_ ?_
        · rintro t x σ H8 H9 ht ⟨u10, rfl, s9, L9, R9⟩ ⟨rfl, hx⟩
          have two : ∃ p : Int, x = .int p ∧ p = (if t = 0 then SM.tl Tr j else SM.tr Tr j) ∧ -(m : Int) ≤ p ∧ p < Tr.length := by
            match t, ht, hx with
            | 0, _, hx => exact ⟨_, (Option.some.inj hx).symm, rfl, O.rl j hj'⟩
            | 1, _, hx => exact ⟨_, (Option.some.inj hx).symm, rfl, O.rr j hj'⟩
          obtain ⟨p, rfl, ep, p1, p2⟩ := two
          have st := fun y => pJ_step (T := Tr) (W := SM.Wv Tr i) (i := j) (t := t) (by have : t < 2 := ht; omega) y
          rw [← ep] at st
          have W9 := s9 _ _ W4
          refine ⟨_, rfl, _, _, rfl, rfl, _, rfl, iteB2 (fun hb => ?_) (fun hb => ?_)⟩
          · have hb : p < 0 := of_decide_eq_true hb
            obtain ⟨x, hx, hxm⟩ : ∃ x : Nat, -1 - p = (x : Int) ∧ x < m := ⟨(-1 - p).toNat, by omega, by omega⟩
            refine ⟨_, rfl, _, rfl, _, rfl, _, _, rfl, rfl, Rr, _, _, _, rfl, rfl, SqL.mk R9, (by rw [show (-1 : Int) - p = (x : Int) from hx]; exact atI_nat (rowV_get hxm)), _, rfl, _, rfl, Wd, _, j, _, rfl, rfl, SqL.mk W9, atI_nat (rowV_get hj'), _, _, rfl, rfl, ?_⟩
            refine ⟨_, rfl, _, rfl, _, rfl, _, _, rfl, rfl, Rr, _, _, x, rfl, rfl, R9, (by rw [show (-1 : Int) - p = (x : Int) from hx, rowV_len]; exact ixN_nat hxm), ?_⟩
            refine ⟨_, rfl, Ser.Same.put s9 R0', ?_, ?_⟩
            · rw [upd_ne nLR, L9]
              congr 2
              refine rowV_congr fun y hy => ?_
              rw [st, SM.ind_f (by omega), Int.mul_zero, Int.add_zero]
            · rw [upd_same, rowV_set]
              congr 2
              refine rowV_congr fun y hy => ?_
              rw [st]
              by_cases e : y = x
              · subst e
                rw [if_pos rfl, SM.ind_t (by omega), Int.mul_one]
              · rw [if_neg e, SM.ind_f (by omega), Int.mul_zero, Int.add_zero]
          · have hb : ¬ p < 0 := of_decide_eq_false hb
            obtain ⟨x, rfl, hxm⟩ : ∃ x : Nat, p = (x : Int) ∧ x < Tr.length := ⟨p.toNat, by omega, by omega⟩
            refine ⟨_, rfl, _, rfl, Lr, _, x, _, rfl, rfl, SqL.mk L9, atI_nat (rowV_get hxm), _, rfl, _, rfl, Wd, _, j, _, rfl, rfl, SqL.mk W9, atI_nat (rowV_get hj'), _, _, rfl, rfl, ?_⟩
            refine ⟨_, rfl, _, rfl, Lr, _, x, x, rfl, rfl, L9, (by rw [rowV_len]; exact ixN_nat hxm), ?_⟩
            refine ⟨_, rfl, Ser.Same.put s9 L0, ?_, ?_⟩
            · rw [upd_same, rowV_set]
              congr 2
              refine rowV_congr fun y hy => ?_
              rw [st]
              by_cases e : y = x
              · subst e
                rw [if_pos rfl, SM.ind_t rfl, Int.mul_one]
              · rw [if_neg e, SM.ind_f (by omega), Int.mul_zero, Int.add_zero]
            · rw [upd_ne nLR.symm, R9]
              congr 2
              refine rowV_congr fun y hy => ?_
              rw [st, SM.ind_f (by omega), Int.mul_zero, Int.add_zero]
        · rintro σ H8 ⟨u10, rfl, s9, L9, R9⟩
          refine ⟨_, _, _, rfl, s9, ?_, ?_⟩
          · rw [L9]; congr 2; exact rowV_congr fun y _ => pJ_end _
          · rw [R9]; congr 2; exact rowV_congr fun y _ => pJ_end _
      · rintro σ H6 ⟨w5, w9, w10, rfl, s7, L7, R7⟩
        rw [hl] at L7 R7
        have F7 := s7 _ _ F4
        refine ⟨_, rfl, _, rfl, .inl ⟨rfl, _, SqL.mk F7⟩, _, rfl, Fd, _, _, rfl, rfl, F7, by rw [List.length_map]; omega, ?_⟩
        refine ⟨qs ++ [Rr], Lr, _, _, _, _, _, _, rfl, Ser.Same.put (s4.trans s7) hF0, by rw [upd_same, List.map_append]; rfl, nLF, by rw [upd_ne nLF]; exact L7, by rw [List.length_append, lq]; rfl, fun d q hq => ?_⟩
        by_cases hd : d < qs.length
        · rw [List.getElem?_append_left hd] at hq
          obtain ⟨h1, h2⟩ := hqs d q hq
          exact ⟨h1, by rw [upd_ne h1]; exact s7 _ _ h2⟩
        · have := (List.getElem?_eq_some_iff.mp hq).1
          rw [List.length_append, List.length_singleton] at this
          have e : d = i + 1 := by omega
          subst e
          rw [List.getElem?_append_right (by omega), lq, Nat.sub_self] at hq
          cases hq
          exact ⟨nRF, by rw [upd_ne nRF]; exact R7⟩
    · rintro σ H4 ⟨qs, Wd, v5, v6, v7, v8, v9, v10, rfl, s4, F4, nWd, W4, lq, hqs⟩
      exact ⟨_, rfl, k Fd H4 qs hF0 s4 F4 lq fun d q h => (hqs d q h).2⟩
end
end Ser
end
section
set_option maxRecDepth 100000
set_option maxHeartbeats 4000000
namespace Ser
open PySem L2
section
variable {P : Program} {w : World} {K : PySem.W.Frag} {mg : Str → Option Value} {base : Heap} {aN aW : Addr}
/-! ### unlike of the law -/
theorem dig_int (m d : Nat) : (2 : Int) ^ d / (m : Int) % 2 = SM.dig m d := by
  unfold SM.dig
  rw [Int.natCast_emod, Int.natCast_ediv, Int.natCast_pow]; rfl
abbrev sLUnlike : Stmt := top 60
def NLUnlike : List Str := ["_law_much", "_law_nodes", "_law_limit", "_law_power", "_law_level", "_law_row", "_law_leaves"]
theorem scLUnlike : FnScope NLUnlike ["_law_much", "_law_nodes", "_law_limit"] (defScope sLUnlike) := ⟨rfl, rfl, rfl, by decide +kernel, rfl, by decide +kernel, by decide +kernel⟩
def spLUnlike (K : PySem.W.Frag) : Sp := fun vs H Q _ => ∃ (v : V) (T : SM.Tree) (m lim : Nat), vs = [.int m, v, .int lim] ∧ TD K H v (trD T) ∧ SM.Ok m T ∧ T.length ≤ 60 ∧ 1 ≤ m ∧ m ≤ 12 ∧ lim ≤ 100 ∧
  (Alk m T (lim + 1) → ∀ H', Same H H' → Q .non H') ∧ ∀ D H', D ≤ lim → Same H H' → UnAt m T D → Q (.int (D : Nat)) H'
theorem ok_l_unlike {f f1 : Addr} {fd fd1 : FuncData} (F : FnP K "_law_unlike" sLUnlike f fd) (T : Tx K mg aN aW) (G__law_leaves_by_depth : Def P w K mg base CX0 "_law_leaves_by_depth" 1 ["_law_much", "_law_nodes", "_law_limit"] (spLLeaves K) f1 fd1) : FnOk P w K mg base CX0 2 f fd ["_law_much", "_law_nodes", "_law_limit"] (spLUnlike K) := by
  refine F.ok scLUnlike (fun vs H Q E h => ?_) (fun cdv A outer s H vs Q E hr h => ?_)
  · obtain ⟨_, _, _, _, rfl, _⟩ := h
    rfl
  · obtain ⟨v, Tr, m, lim, rfl, tv, O, h60, m1, m2, hlim, kN, kU⟩ := h
    refine ⟨_, PSs.nox <| (pss_cons (ps_set (i := 3) scLUnlike.nd rfl (lc_ rfl) pe_int)
      (pss_cons (ps_for PassesOwn.never rfl (piEnum K (by rfl) T.enumerate_ (pa_cons (dcall G__law_leaves_by_depth (hr.mono (by decide)) (pa_cons (pv 0) (pa_cons (pv 1) (pa_cons (pv 2) pa_nil)))) pa_nil)) (gTup' K (pgs_cons (pg_name (i := 4) scLUnlike.nd rfl (lc_ rfl)) (pgs_cons (pg_name (i := 5) scLUnlike.nd rfl (lc_ rfl)) pgs_nil))) (pss_cons (ps_if (pt_cmpR (oNeD K hr.units) (pe_lc (own := [("_law_leaves", 6)]) (g := (gName 6)) (by rfl) scLUnlike.nd (piL K (pv 5)) (blkOk_by (N := NLUnlike) (sc := defScope sLUnlike) (by decide +kernel)) (fun _ _ _ _ _ => (pg_name (i := 6) scLUnlike.nd rfl (lc_ rfl))) (fun _ _ _ _ _ => (pts_one (pt_cmp (pc_neI (pv 6) (pe_op op_mod (pe_op op_fdiv (pv 3) (pv 0)) pe_int))))) (fun _ _ _ _ _ => (pv 6))) (pe_lst pa_nil) (nomark _)) (pss_one (ps_ret (pv 4))) pss_nil)
      (pss_one (ps_set (i := 3) scLUnlike.nd rfl (lc_ rfl) (pe_op op_mul pe_int (pv 3))))))
      (pss_one (ps_ret pe_non)))), ?_⟩
    have q0 : (100000 : Nat) ≤ sizeLine := by decide
    refine ⟨_, rfl, _, rfl, _, rfl, v, Tr, m, lim, rfl, tv, O, h60, m1, m2, hlim, fun D H1 qs hD s1 hD1 lq hq => ⟨D, _, rfl, SqL.mk hD1, ?_⟩⟩
    have lqs : (qs.map V.ref).length = lim + 1 := by rw [List.length_map]; exact lq
    refine for_it walk_enum (fun i σ H' => ∃ v4 v5 v6 : Option V, σ = [some (.int m), some v, some (.int lim), some (.int (2 ^ i)), v4, v5, v6] ∧ Same H1 H' ∧ Alk m Tr i) ⟨none, none, none, rfl, fun _ _ e => e, fun D' x h => absurd h (Nat.not_lt_zero _)⟩ (fun i σ H' _ ⟨_, _, _, _, s, _⟩ => SqL.mk (s _ _ hD1)) ?_ ?_
    · rintro i x σ H2 H3 hi ⟨v4, v5, v6, rfl, s2, al⟩ ⟨z, x1, x2, rfl, hz, rfl, hx1, hx2⟩
      rw [lqs] at hi
      cases hx1
      obtain ⟨q, hqi, rfl⟩ := ref_at (show (qs.map V.ref)[i]? = some x2 from hx2)
      have hr1 := hq i q hqi
      refine ⟨z, _, rfl, SqT.mk upd_same, rfl, _, _, rfl, _, _, rfl, rfl, ?_⟩
      have sz : Same H2 (upd H2 z (.tup [.int (i : Nat), .ref q])) := Ser.Same.new hz
      have s3 := s2.trans sz
      generalize upd H2 z (.tup [V.int (i : Nat), V.ref q]) = H3 at s3 ⊢
      have hr3 := s3 _ _ hr1
      refine ⟨_, rfl, q, rfl, ⟨_, SqL.mk hr3⟩, fun C hC => ?_⟩
      refine lc_gen (walk_list (xs := rowV m fun x => SM.Lv Tr i x)) (fun x => !decide (SM.Lv Tr i x = SM.dig m i)) (fun x y _ => y = .int (SM.Lv Tr i x)) hC (by rw [rowV_len]; omega) (fun H' s => SqL.mk (s _ _ hr3)) (fun _ _ _ _ _ _ e _ _ _ => e) ?_ ?_
      · rintro j y H4 H5 k2 els hj s4 _ ⟨rfl, hy⟩ ky kn
        rw [rowV_len] at hj
        rw [rowV_get hj] at hy
        cases hy
        refine ⟨rfl, _, rfl, _, rfl, _, rfl, _, _, rfl, rfl, ⟨by omega, by omega⟩, _, _, rfl, rfl, (by show (0 : Int) < 2; decide), _, _, rfl, rfl, _, rfl, ?_⟩
        have e : (!decide (SM.Lv Tr i j = (2 : Int) ^ i / (m : Int) % 2)) = !decide (SM.Lv Tr i j = SM.dig m i) := by rw [dig_int]
        refine iteB2 (fun hb => ⟨_, rfl, ky (e.symm.trans hb) _ _ (fun _ _ e => e) rfl⟩) (fun hb => kn (e.symm.trans hb) _ fun _ _ e => e)
      · intro ys H4 s4 hy al2
        rw [rowV_len] at al2
        have ey := all2_ints al2
        subst ey
        refine ⟨(by show 0 ≤ sizeLine; omega), fun p hp => ?_⟩
        have s5 : Same H4 (upd H4 p (.lst [])) := Ser.Same.new hp
        refine ⟨.list ((((List.range m).filter fun x => !decide (SM.Lv Tr i x = SM.dig m i)).map fun x => SM.Lv Tr i x).map .int), .list [], .lst (SqL.mk (s5 _ _ hy)) (TDs.ints _).dp, .lst (SqL.mk upd_same) .nil, shaped_ints _, rfl, _, rfl, ?_⟩
        rw [eqv_nil]
        have s35 := (s3.trans s4).trans s5
        refine iteB2 (fun hb => ?_) (fun hb => ?_)
        · refine ⟨_, rfl, kU i _ (by omega) (s1.trans s35) ⟨al, ?_⟩⟩
          rw [Bool.not_eq_true', decide_eq_false_iff_not, List.map_eq_nil_iff] at hb
          obtain ⟨x, hx⟩ := List.exists_mem_of_ne_nil _ hb
          obtain ⟨h1, h2⟩ := List.mem_filter.mp hx
          refine ⟨x, List.mem_range.mp h1, ?_⟩
          rw [Bool.not_eq_true', decide_eq_false_iff_not] at h2
          exact h2
        · refine ⟨_, rfl, _, _, rfl, rfl, .inl ⟨by decide, by decide⟩, some (.int (i : Nat)), some (.ref q), v6, ?_, s35, fun D' x hD' hx => ?_⟩
          · have e2 : (2 : Int) * 2 ^ i = 2 ^ (i + 1) := by rw [Int.pow_succ, Int.mul_comm]
            rw [← e2]; rfl
          · by_cases e : D' = i
            · subst e
              rw [Bool.not_eq_false', decide_eq_true_iff, List.map_eq_nil_iff, List.filter_eq_nil_iff] at hb
              have := hb x (List.mem_range.mpr hx)
              rw [Bool.not_eq_true', Bool.not_eq_false, decide_eq_true_iff] at this
              exact this
            · exact al D' x (by omega) hx
    · rintro σ H2 ⟨v4, v5, v6, rfl, s2, al⟩
      rw [lqs] at al
      exact kN al _ (s1.trans s2)
end
end Ser
end
section
set_option maxRecDepth 100000
set_option maxHeartbeats 4000000
/-! several clauses «except X as n», and what their suites ask -/
namespace Ser
open PySem PySem.Spec PySem.Calls PyProof.Rows L2
/-- behind a suite its name is gone -/
def offE (i : Nat) (D : Ends) : Ends := { nx := fun τ G => D.nx (τ.set i none) G, rt := D.rt, bk := fun τ G => D.bk (τ.set i none) G, ct := fun τ G => D.ct (τ.set i none) G }
abbrev Cl := Value × Nat × (Addr → Value → Option Addr → TS)
def wAsL (K : PySem.W.Frag) (W : WX) (D : Ends) : List Cl → WX
  | [] => W
  | q :: r => fun cls d τ G => ∃ b, PySem.W.exmOne K cls q.1 = some b ∧ (b = true → ∀ a, G a = none → q.2.2 a cls d (offE q.2.1 D) (τ.set q.2.1 (some (.ref a))) G) ∧ (b = false → wAsL K W D r cls d τ G)
/-- the clauses of the text and what is said of them -/
inductive ClsOk (X : Cx) : List ExceptHandler → List Cl → Prop
  | nil : ClsOk X [] []
  | cons {x n : Str} {c : Value} {i : Nat} {ts : Addr → Value → Option Addr → TS} {b0 : Stmt} {bs : List Stmt} {p q : Pos} {hs : List ExceptHandler} {l : List Cl} (hi : X.N[i]? = some n) (hl : X.env.kindOf n = some .local) (hc : Names X x c)
      (su : ∀ (a : Addr) (o : Obj) (cls : Value) (d : Option Addr) (pn : List (Addr × Obj)), Zc cls d o → (∃ vs, o.data = .fields vs) → PSs (X.suite a ((a, o) :: pn)) (b0 :: bs) (ts a cls d)) (r : ClsOk X hs l) :
      ClsOk X (.ExceptHandler (some (.Name x p)) (some n) (b0 :: bs) q :: hs) ((c, i, ts) :: l)
section
variable {X : Cx} {pins : List (Addr × Obj)} {B : Heap} {a : Addr} {cls : Value} {d : Option Addr} {σ : L2.St} {G : Hp} {sI s : Shared} {D : Ends} {W : WX}
/-- the exception as it stands where the clauses are looked at -/
structure Stood (X : Cx) (pins : List (Addr × Obj)) (B : Heap) (a : Addr) (cls : Value) (d : Option Addr) (σ : L2.St) (G : Hp) (sI s : Shared) : Prop where
  inv : Inv X pins σ G sI
  nb : ∀ b o, sI.heap.get? b = some o → b ∉ frs X.stack → B.get? b = some o
  up : sI.heap.UpToSlots s.heap
  held : HandSPX.FlyingZ B (X.env :: X.outer) a (Zc cls d) s.heap
  na : G a = none
  os : s.os = sI.os
  ag : AllBare s.gens
theorem not_fr {h : Heap} {l : List Env} {o : Obj} {vs : Array Value} (ff : h.FunFrames B l) (e : h.get? a = some o) (dd : o.data = .fields vs) : a ∉ frs l := fun hm => by
  obtain ⟨_, o', e', hn⟩ := ff.mem hm
  cases e.symm.trans e'
  exact hn _ dd
theorem Stood.apart (S : Stood X pins B a cls d σ G sI s) (hf : X.env.frame = some X.env.locals) : a ≠ X.env.locals ∧ a ∉ X.fs := by
  obtain ⟨o, vs, he, _, hd⟩ := S.held.there
  have nf := not_fr S.held.2.2.1 he hd
  refine ⟨fun z => nf (List.mem_filterMap.mpr ⟨X.env, List.mem_cons_self, by rw [hf, z]⟩), fun hm => ?_⟩
  obtain ⟨e, h1, h2⟩ := List.mem_filterMap.mp hm
  exact nf (List.mem_filterMap.mpr ⟨e, List.mem_cons_of_mem _ h1, h2⟩)
/-- the clauses, one after the other -/
theorem clauses (hs : X.stack = X.env :: X.outer) (hf : X.env.frame = some X.env.locals) (hN : X.N.Nodup) (tk : Takes X W) (S : Stood X pins B a cls d σ G sI s) : ∀ {hds : List ExceptHandler} {l : List Cl}, ClsOk X hds l → wAsL X.K W D l cls d σ G →
    wpAny (model X.prog X.w) X.A (handleBy (.ref a) X.env hds) (SP X pins D) X.xe s := by
  have ok := S.inv.ok
  obtain ⟨nL, nF⟩ := S.apart hf
  have st := S.inv.landed S.nb S.held.1 S.up S.os S.ag
  obtain ⟨o, vs, he, hz, hd⟩ := S.held.there
  have su := st.suite he hd S.na nL nF
  intro hds l hk
  induction hk with
  | nil =>
    intro w
    refine wpAny_handleBy_nil ?_
    obtain ⟨_, _, _, o2, vs2, T, oT, t2, e2, z2, d2, i2, r2⟩ := id S.held
    unfold PySem.passOn
    refine wpAny_bind (wpAny_field e2 d2 i2 ?_)
    rw [if_neg (show ¬ ((Value.ref T == Value.none) = true) by simp)]
    have out : wpAny (model X.prog X.w) X.A (setFlight (.ref a) X.env.frame) (fun _ s4 => wpAny (model X.prog X.w) X.A (throw (.ref a) : Sem Flow) (SP X pins D) X.xe s4) X.xe s := by
      rw [hf]
      refine HandSPX.setFlight_upZ S.held fun h4 hh up4 => wpAny_throw (tk _ _ ⟨a, B, sI, pins, σ, G, cls, d, rfl, S.inv, S.nb, S.up.trans up4, .inr (.inr ?_), S.na, S.os, S.ag, w⟩)
      rw [hs]
      exact hh
    first
      | exact wpAny_bind (wpAny_pure (wpAny_bind out))
      | exact wpAny_bind out
  | @cons x n c i ts b0 bs p q hs2 l2 hi hl hc hsu r ih =>
    intro w
    obtain ⟨b, e1, yes, no⟩ := w
    refine wpAny_handleBy_cons (codeAny_handlers_test ?_) (fun z => nomatch z)
    have look : PySem.W.Looks (model X.prog X.w) s.heap (typeOf (.ref a)) cls := fun A Q E s2 k qq => wpAny_typeOf_ref (k _ _ he) (by rw [hz.1]; exact qq)
    have lm := PySem.W.exm_one (M := model X.prog X.w) st.kIn look e1
    have name : ∀ {Q E : Value → Shared → Prop}, Q c s → wpAny (model X.prog X.w) (X.A.mark (some (.ref a))) (eval (.Name x p) X.env) Q E s := fun {Q E} qq => by
      obtain ⟨g1, g2, g3 | ⟨g3, g4, g5⟩⟩ := hc
      · exact ld_glob (X := X.suite a ((a, o) :: (X.pn ++ pins))) su g1 g3 qq g2
      · exact ld_blt (X := X.suite a ((a, o) :: (X.pn ++ pins))) su g1 g3 g4 qq g5 g2
    refine name (lm.here ?_)
    cases b with
    | false => exact ih (no rfl)
    | true =>
      refine codeAny_handlers_suite_as ?_
      refine HandSPX.lands_againZ S.held fun h4 fl4 up4 => ?_
      have J4 : Inv X pins σ G { s with heap := h4 } := S.inv.landed S.nb fl4.1 (S.up.trans up4) S.os S.ag
      obtain ⟨o4, vs4, he4, hz4, hd4⟩ := fl4.there
      have loc : Loc X.env.scope n := .inl hl
      refine store_ok (X := X.suite a ((a, o4) :: (X.pn ++ pins))) (v := .ref a) (J4.suite he4 hd4 S.na nL nF) hN hi loc rfl (fun s5 S5 => ?_) (.inr hl)
      have go : ∀ {τ : L2.St} {G6 : Hp} {s6 : Shared} {Q : Shared → Prop}, Inv (X.suite a ((a, o4) :: (X.pn ++ pins))) [] τ G6 s6 → (∀ s7, Inv X pins (τ.set i none) G6 s7 → Q s7) → wpAny (model X.prog X.w) X.A (do bindName X.env n .none; unbindBehindTheSuite X.env n q) (fun _ s7 => Q s7) X.xe s6 :=
        fun {τ G6 s6 Q} S6 hq => gone_ok (S6.unsuite ok) hN hi hl hq
      refine wpAny_mono ((hsu a o4 cls d (X.pn ++ pins) hz4 ⟨_, hd4⟩).run [] s5 _ G _ S5 (yes rfl a S.na)) (fun f s6 hsp => ?_) (fun _ _ z => False.elim z)
      cases f with
      | next => obtain ⟨τ, G6, S6, q6⟩ := hsp; exact go S6 fun s7 J7 => ⟨_, _, J7, q6⟩
      | brk => obtain ⟨τ, G6, S6, q6⟩ := hsp; exact go S6 fun s7 J7 => ⟨_, _, J7, q6⟩
      | cont => obtain ⟨τ, G6, S6, q6⟩ := hsp; exact go S6 fun s7 J7 => ⟨_, _, J7, q6⟩
      | ret u => obtain ⟨v, τ, G6, S6, r6, q6⟩ := hsp; exact go S6 fun s7 J7 => ⟨_, _, _, J7, r6, q6⟩
end
theorem ps_tryAs {X : Cx} {body : List Stmt} {h0 : ExceptHandler} {hds : List ExceptHandler} {l : List Cl} {pos : Pos} {tb : WX → TS} {W : WX} (hs : X.stack = X.env :: X.outer) (hf : X.env.frame = some X.env.locals) (hN : X.N.Nodup) (tk : Takes X W)
    (hb : ∀ (W' : WX) (pn : List (Addr × Obj)) (xe : Value → Shared → Prop), Takes (X.tr pn xe) W' → PassesOwn (model X.prog X.w) X.A X.env xe → PSs (X.tr pn xe) body (tb W')) (hh : ClsOk X (h0 :: hds) l) :
    PS X (.Try body (h0 :: hds) [] [] pos) (fun D σ H => tb (wAsL X.K W D l) D σ H) := by
  refine ⟨fun pins s σ H D I h => wpAny_Try_except ?_⟩
  have ok := I.ok
  have fr : X.A.frames = some (X.env :: X.outer) := by rw [ok.frames, hs]
  refine wpAny_mono ((hb (wAsL X.K W D l) (X.pn ++ pins) (fun e s1 => wpAny (model X.prog X.w) X.A (noteFrame e X.env) (fun _ s2 => wpAny (model X.prog X.w) X.A (setFlight e none) (fun _ s3 => wpAny (model X.prog X.w) X.A (handleBy e X.env (h0 :: hds)) (SP X pins D) X.xe s3) X.xe s2) X.xe s1)
    (fun u s' xx => ?_) PassesOwn.looking).run [] s σ H D (I.toTry _) h) (fun f s1 sp => ?_) (fun e s1 he => he)
  · obtain ⟨a, B, sI, pn', σ', H', cls, d, rfl, J', nb, up, sky, na, os, ag, w⟩ := xx
    have sky2 : Sky B (X.env :: X.outer) a (Zc cls d) X.env.locals s'.heap := by rw [← hs]; exact sky
    show wpAny _ X.A (noteFrame (.ref a) X.env) _ _ _
    refine Sky.land Zc.steady fr hf sky2 fun h3 fl3 up3 => ?_
    exact clauses (s := { s' with heap := h3 }) hs hf hN tk ⟨J'.ofTry ok, nb, up.trans up3, fl3, na, os, ag⟩ hh w
  · cases f with
    | next => obtain ⟨τ, G, J, q⟩ := sp; exact wpAny_execs_nil ⟨τ, G, J.ofTry ok, q⟩
    | brk => obtain ⟨τ, G, J, q⟩ := sp; exact ⟨τ, G, J.ofTry ok, q⟩
    | cont => obtain ⟨τ, G, J, q⟩ := sp; exact ⟨τ, G, J.ofTry ok, q⟩
    | ret u => obtain ⟨v, τ, G, J, r, q⟩ := sp; exact ⟨v, τ, G, J.ofTry ok, r, q⟩
/-! ### isinstance(e, C) within the suite, e the caught -/
def rIsiX (K : PySem.W.Frag) (a : Addr) (cls : Value) : List V → Hp → VK → Prop := fun xs H Q => ∃ (c : V) (u : Value), xs = [.ref a, c] ∧ ClsV c u ∧ PySem.W.kitOne K cls u = some true ∧ Q (.bl true) H
section
open PySem.W
theorem isi_yes {K : Frag} {x t c : Value} {I : Heap → Prop} (ty : ∀ (M : Model) (h : Heap), I h → Looks M h (typeOf x) t) (e : kitOne K t c = some true) : Answers (fun s => K.In s.heap ∧ I s.heap) x c true := by
  intro dep tk prog w A R s hs
  obtain ⟨hp, g, dr, t0, os⟩ := s
  obtain ⟨⟨kin, p⟩, hq⟩ := hs
  have lt := ty (model prog w) hp p
  unfold Builtin.«isinstance.nested»
  refine wpAny_bind (lt.at ?_)
  unfold kitOne at e
  by_cases q : (t == c) = true
  · rw [if_pos q]
    first
      | ((repeat lk); exact hq t0)
      | exact wpAny_bind (wpAny_rule (hq t0))
      | exact wpAny_bind (wpAny_rule (wpAny_pure (hq t0)))
  · rw [if_neg q] at e ⊢
    obtain ⟨l1, l2, l3⟩ := kit_cls (M := model prog w) kin e
    have l4 : Looks (model prog w) hp (isInstance x c) true := lt.andThen l3
    refine wpAny_bind (l1.at ?_)
    rw [if_pos (by decide)]
    k_delta "plainIsInstance"
    refine wpAny_bind (wpAny_bind (l2.at ?_))
    simp only [Bool.not_true, Bool.false_eq_true, if_false]
    refine wpAny_bind (l4.at ?_)
    first
      | exact wpAny_pure (wpAny_pure (hq t0))
      | (simp only [if_true]; first | exact wpAny_pure (wpAny_pure (hq t0)) | exact wpAny_pure (hq t0) | exact wpAny_bind (wpAny_pure (wpAny_pure (hq t0))))
end
theorem call_isiX {X : Cx} {a : Addr} {o : Obj} {cls : Value} {d : Option Addr} {pn : List (Addr × Obj)} (hz : Zc cls d o) : CallR (X.suite a ((a, o) :: pn)) (.builtin "isinstance") (rIsiX X.K a cls) := by
  intro pins s σ H xs us Q I r h
  obtain ⟨c, u, rfl, k, e, q⟩ := h
  obtain ⟨u1, u2, rfl, r1, r2⟩ := vals2 r
  cases (show u1 = Value.ref a from r1)
  have e2 := k.eq r2
  subst e2
  obtain ⟨ha, _⟩ := I.pin (a, o) (List.mem_append_left _ List.mem_cons_self)
  exact call_isinstance (S := fun _ R s => (X.K.In s.heap ∧ s.heap.get? a = some o) ∧ ∀ tk, R (.ok (.ret (.bool true))) { s with toks := tk })
    (fun prog w A R s hs => isinstance_outer (isi_yes (fun M h p A Q E s k q => wpAny_typeOf_ref (k _ _ p) (by rw [hz.1]; exact q)) e 0 _ prog w A R s hs) (fun z => nomatch z)) ⟨⟨I.kIn, ha⟩, fun tk => ⟨.bl true, H, I.tok tk, rfl, q⟩⟩
/-! ### calls within a try's body; by name alone -/
section
variable {X : Cx} {CX : CXT} {k : Nat} {f : Addr} {fd : FuncData} {ps ks : List Str} {sp : Sp} {E : L2.St → XK} {x : Str} {p pos : Pos} {kws : List Keyword} {tk : TA} {g : List Value → List Value → List Value} {gV : List V → List V → List V}
def tKS (sp : Sp) (gV : List V → List V → List V) (E : L2.St → XK) (tk : TA) : TE := fun σ H Q => tk σ H fun zs H2 => sp (gV [] zs) H2 Q (E σ)
theorem pe_callKS (F : FnOk X.prog X.w X.K X.mg X.base CX k f fd ps sp) (hr : Room k X.A) (hg : Gl X x) (hm : X.mg x = some (.ref f)) (hk : PySem.W.keepIn X.K (.ref f) = true) (hb : KBinds X.K fd ps ks g gV) (hx : ∀ σ, PassesAt CX X σ (E σ)) (hkw : PK X kws tk)
    (hall : (backToKw pos (keywordEach kws X.env)).all (·.1.isSome) = true := by rfl) (hks : (backToKw pos (keywordEach kws X.env)).filterMap (·.1) = ks := by rfl) (hdb : (x == ("__debug__" : Str)) = false := by decide)
    (hpl : ((backTo pos (starEach [] X.env)).any (·.1) || (backToKw pos (keywordEach kws X.env)).any (·.1.isNone)) = false := by rfl) : PE X (.Call (.Name x p) [] kws pos) (tKS sp gV E tk) := by
  refine ⟨fun pins s σ H Q I h => wpAny_Call_Name_kw (ld_glob I hg hm ?_ hdb)⟩
  refine PySem.W.callWith_KW0 (h₀ := X.base) I.ok.mod.kin hk hall ?_ hpl
  refine thn (hkw.run pos pins s σ H _ I h) fun ws s2 ⟨zs, H2, I2, rz, q2⟩ => ⟨I2.kIn, ?_⟩
  rw [hks]
  have r2 := hb.rel (vs := []) (us := []) .nil rz
  have hl : (g [] ws).length = ps.length := r2.length.symm.trans (F.len _ _ _ _ q2)
  refine wpAny_call (codeAny_mono (F.run X.A X.stack s2 H2 ⟨[], ks.zip ws⟩ _ _ Q (E σ) hr I2.env0 (hb.to s2 [] ws I2.kIn hl) r2 q2) fun r s' hq => ?_)
  match r, hq with
  | .error e, hq => exact hx σ pins H2 s2 e s' I2 hq
  | .ok (.ret u), hq => exact I2.after hq
theorem dcallK0 (G : Def X.prog X.w X.K X.mg X.base CX0 x k ps sp f fd) (hr : Room k X.A) (hb : KBinds X.K fd ps ks g gV) (hkw : PK X kws tk) (hg : Gl X x := by rfl)
    (hall : (backToKw pos (keywordEach kws X.env)).all (·.1.isSome) = true := by rfl) (hks : (backToKw pos (keywordEach kws X.env)).filterMap (·.1) = ks := by rfl) (hdb : (x == ("__debug__" : Str)) = false := by decide)
    (hpl : ((backTo pos (starEach [] X.env)).any (·.1) || (backToKw pos (keywordEach kws X.env)).any (·.1.isNone)) = false := by rfl) : PE X (.Call (.Name x p) [] kws pos) (tCallK sp gV E0 tNil tk) := pe_callK0 G.ok hr hg G.gl G.kp hb pass0 hkw hall hks hdb hpl
/-- within a try -/
theorem dcallT {e : Expr} {es : List Expr} {t : TA} {W : WX} (G : Def X.prog X.w X.K X.mg X.base (L2.CX X.prog X.w) x k ps sp f fd) (hr : Room k X.A) (tk : Takes X W) (ha : PA X (e :: es) t)
    (hg : Gl X x := by rfl) (hd : (x == ("__debug__" : Str)) = false := by decide) (he : starEach (e :: es) X.env = (false, eval e X.env) :: starEach es X.env := by rfl) (hpl : (backTo pos (starEach es X.env)).any (·.1) = false := by rfl) :
    PE X (.Call (.Name x p) (e :: es) [] pos) (tCallS sp (WE W) t) := pe_callS G.ok hr hg G.gl G.kp G.bi (fun σ => passAt tk σ) ha hd he hpl
theorem dcallKT {W : WX} {ta : TA} (G : Def X.prog X.w X.K X.mg X.base (L2.CX X.prog X.w) x k ps sp f fd) (hr : Room k X.A) (hb : KBinds X.K fd ps ks g gV) (tk : Takes X W) (hkw : PK X kws ta) (hg : Gl X x := by rfl)
    (hall : (backToKw pos (keywordEach kws X.env)).all (·.1.isSome) = true := by rfl) (hks : (backToKw pos (keywordEach kws X.env)).filterMap (·.1) = ks := by rfl) (hdb : (x == ("__debug__" : Str)) = false := by decide)
    (hpl : ((backTo pos (starEach [] X.env)).any (·.1) || (backToKw pos (keywordEach kws X.env)).any (·.1.isNone)) = false := by rfl) : PE X (.Call (.Name x p) [] kws pos) (tKS sp gV (WE W) ta) := pe_callKS G.ok hr hg G.gl G.kp hb (fun σ => passAt tk σ) hkw hall hks hdb hpl
end
end Ser
end
section
set_option maxRecDepth 100000
set_option maxHeartbeats 4000000
namespace Ser
open PySem L2
section
variable {P : Program} {w : World} {K : PySem.W.Frag} {mg : Str → Option Value} {base : Heap} {aN aW : Addr}
/-! ### heard -/
/-- what the written part says of the three classes of errors -/
structure XTx (K : PySem.W.Frag) (mg : Str → Option Value) (CE CU CS : Addr) : Prop where
  gE : mg "Endless" = some (.ref CE)
  gU : mg "Uneven" = some (.ref CU)
  gS : mg "SerialError" = some (.ref CS)
  xE : XfC K CE
  xU : XfC K CU
  nE : PySem.W.findIn K (.ref CE) "paper" = some none
  nU : PySem.W.findIn K (.ref CU) "shares" = some none
  ee : PySem.W.exmOne K (.ref CE) (.ref CE) = some true
  ue : PySem.W.exmOne K (.ref CU) (.ref CE) = some false
  uu : PySem.W.exmOne K (.ref CU) (.ref CU) = some true
  sE : PySem.W.kitOne K (.ref CE) (.ref CS) = some true
  sU : PySem.W.kitOne K (.ref CU) (.ref CS) = some true
def TellD (m : Nat) (T : SM.Tree) (wh : Nat) (d : PyData) : Prop := (wh = 0 ∧ d = frD (exF m T)) ∨ (wh = 1 ∧ ((mnS m T = SM.bst m ∧ d = .none) ∨ (mnS m T ≠ SM.bst m ∧ ∃ D : Nat, UnAt m T D ∧ d = .int (D : Nat))))
theorem UnAt.eq {m : Nat} {T : SM.Tree} {D D' : Nat} (h : UnAt m T D) (h' : UnAt m T D') : D = D' := by
  obtain ⟨a, x, hx, nx⟩ := h
  obtain ⟨a', x', hx', nx'⟩ := h'
  rcases Nat.lt_trichotomy D D' with e | e | e
  · exact absurd (a' D x e hx) nx
  · exact e
  · exact absurd (a D' x' e hx') nx'
theorem TellD.eq {m wh : Nat} {T : SM.Tree} {d d' : PyData} (h : TellD m T wh d) (h' : TellD m T wh d') : d = d' := by
  rcases h with ⟨a, rfl⟩ | ⟨a, ⟨b, rfl⟩ | ⟨b, D, u, rfl⟩⟩ <;> rcases h' with ⟨a', rfl⟩ | ⟨a', ⟨b', rfl⟩ | ⟨b', D', u', rfl⟩⟩
  all_goals first
    | rfl
    | (rw [u.eq u']; done)
    | (exact absurd b b')
    | (exact absurd b' b)
    | (rw [a] at a'; exact absurd a' (by decide))
def HeardD (m : Nat) (T : SM.Tree) (wh : Nat) (d : PyData) : Prop :=
  (EvenT m T ∧ ∃ e, TellD m T wh e ∧ d = .tuple [.str "told", e, e]) ∨ (AllLive T ∧ ¬ AllEq (shS m T) ∧ d = .tuple [.str "uneven", shD m T, .bool true]) ∨ (¬ AllLive T ∧ ∃ u, DeadAt T u ∧ d = .tuple [.str "endless", papE u, .bool true])
abbrev sLHeard : Stmt := top 61
def NLHeard : List Str := ["_law_much", "_law_nodes", "_law_which", "e"]
theorem scLHeard : FnScope NLHeard ["_law_much", "_law_nodes", "_law_which"] (defScope sLHeard) := ⟨rfl, rfl, rfl, by decide +kernel, rfl, by decide +kernel, by decide +kernel⟩
def spLHeard (K : PySem.W.Frag) : Sp := fun vs H Q _ => ∃ (v : V) (T : SM.Tree) (m wh : Nat), vs = [.int m, v, .int wh] ∧ TD K H v (trD T) ∧ Fit m T ∧ (wh = 0 ∨ wh = 1) ∧ ∀ v' H' d, Same H H' → TD K H' v' d → HeardD m T wh d → Q v' H'
theorem ok_l_heard {f f1 f2 CE CU CS : Addr} {fd fd1 fd2 : FuncData} (F : FnP K "_law_heard" sLHeard f fd) (T : Tx K mg aN aW) (XT : XTx K mg CE CU CS) (G_excess : Def P w K mg base (L2.CX P w) "excess" 6 ["many", "tree"] (spExcess K CE CU) f1 fd1)
    (G_unlike_depth : Def P w K mg base (L2.CX P w) "unlike_depth" 8 ["many", "tree"] (spUnlike K CE CU) f2 fd2) (GK1 : KBinds K fd1 ["many", "tree"] ["tree", "many"] sw2 sw2) (GK2 : KBinds K fd2 ["many", "tree"] ["tree", "many"] sw2 sw2) : FnOk P w K mg base CX0 9 f fd ["_law_much", "_law_nodes", "_law_which"] (spLHeard K) := by
  refine F.ok scLHeard (fun vs H Q E h => ?_) (fun cdv A outer s H vs Q E hr h => ?_)
  · obtain ⟨_, _, _, _, rfl, _⟩ := h
    rfl
  · obtain ⟨v, Tr, m, wh, rfl, tv, Ft, hwh, k⟩ := h
    refine ⟨_, PSs.nox <| pss_one (ps_tryAs rfl rfl scLHeard.nd takes0 (fun W pn xe tk _ => pss_cons (ps_if (pt_cmp (pc_eqI (pv 2) pe_int)) (pss_one (ps_ret (pe_tup (pa_cons pe_str (pa_cons (dcallT G_excess (hr.mono (by decide)) tk (pa_cons (pv 0) (pa_cons (pv 1) pa_nil))) (pa_cons (dcallKT G_excess (hr.mono (by decide)) GK1 tk (pk_cons (pv 1) (pk_cons (pv 0) pk_nil))) pa_nil)))))) pss_nil)
      (pss_one (ps_ret (pe_tup (pa_cons pe_str (pa_cons (dcallT G_unlike_depth (hr.mono (by decide)) tk (pa_cons (pv 0) (pa_cons (pv 1) pa_nil))) (pa_cons (dcallKT G_unlike_depth (hr.mono (by decide)) GK2 tk (pk_cons (pv 1) (pk_cons (pv 0) pk_nil))) pa_nil)))))))
      (.cons (i := 3) rfl rfl ⟨rfl, by decide, .inl XT.gE⟩ (fun a oe cls d pn hz hf => pss_one (ps_ret (pe_tup (pa_cons pe_str (pa_cons (pe_xf XT.xE XT.nE hz hf (pv 3)) (pa_cons (pe_callB (call_isiX hz) (by rfl) T.isinstance_ (by decide +kernel) (pa_cons (pv 3) (pa_cons (pe_gr XT.gS) pa_nil))) pa_nil))))))
      (.cons (i := 3) rfl rfl ⟨rfl, by decide, .inl XT.gU⟩ (fun a oe cls d pn hz hf => pss_one (ps_ret (pe_tup (pa_cons pe_str (pa_cons (pe_xf XT.xU XT.nU hz hf (pv 3)) (pa_cons (pe_callB (call_isiX hz) (by rfl) T.isinstance_ (by decide +kernel) (pa_cons (pv 3) (pa_cons (pe_gr XT.gS) pa_nil))) pa_nil)))))) .nil))), ?_⟩
    have q0 : (100000 : Nat) ≤ sizeLine := by decide
    have kE : ¬ AllLive Tr → ∀ H1, Same H H1 → RaisesE K CE Tr H1 (WE (wAsL K (fun _ _ _ _ => False) { nx := fun _ H' => Q .non H', rt := Q } [(.ref CE, 3, fun a cls d => tRet (tTup (tCons (tC (.str "endless")) (tCons (tXf a cls d CE "paper" (tVar 3)) (tCons (tCB (rIsiX K a cls) (tCons (tVar 3) (tCons (tC (.ref CS)) tNil))) tNil))))), (.ref CU, 3, fun a cls d => tRet (tTup (tCons (tC (.str "uneven")) (tCons (tXf a cls d CU "shares" (tVar 3)) (tCons (tCB (rIsiX K a cls) (tCons (tVar 3) (tCons (tC (.ref CS)) tNil))) tNil)))))]) (L2.start NLHeard [.int m, v, .int wh])) := by
      intro nl H1 s1 d H' y u nd s' hx ty dead
      refine ⟨true, XT.ee, fun _ a na => ?_, fun h => Bool.noConfusion h⟩
      refine ⟨_, rfl, rfl, rfl, d, _, y, rfl, hx, by simp [List.lookup], _, rfl, _, _, rfl, .own CS, XT.sE, (by show 3 ≤ sizeLine; omega), fun p hp => ?_⟩
      have sp : Same H' (upd H' p (.tup [.str "endless", y, .bl true])) := Ser.Same.new hp
      exact k _ _ _ ((s1.trans s').trans sp) (.tup (SqT.mk upd_same) (.cons (.str _) (.cons (ty.mono (TupEx.of sp)) (.cons (.bl true) .nil)))) (.inr (.inr ⟨nl, u, dead, rfl⟩))
    have kU : AllLive Tr → ¬ AllEq (shS m Tr) → ∀ H1, Same H H1 → RaisesU K CU m Tr H1 (WE (wAsL K (fun _ _ _ _ => False) { nx := fun _ H' => Q .non H', rt := Q } [(.ref CE, 3, fun a cls d => tRet (tTup (tCons (tC (.str "endless")) (tCons (tXf a cls d CE "paper" (tVar 3)) (tCons (tCB (rIsiX K a cls) (tCons (tVar 3) (tCons (tC (.ref CS)) tNil))) tNil))))), (.ref CU, 3, fun a cls d => tRet (tTup (tCons (tC (.str "uneven")) (tCons (tXf a cls d CU "shares" (tVar 3)) (tCons (tCB (rIsiX K a cls) (tCons (tVar 3) (tCons (tC (.ref CS)) tNil))) tNil)))))]) (L2.start NLHeard [.int m, v, .int wh])) := by
      intro al ne H1 s1 d H' y nd s' hx ty
      refine ⟨false, XT.ue, fun h => Bool.noConfusion h, fun _ => ⟨true, XT.uu, fun _ a na => ?_, fun h => Bool.noConfusion h⟩⟩
      refine ⟨_, rfl, rfl, rfl, d, _, y, rfl, hx, by simp [List.lookup], _, rfl, _, _, rfl, .own CS, XT.sU, (by show 3 ≤ sizeLine; omega), fun p hp => ?_⟩
      have sp : Same H' (upd H' p (.tup [.str "uneven", y, .bl true])) := Ser.Same.new hp
      exact k _ _ _ ((s1.trans s').trans sp) (.tup (SqT.mk upd_same) (.cons (.str _) (.cons (ty.mono (TupEx.of sp)) (.cons (.bl true) .nil)))) (.inr (.inl ⟨al, ne, rfl⟩))
    have fin : EvenT m Tr → ∀ e, TellD m Tr wh e → ∀ H1 v1 H2 v2, Same H H1 → TD K H1 v1 e → Same H1 H2 → TD K H2 v2 e → ∀ p, H2 p = none → Q (.ref p) (upd H2 p (.tup [.str "told", v1, v2])) := by
      intro hE e he H1 v1 H2 v2 s1 t1 s2 t2 p hp
      have sp : Same H2 (upd H2 p (.tup [.str "told", v1, v2])) := Ser.Same.new hp
      exact k _ _ _ ((s1.trans s2).trans sp) (.tup (SqT.mk upd_same) (.cons (.str _) (.cons (t1.mono (TupEx.of (s2.trans sp))) (.cons (t2.mono (TupEx.of sp)) .nil)))) (.inl ⟨hE, e, he, rfl⟩)
    refine ⟨_, rfl, _, _, rfl, rfl, _, rfl, iteB2 (fun hb => ?_) (fun hb => ?_)⟩
    · have hb : (wh : Int) = 0 := of_decide_eq_true hb
      have h0 : wh = 0 := by omega
      refine ⟨_, rfl, _, rfl, v, Tr, m, rfl, tv, Ft, fun hE v1 H1 s1 t1 => ?_, fun hl he => kU hl he H (fun _ _ e => e), fun hl => kE hl H (fun _ _ e => e)⟩
      refine ⟨_, rfl, _, rfl, v, Tr, m, rfl, tv.mono (TupEx.of s1), Ft, fun _ v2 H2 s2 t2 => ⟨(by show 3 ≤ sizeLine; omega), fun p hp => ?_⟩, fun hl he => absurd hE.2 he, fun hl => absurd hE.1 hl⟩
      exact fin hE _ (.inl ⟨h0, rfl⟩) H1 v1 H2 v2 s1 t1 s2 t2 p hp
    · have hb : ¬ (wh : Int) = 0 := of_decide_eq_false hb
      have h1 : wh = 1 := by omega
      refine ⟨_, rfl, _, rfl, v, Tr, m, rfl, tv, Ft, fun hE hm H1 s1 => ?_, fun hE hm D H1 s1 hU => ?_, fun hl he => kU hl he H (fun _ _ e => e), fun hl => kE hl H (fun _ _ e => e)⟩
      · refine ⟨_, rfl, _, rfl, v, Tr, m, rfl, tv.mono (TupEx.of s1), Ft, fun _ _ H2 s2 => ⟨(by show 3 ≤ sizeLine; omega), fun p hp => ?_⟩, fun _ hm2 => absurd hm hm2, fun hl he => absurd hE.2 he, fun hl => absurd hE.1 hl⟩
        exact fin hE _ (.inr ⟨h1, .inl ⟨hm, rfl⟩⟩) H1 _ H2 _ s1 .non s2 .non p hp
      · refine ⟨_, rfl, _, rfl, v, Tr, m, rfl, tv.mono (TupEx.of s1), Ft, fun _ hm2 => absurd hm2 hm, fun _ _ D2 H2 s2 hU2 => ⟨(by show 3 ≤ sizeLine; omega), fun p hp => ?_⟩, fun hl he => absurd hE.2 he, fun hl => absurd hE.1 hl⟩
        rw [hU2.eq hU] at *
        exact fin hE _ (.inr ⟨h1, .inr ⟨hm, D, hU, rfl⟩⟩) H1 _ H2 _ s1 (.int _) s2 (.int _) p hp
end
end Ser
end
section
set_option exponentiation.threshold 800
set_option maxRecDepth 100000
set_option maxHeartbeats 4000000
namespace Ser
open PySem L2
section
variable {P : Program} {w : World} {K : PySem.W.Frag} {mg : Str → Option Value} {base : Heap} {aN aW : Addr}
/-! ### right -/
theorem with_st {t : TS} {D : Ends} {σ σ' : L2.St} {H : Hp} (e : σ = σ') (h : t D σ' H) : t D σ H := by rw [e]; exact h
theorem seqPar {i j : Nat} {ta : TA} {u : TS} {D : Ends} {σ : L2.St} {H : Hp} (R : V → V → Hp → Prop) (hA : ∀ Q : List V → Hp → Prop, (∀ a b H, R a b H → Q [a, b] H) → ta σ H Q) (hQ : ∀ a b H', R a b H' → u D ((σ.set i (some a)).set j (some b)) H') : tSeq (tPar i j ta) u D σ H :=
  hA _ fun a b H r => ⟨a, b, rfl, hQ a b H r⟩
theorem rowB_flat (n : Nat) (f : Nat → Bool) : (rowB n f).all flatV = true := by
  unfold rowB
  rw [List.all_map, List.all_eq_true]
  exact fun _ _ => rfl
theorem rowB_in (n : Nat) (f : Nat → Bool) : (!inV (.bl false) (rowB n f)) = true ↔ ∀ t, t < n → f t = true := by
  unfold inV rowB
  rw [List.any_map, Bool.not_eq_true', List.any_eq_false]
  refine ⟨fun h t ht => ?_, fun h t ht => ?_⟩
  · have := h t (List.mem_range.mpr ht)
    cases e : f t with
    | true => rfl
    | false => exact absurd (show (f t == false) = true by rw [e]; rfl) this
  · have := h t (List.mem_range.mp ht)
    show ¬ (f t == false) = true
    rw [this]; decide
theorem bool_iff {a b : Bool} {P : Prop} (h : a = true ↔ P) (h' : b = true ↔ P) : a = b := by
  cases a with
  | true => exact (h'.mpr (h.mp rfl)).symm
  | false =>
    cases b with
    | true => exact h.mpr (h'.mp rfl)
    | false => rfl
/-! what repr asks -/
structure Shx (w n : Nat) (d : PyData) : Prop where
  sh : d.showable = true
  ls : d.leavesShort 220 = true
  wt : d.weight ≤ w
  dp : d.depth ≤ n
  nd : d.hasDict = false
theorem Shx.all {w n : Nat} : ∀ {ds : List PyData}, (∀ d ∈ ds, Shx w n d) → PyData.showableAll ds = true ∧ PyData.leavesShortAll 220 ds = true ∧ PyData.weightAll ds ≤ (w + 1) * ds.length ∧ PyData.depthAll ds ≤ n ∧ PyData.hasDictAll ds = false
  | [], _ => ⟨rfl, rfl, Nat.zero_le _, Nat.zero_le _, rfl⟩
  | d :: ds, h => by
    obtain ⟨a1, a2, a3, a4, a5⟩ := Shx.all fun e he => h e (List.mem_cons_of_mem _ he)
    have b := h d List.mem_cons_self
    have b3 := b.wt
    have b4 := b.dp
    refine ⟨?_, ?_, ?_, ?_, ?_⟩
    · simp only [PyData.showableAll, b.sh, a1, Bool.and_self]
    · simp only [PyData.leavesShortAll, b.ls, a2, Bool.and_self]
    · simp only [PyData.weightAll, List.length_cons, Nat.mul_succ]; omega
    · simp only [PyData.depthAll]; omega
    · simp only [PyData.hasDictAll, b.nd, a5, Bool.or_self]
theorem Shx.tuple {w n : Nat} {ds : List PyData} (h : ∀ d ∈ ds, Shx w n d) : Shx ((w + 1) * ds.length) (n + 1) (.tuple ds) := by
  obtain ⟨a1, a2, a3, a4, a5⟩ := Shx.all h
  exact ⟨a1, a2, a3, Nat.succ_le_succ a4, a5⟩
theorem Shx.list {w n : Nat} {ds : List PyData} (h : ∀ d ∈ ds, Shx w n d) : Shx ((w + 1) * ds.length) (n + 1) (.list ds) := by
  obtain ⟨a1, a2, a3, a4, a5⟩ := Shx.all h
  exact ⟨a1, a2, a3, Nat.succ_le_succ a4, a5⟩
theorem Shx.mono {w n w' n' : Nat} {d : PyData} (h : Shx w n d) (hw : w ≤ w') (hn : n ≤ n') : Shx w' n' d := ⟨h.sh, h.ls, Nat.le_trans h.wt hw, Nat.le_trans h.dp hn, h.nd⟩
theorem Shx.int {i : Int} (h : Sz 700 i) : Shx 700 0 (.int i) := by
  have hl : i.natAbs.log2 < 700 := by
    by_cases e : i.natAbs = 0
    · rw [e]; decide
    · exact (Nat.log2_lt e).mpr h
  have hp : (2 : Nat) ^ 700 < 10 ^ 219 := by decide +kernel
  refine ⟨?_, ?_, ?_, Nat.zero_le _, rfl⟩
  · show decide (i.natAbs.log2 < 1920) = true
    exact decide_eq_true (by omega)
  · show decide ((PyData.shown (.int i)).length ≤ 220) = true
    refine decide_eq_true ?_
    have e := int_text_length_le10 (k := 219) (by decide) (Nat.lt_trans h hp)
    show (Str.ofString (toString i)).length ≤ 220
    rw [ofString_length]; exact e
  · show (if i == 0 then 0 else i.natAbs.log2 + 1) ≤ 700
    split <;> omega
theorem Shx.fr {x : Int × Int} (h1 : Sz 700 x.1) (h2 : Sz 700 x.2) : Shx 1402 1 (frD x) := Shx.tuple (ds := [.int x.1, .int x.2]) fun d hd => by
  simp only [List.mem_cons, List.not_mem_nil, or_false] at hd
  rcases hd with rfl | rfl
  · exact .int h1
  · exact .int h2
theorem Shx.shw {w n : Nat} {d : PyData} (h : Shx w n d) (hw : w ≤ 60000) (hn : n ≤ 20) : Shw d := ⟨h.sh, h.ls, Nat.le_trans h.wt hw, Nat.le_trans h.dp hn, h.nd⟩
theorem Shx.bool (b : Bool) : Shx 0 0 (.bool b) := ⟨rfl, rfl, Nat.le_refl _, Nat.le_refl _, rfl⟩
theorem shx_three {w n : Nat} {u : Str} {d e : PyData} (hu : Shx w n (.str u)) (hd : Shx w n d) (he : Shx w n e) : Shx ((w + 1) * 3) (n + 1) (.tuple [.str u, d, e]) := Shx.tuple (ds := [.str u, d, e]) fun x hx => by
  simp only [List.mem_cons, List.not_mem_nil, or_false] at hx
  rcases hx with rfl | rfl | rfl
  · exact hu
  · exact hd
  · exact he
theorem shx_two {w n : Nat} {d e : PyData} (hd : Shx w n d) (he : Shx w n e) : Shx ((w + 1) * 2) (n + 1) (.list [d, e]) := Shx.list (ds := [d, e]) fun x hx => by
  simp only [List.mem_cons, List.not_mem_nil, or_false] at hx
  rcases hx with rfl | rfl
  · exact hd
  · exact he
theorem shw_uneven {m : Nat} {T : SM.Tree} (V0 : Va m T) (hL : AllLive T) (h6 : m ≤ 6) : Shw (.list [.tuple [.str "uneven", shD m T, .bool true], .tuple [.str "uneven", shD m T, .bool true]]) := by
  have hne : T ≠ [] := fun z => by have := V0.ok.pos; rw [z] at this; exact absurd this (by decide)
  have hs : Shx 8418 2 (shD m T) := by
    have e : shS m T = (List.range m).map (SM.shF m T 0) := if_neg hne
    unfold shD
    rw [e]
    refine (Shx.tuple (w := 1402) (n := 1) fun d hd => ?_).mono ?_ (Nat.le_refl _)
    · obtain ⟨x, hx, rfl⟩ := List.mem_map.mp hd
      obtain ⟨j, _, rfl⟩ := List.mem_map.mp hx
      have := fs_sh V0 hL 0 j
      exact .fr (this.s1.mono (by decide)) (this.s2.mono (by decide))
    · rw [List.length_map, List.length_map, List.length_range]; omega
  have one := shx_three (u := "uneven") (w := 8418) (n := 2) ⟨by decide +kernel, by decide +kernel, by decide +kernel, by decide +kernel, by decide +kernel⟩ hs ((Shx.bool true).mono (by decide) (by decide))
  exact (shx_two one one).shw (by decide) (by decide)
theorem shw_told {m : Nat} {T : SM.Tree} {e : PyData} (Vs0 : Vs m T) (hE : EvenT m T) (m1 : 0 < m) (he : TellD m T 1 e) : Shw (.list [.tuple [.str "told", frD (exF m T), frD (exF m T)], .tuple [.str "told", e, e]]) := by
  have V0 := Vs0.va
  have LvT : Lv m T := .inr ⟨V0, hE.1⟩
  have z1 := mnS_sz LvT
  have z2 := bst_sz m1 V0.m12
  have p1 := mnS_pos LvT
  have p2 := SM.bst_pos m1 V0.m12
  have hx : Shx 1402 1 (frD (exF m T)) := by
    have a : Sz 561 ((mnS m T).1 * (SM.bst m).2 - (SM.bst m).1 * (mnS m T).2) := Sz.sub (a := 560) (z1.1.mul z2.2) ((z2.1.mul z1.2).mono (by decide))
    have b : Sz 560 ((mnS m T).2 * (SM.bst m).2) := z1.2.mul z2.2
    obtain ⟨c, d⟩ := SM.fr_natAbs (p := (mnS m T).1 * (SM.bst m).2 - (SM.bst m).1 * (mnS m T).2) (Int.mul_pos p1 p2)
    exact .fr (Sz.mono (Nat.lt_of_le_of_lt c a) (by decide)) (Sz.mono (Nat.lt_of_le_of_lt d b) (by decide))
  have hs : Shx 1402 1 (.str "told") := ⟨by decide +kernel, by decide +kernel, by decide +kernel, by decide +kernel, by decide +kernel⟩
  have hee : Shx 1402 1 e := by
    rcases he with ⟨h, _⟩ | ⟨_, ⟨_, rfl⟩ | ⟨_, D, hU, rfl⟩⟩
    · exact absurd h (by decide)
    · exact ⟨rfl, rfl, Nat.zero_le _, Nat.zero_le _, rfl⟩
    · rename_i hne
      refine (Shx.int ?_).mono (by decide) (by decide)
      have hD : D ≤ 40 := Nat.le_of_not_lt fun hlt => hne (mn_best V0 hE 41 (by have := rnd_le m1 V0.m12; have := Vs0.l12; omega) fun D' x h hx => hU.1 D' x (by omega) hx)
      exact Nat.lt_of_le_of_lt (show ((D : Nat) : Int).natAbs ≤ 40 by rw [Int.natAbs_natCast]; exact hD) (by decide +kernel)
  exact (shx_two (shx_three hs hx hx) (shx_three hs hee hee)).shw (by decide) (by decide)
abbrev sLRight : Stmt := top 62
def NLRight : List Str := ["_law_much", "_law_nodes", "_law_does", "_law_sheet", "_law_is_fair", "_law_best", "_law_is_best", "_law_told", "_law_heard_here", "_law_which", "_law_odd", "_law_it", "_law_lies", "_law_top", "_law_more", "_law_level"]
theorem scLRight : FnScope NLRight ["_law_much", "_law_nodes"] (defScope sLRight) := ⟨rfl, rfl, rfl, by decide +kernel, rfl, by decide +kernel, by decide +kernel⟩
def spLRight (K : PySem.W.Frag) : Sp := fun vs H Q _ => ∃ (v : V) (T : SM.Tree) (m : Nat), vs = [.int m, v] ∧ TD K H v (trD T) ∧ Vs m T ∧ m ≤ 6 ∧ ∀ H', Same H H' → Q (.bl true) H'
theorem ok_l_right {f f1 f2 f3 f4 f5 f6 f7 f8 f9 : Addr} {fd fd1 fd2 fd3 fd4 fd5 fd6 fd7 fd8 fd9 : FuncData} (F : FnP K "_law_right" sLRight f fd) (T : Tx K mg aN aW)
    (G__law_can_draw : Def P w K mg base CX0 "_law_can_draw" 1 ["_law_nodes"] (spLCan K) f1 fd1) (G_tree_paper : Def P w K mg base CX0 "tree_paper" 4 ["many", "tree"] (spTreePaper K) f2 fd2)
    (G__law_is_paper : Def P w K mg base CX0 "_law_is_paper" 4 ["_law_much", "_law_nodes", "_law_it"] (spLIsPaper K) f3 fd3) (G__law_mean_by : Def P w K mg base CX0 "_law_mean_by" 2 ["_law_loads"] (spLMeanBy K) f4 fd4)
    (G_is_even : Def P w K mg base CX0 "is_even" 7 ["many", "tree"] (spIsEven K) f5 fd5) (G_is_even_K : KBinds K fd5 ["many", "tree"] ["tree", "many"] sw2 sw2) (G_is_least : Def P w K mg base CX0 "is_least" 8 ["many", "tree"] (spIsLeast K) f6 fd6) (G_is_least_K : KBinds K fd6 ["many", "tree"] ["tree", "many"] sw2 sw2)
    (G__law_heard : Def P w K mg base CX0 "_law_heard" 9 ["_law_much", "_law_nodes", "_law_which"] (spLHeard K) f7 fd7) (G__law_ratio : Def P w K mg base CX0 "_law_ratio" 1 ["_law_top", "_law_bottom"] (spLRatio K) f8 fd8)
    (G__law_unlike : Def P w K mg base CX0 "_law_unlike" 2 ["_law_much", "_law_nodes", "_law_limit"] (spLUnlike K) f9 fd9) : FnOkG P w K mg base CX0 10 f fd ["_law_much", "_law_nodes"] (spLRight K) := by
  refine fd_okG F scLRight (fun vs H Q E h => ?_) (fun cdv A outer s H vs Q E hgd hr h => ?_)
  · obtain ⟨_, _, _, rfl, _⟩ := h
    rfl
  · obtain ⟨v, Tr, m, rfl, tv, V0, h6, k⟩ := h
    refine ⟨_, PSs.nox <| (pss_cons (ps_par (i := 2) (j := 3) rfl scLRight.nd rfl rfl (by decide) rfl rfl (pa_cons (pe_cmpR (oNotIn K) pe_bl (dcall G__law_can_draw (hr.mono (by decide)) (pa_cons (pv 1) pa_nil)) (by rfl)) (pa_cons (dcall G_tree_paper (hr.mono (by decide)) (pa_cons (pv 0) (pa_cons (pv 1) pa_nil))) pa_nil)) (by rfl))
      (pss_cons (ps_if (pt_not (pt_val (dcall G__law_is_paper (hr.mono (by decide)) (pa_cons (pv 0) (pa_cons (pv 1) (pa_cons (pv 3) pa_nil)))))) (pss_one (ps_ret pe_bl)) pss_nil)
      (pss_cons (ps_set (i := 4) scLRight.nd rfl (lc_ rfl) (pe_and (pv 2) (pe_one (pe_cmp (pc_eqI (pe_lenSetF hr.units (by rfl) T.len_ (by rfl) T.set_ (pe_ix (ixT K) (pe_ix (ixT K) (pv 3) pe_int (fun _ _ => rfl)) pe_int (fun _ _ => rfl))) pe_int)))))
      (pss_cons (ps_set (i := 5) scLRight.nd rfl (lc_ rfl) (dcall G__law_mean_by (hr.mono (by decide)) (pa_cons (pe_op (oRepT K) (pe_tup (pa_cons pe_int pa_nil)) (pv 0)) pa_nil)))
      (pss_cons (ps_set (i := 6) scLRight.nd rfl (lc_ rfl) (pe_and (pv 4) (pe_one (pe_cmpR (oEqD K hr.units) (pe_ix (ixT K) (pe_ix (ixT K) (pv 3) pe_int (fun _ _ => rfl)) pe_int (fun _ _ => rfl)) (pv 5) (nomark _)))))
      (pss_cons (ps_set (i := 7) scLRight.nd rfl (lc_ rfl) (pe_lst (pa_cons (dcall G_is_even (hr.mono (by decide)) (pa_cons (pv 0) (pa_cons (pv 1) pa_nil))) (pa_cons (dcallK0 G_is_even (hr.mono (by decide)) G_is_even_K (pk_cons (pv 1) (pk_cons (pv 0) pk_nil))) pa_nil))))
      (pss_cons (ps_set (i := 7) scLRight.nd rfl (lc_ rfl) (pe_op op_cat (pv 7) (pe_lst (pa_cons (dcall G_is_least (hr.mono (by decide)) (pa_cons (pv 0) (pa_cons (pv 1) pa_nil))) (pa_cons (dcallK0 G_is_least (hr.mono (by decide)) G_is_least_K (pk_cons (pv 1) (pk_cons (pv 0) pk_nil))) pa_nil)))))
      (pss_cons (ps_if (pt_cmpR op_ne (pe_callB (cRepr K hgd hr.units) (by rfl) T.repr_ (by decide +kernel) (pa_cons (pv 7) pa_nil)) (pe_callB (cRepr K hgd hr.units) (by rfl) T.repr_ (by decide +kernel) (pa_cons (pe_lst (pa_cons (pv 4) (pa_cons (pv 4) (pa_cons (pv 6) (pa_cons (pv 6) pa_nil))))) pa_nil)) (nomark _)) (pss_one (ps_ret pe_bl)) pss_nil)
      (pss_cons (ps_setLc (i := 8) (own := [("_law_which", 9)]) (g := (gName 9)) (tt := tYes) (by rfl) scLRight.nd rfl rfl (sw_true rfl rfl rfl (by decide +kernel)) (pi_range1 (by rfl) T.range_ (pa_cons pe_int pa_nil)) (blkOk_by (N := NLRight) (sc := defScope sLRight) (by decide +kernel)) (fun _ _ _ _ _ => (pg_name (i := 9) scLRight.nd rfl (lc_ rfl))) (fun _ _ _ _ _ => pts_nil) (fun _ _ _ _ _ => (dcall G__law_heard (hr.mono (by decide)) (pa_cons (pv 0) (pa_cons (pv 1) (pa_cons (pv 9) pa_nil))))))
      (pss_cons (ps_if (pt_not (pt_val (pv 2))) (pss_cons (ps_setLc (i := 10) (own := [("_law_it", 11)]) (g := (gName 11)) (by rfl) scLRight.nd rfl rfl (sw_true rfl rfl rfl (by decide +kernel)) (piL K (pv 8)) (blkOk_by (N := NLRight) (sc := defScope sLRight) (by decide +kernel)) (fun _ _ _ _ _ => (pg_name (i := 11) scLRight.nd rfl (lc_ rfl))) (fun _ _ _ _ _ => (pts_one (PW.pt (pw_or (pt_cmpR op_ne (pe_ix (ixT K) (pv 11) pe_int (fun _ _ => rfl)) pe_str (nomark _)) (pw_or1 (pt_cmpR op_notBl (pe_ix (ixT K) (pv 11) pe_int (fun _ _ => rfl)) pe_bl (nomark _))))))) (fun _ _ _ _ _ => (pv 11)))
      (pss_cons (ps_setLc (i := 12) (own := [("_law_it", 11)]) (g := (gName 11)) (by rfl) scLRight.nd rfl rfl (sw_true rfl rfl rfl (by decide +kernel)) (piL K (pv 8)) (blkOk_by (N := NLRight) (sc := defScope sLRight) (by decide +kernel)) (fun _ _ _ _ _ => (pg_name (i := 11) scLRight.nd rfl (lc_ rfl))) (fun _ _ _ _ _ => (pts_one (pt_not (pt_val (dcall G__law_is_paper (hr.mono (by decide)) (pa_cons (pv 0) (pa_cons (pv 1) (pa_cons (pe_ix (ixT K) (pv 11) pe_int (fun _ _ => rfl)) pa_nil)))))))) (fun _ _ _ _ _ => (pv 11)))
      (pss_one (ps_ret (pe_and (pe_cmpR (oEqD K hr.units) (pv 10) (pe_lst pa_nil) (nomark _)) (pe_one (pe_cmpR (oEqD K hr.units) (pv 12) (pe_lst pa_nil) (nomark _)))))))) pss_nil)
      (pss_cons (ps_if (pt_not (pt_val (pv 4))) (pss_one (ps_ret (pe_cmpR op_eq (pe_callB (cRepr K hgd hr.units) (by rfl) T.repr_ (by decide +kernel) (pa_cons (pv 8) pa_nil)) (pe_callB (cRepr K hgd hr.units) (by rfl) T.repr_ (by decide +kernel) (pa_cons (pe_op op_rep (pe_lst (pa_cons (pe_tup (pa_cons pe_str (pa_cons (pe_ix (ixT K) (pe_ix (ixT K) (pv 3) pe_int (fun _ _ => rfl)) pe_int (fun _ _ => rfl)) (pa_cons pe_bl pa_nil)))) pa_nil)) pe_int) pa_nil)) (nomark _)))) pss_nil)
      (pss_cons (ps_set (i := 13) scLRight.nd rfl (lc_ rfl) (pe_ix (ixT K) (pe_ix (ixT K) (pv 3) pe_int (fun _ _ => rfl)) pe_int (fun _ _ => rfl)))
      (pss_cons (ps_par (i := 14) (j := 15) rfl scLRight.nd rfl rfl (by decide) rfl rfl (pa_cons (dcall G__law_ratio (hr.mono (by decide)) (pa_cons (pe_op op_sub (pe_op op_mulW (pe_ix (ixT K) (pv 13) pe_int (fun _ _ => rfl)) (pe_ix (ixT K) (pv 5) pe_int (fun _ _ => rfl))) (pe_op op_mulW (pe_ix (ixT K) (pv 5) pe_int (fun _ _ => rfl)) (pe_ix (ixT K) (pv 13) pe_int (fun _ _ => rfl)))) (pa_cons (pe_op op_mulW (pe_ix (ixT K) (pv 13) pe_int (fun _ _ => rfl)) (pe_ix (ixT K) (pv 5) pe_int (fun _ _ => rfl))) pa_nil))) (pa_cons (dcall G__law_unlike (hr.mono (by decide)) (pa_cons (pv 0) (pa_cons (pv 1) (pa_cons pe_int pa_nil)))) pa_nil)) (by rfl))
      (pss_cons (ps_if (PW.pt (pw_or (pt_cmpR (oNeD K hr.units) (pv 6) (pe_cmpR (oEqD K hr.units) (pv 14) (pe_tup (pa_cons pe_int (pa_cons pe_int pa_nil))) (nomark _)) (nomark _)) (pw_or1 (pt_cmpR (oNeD K hr.units) (pv 6) (pe_cmpR op_isN (pv 15) pe_non (nomark _)) (nomark _))))) (pss_one (ps_ret pe_bl)) pss_nil)
      (pss_one (ps_ret (pe_cmpR op_eq (pe_callB (cRepr K hgd hr.units) (by rfl) T.repr_ (by decide +kernel) (pa_cons (pv 8) pa_nil)) (pe_callB (cRepr K hgd hr.units) (by rfl) T.repr_ (by decide +kernel) (pa_cons (pe_lst (pa_cons (pe_tup (pa_cons pe_str (pa_cons (pv 14) (pa_cons (pv 14) pa_nil)))) (pa_cons (pe_tup (pa_cons pe_str (pa_cons (pv 15) (pa_cons (pv 15) pa_nil)))) pa_nil))) pa_nil)) (nomark _)))))))))))))))))), ?_⟩
    have q0 : (100000 : Nat) ≤ sizeLine := by decide
    have O := V0.va.ok
    have l60 := V0.va.le
    have m1 := V0.va.m0
    have m12 := V0.va.m12
    have hpos := O.pos
    have Ft : Fit m Tr := .inr V0.va
    have hne : Tr ≠ [] := fun z => by rw [z] at hpos; exact absurd hpos (by decide)
    have eS : shS m Tr = (List.range m).map (SM.shF m Tr 0) := if_neg hne
    have eM : mnS m Tr = SM.mnF m Tr 0 := if_neg hne
    refine seqPar (fun a b H' => ∃ (does : Bool) (dS : PyData), a = .bl does ∧ Same H H' ∧ TD K H' b dS ∧ ((does = true ∧ AllLive Tr ∧ dS = papF m Tr) ∨ (does = false ∧ ¬ AllLive Tr ∧ ∃ u, DeadAt Tr u ∧ dS = papE u))) (fun Qc kk => ?_) ?_
    · refine ⟨_, rfl, v, Tr, m, rfl, tv, O, l60, fun D H1 f hD s1 hD1 hf => ⟨D, _, rfl, .inl (SqL.mk hD1), rfl, rowB_flat _ _, ?_⟩⟩
      have hin : (!inV (.bl false) (rowB Tr.length f)) = true ↔ AllLive Tr := by
        rw [rowB_in]
        refine ⟨fun h t ht => (hf t ht).mp (h t ht), fun h t ht => (hf t ht).mpr (h t ht)⟩
      refine ⟨_, rfl, _, rfl, v, Tr, m, rfl, tv.mono (TupEx.of s1), V0.va, fun v' H2 s2 hL t2 => kk _ _ _ ⟨_, _, rfl, s1.trans s2, t2, .inl ⟨hin.mpr hL, hL, rfl⟩⟩, fun v' H2 u t s2 ht nd hw hu t2 => kk _ _ _ ⟨_, _, rfl, s1.trans s2, t2, .inr ⟨?_, fun hL => nd (hL t ht), u, ⟨t, ht, nd, hw, hu⟩, rfl⟩⟩⟩
      exact Bool.eq_false_iff.mpr fun h => nd (hin.mp h t ht)
    rintro _ vS H1 ⟨does, dS, rfl, s1, tS, hd⟩
    have hRt : RtP m Tr dS := by
      rcases hd with ⟨_, hL, e⟩ | ⟨_, _, u, hu, e⟩
      · exact .inl ⟨hL, e⟩
      · exact .inr ⟨u, hu, e⟩
    refine ⟨_, rfl, _, rfl, _, rfl, v, vS, Tr, m, dS, rfl, tv.mono (TupEx.of s1), tS, V0.va, hRt, fun H2 s2 => ⟨_, rfl, iteBF rfl ?_⟩⟩
    have s12 := s1.trans s2
    have tS2 := tS.mono (TupEx.of s2)
    have hdoes : does = true ↔ AllLive Tr := by
      rcases hd with ⟨e, hL, _⟩ | ⟨e, hL, _⟩
      · exact ⟨fun _ => hL, fun _ => e⟩
      · exact ⟨fun h => by (rw [e] at h; cases h), fun h => absurd h hL⟩
    have sheet : AllLive Tr → ∃ aS b c rs ms, vS = .ref aS ∧ SqT K H2 aS [.str "ends", .ref b, .ref c] ∧ SqT K H2 b rs ∧ SqT K H2 c ms ∧ (∃ r, rs[0]? = some r ∧ TD K H2 r (rowD m Tr 0)) ∧ ∃ r, ms[0]? = some r ∧ TD K H2 r (frD (SM.mnF m Tr 0)) := fun hL => by
      rcases hd with ⟨_, _, e⟩ | ⟨_, nl, _⟩
      · rw [e] at tS2
        obtain ⟨aS, xs, rfl, h1, h2⟩ := tS2.tuple
        obtain ⟨x1, x2, x3, rfl, g1, g2, g3⟩ := tds_three h2
        have := g1.str_
        subst this
        obtain ⟨b, rs, rfl, hb, hrs⟩ := g2.tuple
        obtain ⟨c, ms, rfl, hc, hms⟩ := g3.tuple
        exact ⟨aS, b, c, rs, ms, rfl, h1, hb, hc, hrs.get (by rw [List.getElem?_map, List.getElem?_range hpos]; rfl), hms.get (by rw [List.getElem?_map, List.getElem?_range hpos]; rfl)⟩
      · exact absurd hL nl
    dsimp only [tNext]
    refine seqAsg (fun v H' => ∃ fair : Bool, v = .bl fair ∧ H' = H2 ∧ (fair = true ↔ EvenT m Tr)) (fun Qc kk => ?_) ?_
    · refine ⟨_, rfl, does, rfl, iteB2 (fun hb => ?_) (fun hb => kk _ _ ⟨false, rfl, rfl, ⟨fun h => Bool.noConfusion h, fun h => by (rw [hdoes.mpr h.1] at hb; cases hb)⟩⟩)⟩
      have hL := hdoes.mp hb
      obtain ⟨aS, b, c, rs, ms, rfl, h1, h2, h3, ⟨r, hr, tr⟩, _⟩ := sheet hL
      obtain ⟨ar, fr, rfl, har, hfr⟩ := tr.tuple
      refine ⟨_, rfl, aS, _, 1, _, rfl, rfl, h1, rfl, b, rs, (0 : Nat), _, rfl, rfl, h2, atI_nat hr, ar, fr, shS m Tr, rfl, har, ?_, ?_, fun n hn => ⟨_, _, rfl, rfl, kk _ _ ⟨_, rfl, rfl, ?_⟩⟩⟩
      · rw [eS, List.map_map]; exact hfr
      · rw [eS, List.length_map, List.length_range]; omega
      · rw [decide_eq_true_iff]
        have e : ((n : Int) = 1) ↔ n = 1 := by omega
        exact e.trans (hn.trans ⟨fun h => ⟨hL, h.2⟩, fun h => ⟨shS_ne m1, h.2⟩⟩)
    rintro _ H2 ⟨fair, rfl, rfl, hfair⟩
    dsimp only [gName]
    refine seqAsg (fun u H' => Same H2 H' ∧ TD K H' u (frD (SM.bst m))) (fun Qc kk => ?_) ?_
    · refine ⟨(by show 1 ≤ sizeLine; omega), fun p hp => ⟨_, rfl, p, (m : Nat), [.int 1], rfl, rfl, SqT.mk upd_same, by simp, by omega, by omega, by simp, fun e => ?_, fun e p2 hp2 => ?_⟩⟩
      · have e1 : m = 1 := by omega
        refine ⟨p, m, rfl, SqT.mk (by rw [upd_same, e1]; rfl), m1, m12, fun u H3 s3 t3 => kk _ _ ⟨(Ser.Same.new hp).trans s3, t3⟩⟩
      · refine ⟨p2, m, rfl, SqT.mk (by rw [upd_same, rep_row]), m1, m12, fun u H3 s3 t3 => kk _ _ ⟨((Ser.Same.new hp).trans (Ser.Same.new hp2)).trans s3, t3⟩⟩
    rintro vb H3 ⟨s3, tb⟩
    dsimp only [gName]
    have s13 := s12.trans s3
    refine seqAsg (fun u H' => ∃ best : Bool, u = .bl best ∧ H' = H3 ∧ (best = true ↔ EvenT m Tr ∧ mnS m Tr = SM.bst m)) (fun Qc kk => ?_) ?_
    · refine ⟨_, rfl, fair, rfl, iteB2 (fun hb => ?_) (fun hb => kk _ _ ⟨false, rfl, rfl, ⟨fun h => Bool.noConfusion h, fun h => by (rw [hfair.mpr h.1] at hb; cases hb)⟩⟩)⟩
      have hE := hfair.mp hb
      obtain ⟨aS, b, c, rs, ms, rfl, h1, h2, h3, _, ⟨r, hr, tr⟩⟩ := sheet hE.1
      refine ⟨_, rfl, aS, _, 2, _, rfl, rfl, Ser.Same.sqT s3 h1, rfl, c, ms, (0 : Nat), _, rfl, rfl, Ser.Same.sqT s3 h3, atI_nat hr, _, rfl, _, _, (tr.mono (TupEx.of s3)).dp, tb.dp, shaped_fr, shaped_fr, kk _ _ ⟨_, rfl, rfl, ?_⟩⟩
      rw [eqv_fr, decide_eq_true_iff, eM]
      exact ⟨fun h => ⟨hE, h⟩, fun h => h.2⟩
    rintro _ H3 ⟨best, rfl, rfl, hbest⟩
    dsimp only [gName]
    refine with_st (σ' := [some (.int m), some v, some (.bl does), some vS, some (.bl fair), some vb, some (.bl best), none, none, none, none, none, none, none, none, none]) rfl ?_
    -- told
    refine ⟨_, rfl, _, rfl, v, Tr, m, rfl, tv.mono (TupEx.of s13), Ft, fun b1 H4 s4 hb1 => ⟨_, rfl, _, rfl, v, Tr, m, rfl, tv.mono (TupEx.of (s13.trans s4)), Ft, fun b2 H5 s5 hb2 => ⟨(by show 2 ≤ sizeLine; omega), fun l1 hl1 => ?_⟩⟩⟩
    have e1 : b1 = fair := bool_iff hb1 hfair
    have e2 : b2 = fair := bool_iff hb2 hfair
    subst e1
    subst e2
    have s5' : Same H5 (upd H5 l1 (.lst [.bl b2, .bl b2])) := Ser.Same.new hl1
    have L1 : (upd H5 l1 (.lst [.bl b2, .bl b2])) l1 = some (.lst [.bl b2, .bl b2]) := upd_same
    have s35 := (s4.trans s5).trans s5'
    generalize upd H5 l1 (.lst [V.bl b2, V.bl b2]) = H6 at L1 s35 ⊢
    clear s5' hl1 hb1 hb2 s4 s5
    have s16 := s13.trans s35
    refine ⟨_, rfl, _, rfl, _, rfl, v, Tr, m, rfl, tv.mono (TupEx.of s16), Ft, fun b3 H7 s7 hb3 => ⟨_, rfl, _, rfl, v, Tr, m, rfl, tv.mono (TupEx.of (s16.trans s7)), Ft, fun b4 H8 s8 hb4 => ⟨(by show 2 ≤ sizeLine; omega), fun l2 hl2 => ?_⟩⟩⟩
    have e3 : b3 = best := bool_iff hb3 hbest
    have e4 : b4 = best := bool_iff hb4 hbest
    subst e3
    subst e4
    have s8' : Same H8 (upd H8 l2 (.lst [.bl b4, .bl b4])) := Ser.Same.new hl2
    have s79 := (s7.trans s8).trans s8'
    refine ⟨l1, l2, _, _, rfl, rfl, s79 _ _ L1, upd_same, (by show 2 + 2 ≤ sizeLine; omega), fun l3 hl3 => ?_⟩
    have s9 : Same (upd H8 l2 (.lst [.bl b4, .bl b4])) (upd (upd H8 l2 (.lst [.bl b4, .bl b4])) l3 (.lst ([.bl b2, .bl b2] ++ [.bl b4, .bl b4]))) := Ser.Same.new hl3
    have L3 : (upd (upd H8 l2 (.lst [.bl b4, .bl b4])) l3 (.lst ([.bl b2, .bl b2] ++ [.bl b4, .bl b4]))) l3 = some (.lst [.bl b2, .bl b2, .bl b4, .bl b4]) := upd_same
    have s39 := (s35.trans s79).trans s9
    generalize upd (upd H8 l2 (.lst [V.bl b4, V.bl b4])) l3 (.lst ([V.bl b2, V.bl b2] ++ [V.bl b4, V.bl b4])) = H9 at L3 s39 ⊢
    clear s9 hl3 s79 s8' hl2 hb3 hb4 s7 s8 L1 s16 s35
    have tbs : ∀ H, TDs K H [.bl b2, .bl b2, .bl b4, .bl b4] [.bool b2, .bool b2, .bool b4, .bool b4] := fun H => .cons (.bl _) (.cons (.bl _) (.cons (.bl _) (.cons (.bl _) .nil)))
    have shw4 : Shw (.list [.bool b2, .bool b2, .bool b4, .bool b4]) := by cases b2 <;> cases b4 <;> exact ⟨by decide +kernel, by decide +kernel, by decide +kernel, by decide +kernel, by decide +kernel⟩
    refine ⟨_, rfl, l3, _, rfl, .lst (SqL.mk L3) (tbs _).dp, shw4, _, rfl, _, rfl, _, rfl, _, rfl, (by show 4 ≤ sizeLine; omega), fun l4 hl4 => ⟨l4, _, rfl, .lst (SqL.mk upd_same) (tbs _).dp, shw4, rfl, _, rfl, iteBF ?_ ?_⟩⟩
    · rw [decide_eq_true rfl]; rfl
    have s9 : Same H9 (upd H9 l4 (.lst [.bl b2, .bl b2, .bl b4, .bl b4])) := Ser.Same.new hl4
    have s310 := s39.trans s9
    generalize upd H9 l4 (.lst [V.bl b2, V.bl b2, V.bl b4, V.bl b4]) = HA at s310 ⊢
    clear s9 hl4 s39 L3
    have s1A := s13.trans s310
    have tvA := tv.mono (TupEx.of s1A)
    -- heard
    dsimp only [tNext]
    refine with_st (σ' := [some (.int m), some v, some (.bl does), some vS, some (.bl b2), some vb, some (.bl b4), some (.ref l3), none, none, none, none, none, none, none, none]) rfl ?_
    refine ⟨2, rfl, by decide, by decide, fun LH hLH => ?_⟩
    refine lc_genY (walk_range (lo := 0) (n := 2)) (fun i y H => ∃ d, TD K H y d ∧ HeardD m Tr i d) hLH (by decide) (fun _ _ => trivial) (fun i y H H' xs hi ⟨d, t, h⟩ s hD e => ⟨d, td_st (d := fun _ => d) (n := 2) i y H H' xs hi t s hD e, h⟩) ?_ ?_
    · rintro i x HB HC k2 hi sB _ ⟨rfl, rfl⟩ kk
      have e0 : (0 : Int) + (i : Int) = i := by omega
      refine ⟨rfl, _, rfl, _, rfl, _, rfl, v, Tr, m, i, congrArg (fun z => [V.int (m : Nat), v, V.int z]) e0, tvA.mono (TupEx.of sB), Ft, by omega, fun v' H' d s' t h => kk _ _ s' ⟨d, t, h⟩⟩
    intro ys HB sB hyB al
    obtain ⟨y0, y1, rfl, ⟨d0, t0, h0⟩, ⟨d1, t1, h1⟩⟩ := all2_two al
    have s1B := s1A.trans sB
    have s3B := s310.trans sB
    have tvB := tvA.mono (TupEx.of sB)
    dsimp only [gName]
    refine with_st (σ' := [some (.int m), some v, some (.bl does), some vS, some (.bl b2), some vb, some (.bl b4), some (.ref l3), some (.ref LH), none, none, none, none, none, none, none]) rfl ?_
    refine ⟨_, rfl, _, rfl, iteB2 (fun hb => ?_) (fun hb => ?_)⟩
    · -- it does not end
      have nl : ¬ AllLive Tr := fun h => by rw [hdoes.mpr h] at hb; exact absurd hb (by decide)
      have hh : ∀ {wh d y}, HeardD m Tr wh d → TD K HB y d → ∃ a z u, y = .ref a ∧ SqT K HB a [.str "endless", z, .bl true] ∧ DeadAt Tr u ∧ TD K HB z (papE u) := fun {wh d y} h t => by
        rcases h with ⟨h, _⟩ | ⟨h, _⟩ | ⟨_, u, hu, rfl⟩
        · exact absurd h.1 nl
        · exact absurd h nl
        · obtain ⟨a, xs, rfl, ha, hx⟩ := t.tuple
          obtain ⟨z1, z2, z3, rfl, g1, g2, g3⟩ := tds_three hx
          have := g1.str_
          subst this
          have := g3.bl_
          subst this
          exact ⟨a, z2, u, rfl, ha, hu, g2⟩
      have both : ∀ i x, i < 2 → ([y0, y1] : List V)[i]? = some x → ∃ a z u, x = .ref a ∧ SqT K HB a [.str "endless", z, .bl true] ∧ DeadAt Tr u ∧ TD K HB z (papE u) := fun i x hi hx => by
        match i, hi, hx with
        | 0, _, hx => cases hx; exact hh h0 t0
        | 1, _, hx => cases hx; exact hh h1 t1
      refine ⟨_, rfl, LH, rfl, ⟨_, SqL.mk hyB⟩, fun C1 hC1 => ?_⟩
      refine lc_none (walk_list (xs := [y0, y1])) hC1 (by show 2 < 100000; decide) (fun H' s => SqL.mk (s _ _ hyB)) ?_ ?_
      · rintro i x HC HD k2 els hi sC ⟨rfl, hx⟩ kn
        obtain ⟨a, z, u, rfl, ha, hu, hz⟩ := both i x hi hx
        have haC := Ser.Same.sqT sC ha
        exact ⟨rfl, _, rfl, a, _, 0, _, rfl, rfl, haC, rfl, rfl, _, rfl, iteBF (by decide) ⟨_, rfl, a, _, 2, _, rfl, rfl, haC, rfl, true, true, rfl, rfl, _, rfl, iteBF rfl (kn _ fun _ _ e => e)⟩⟩
      intro HC sC hyC
      have hyBC := sC _ _ hyB
      refine ⟨_, rfl, LH, rfl, ⟨_, SqL.mk hyBC⟩, fun C2 hC2 => ?_⟩
      refine lc_none (walk_list (xs := [y0, y1])) hC2 (by show 2 < 100000; decide) (fun H' s => SqL.mk (s _ _ hyBC)) ?_ ?_
      · rintro i x HD HE k2 els hi sD ⟨rfl, hx⟩ kn
        obtain ⟨a, z, u, rfl, ha, hu, hz⟩ := both i x hi hx
        have sCD := sC.trans sD
        exact ⟨rfl, _, rfl, _, rfl, _, rfl, a, _, 1, _, rfl, rfl, Ser.Same.sqT sCD ha, rfl, v, z, Tr, m, papE u, rfl, tvB.mono (TupEx.of sCD), hz.mono (TupEx.of sCD), V0.va, .inr ⟨u, hu, rfl⟩, fun HF sF => ⟨_, rfl, iteBF rfl (kn _ sF)⟩⟩
      intro HD sD hyD
      refine ⟨_, rfl, (by show 0 ≤ sizeLine; omega), fun q1 hq1 => ?_⟩
      have sq1 : Same HD (upd HD q1 (.lst [])) := Ser.Same.new hq1
      refine ⟨.list [], .list [], .lst (SqL.mk (sq1 _ _ (sD _ _ hyC))) .nil, .lst (SqL.mk upd_same) .nil, rfl, rfl, _, rfl, iteB rfl ⟨_, rfl, (by show 0 ≤ sizeLine; omega), fun q2 hq2 => ?_⟩⟩
      have sq2 : Same (upd HD q1 (.lst [])) (upd (upd HD q1 (.lst [])) q2 (.lst [])) := Ser.Same.new hq2
      refine ⟨.list [], .list [], .lst (SqL.mk (sq2 _ _ (sq1 _ _ hyD))) .nil, .lst (SqL.mk upd_same) .nil, rfl, rfl, ?_⟩
      exact k _ ((s1B.trans (sC.trans sD)).trans (sq1.trans sq2))
    have hL : AllLive Tr := by
      cases does with
      | true => exact hdoes.mp rfl
      | false => exact absurd hb (by decide)
    obtain ⟨aS, bS, cS, rs, ms, rfl, g1, g2, g3, ⟨r, hr0, tr⟩, ⟨r2, hr2, tr2⟩⟩ := sheet hL
    have s2B := s3.trans s3B
    refine ⟨_, rfl, _, rfl, iteB2 (fun hb2 => ?_) (fun hb2 => ?_)⟩
    · -- uneven
      have nE : ¬ EvenT m Tr := fun h => by rw [hfair.mpr h] at hb2; exact absurd hb2 (by decide)
      have hh : ∀ {wh d}, HeardD m Tr wh d → d = .tuple [.str "uneven", shD m Tr, .bool true] := fun {wh d} h => by
        rcases h with ⟨h, _⟩ | ⟨_, _, rfl⟩ | ⟨h, _⟩
        · exact absurd h nE
        · rfl
        · exact absurd hL h
      have e0 := hh h0
      have e1 := hh h1
      subst e0
      subst e1
      have shw := shw_uneven V0.va hL h6
      refine ⟨_, rfl, LH, _, rfl, .lst (SqL.mk hyB) (.cons t0.dp (.cons t1.dp .nil)), shw, ?_⟩
      refine ⟨_, rfl, aS, _, 1, _, rfl, rfl, Ser.Same.sqT s2B g1, rfl, bS, rs, (0 : Nat), r, rfl, rfl, Ser.Same.sqT s2B g2, atI_nat hr0, (by show 3 ≤ sizeLine; omega), fun p hp => ⟨(by show 1 ≤ sizeLine; omega), fun l hl => ⟨l, 2, _, rfl, rfl, upd_same, by decide, by decide, (by show 1 * 2 ≤ sizeLine; omega), fun p2 hp2 => ?_⟩⟩⟩
      have q1 : Same HB (upd HB p (.tup [.str "uneven", r, .bl true])) := Ser.Same.new hp
      have q2 : Same (upd HB p (.tup [.str "uneven", r, .bl true])) (upd (upd HB p (.tup [.str "uneven", r, .bl true])) l (.lst [.ref p])) := Ser.Same.new hl
      have q3 : Same (upd (upd HB p (.tup [.str "uneven", r, .bl true])) l (.lst [.ref p])) (upd (upd (upd HB p (.tup [.str "uneven", r, .bl true])) l (.lst [.ref p])) p2 (.lst (List.replicate (2 : Int).toNat [V.ref p]).flatten)) := Ser.Same.new hp2
      have tp : TD K (upd (upd (upd HB p (.tup [.str "uneven", r, .bl true])) l (.lst [.ref p])) p2 (.lst (List.replicate (2 : Int).toNat [V.ref p]).flatten)) (.ref p) (.tuple [.str "uneven", shD m Tr, .bool true]) := by
        refine .tup (SqT.mk ((q2.trans q3) _ _ upd_same)) (.cons (.str _) (.cons ?_ (.cons (.bl true) .nil)))
        have e : shD m Tr = rowD m Tr 0 := by unfold shD rowD; rw [eS, List.map_map]; rfl
        rw [e]
        exact tr.mono (TupEx.of (s2B.trans (q1.trans (q2.trans q3))))
      refine ⟨p2, _, rfl, .lst (SqL.mk upd_same) (.cons tp.dp (.cons tp.dp .nil)), shw, rfl, ?_⟩
      rw [decide_eq_true rfl]
      exact k _ (s1B.trans (q1.trans (q2.trans q3)))
    have hE : EvenT m Tr := by
      cases b2 with
      | true => exact hfair.mp rfl
      | false => exact absurd hb2 (by decide)
    have LvT : Lv m Tr := .inr ⟨V0.va, hL⟩
    have zM : Sz 500 (SM.mnF m Tr 0).1 ∧ Sz 500 (SM.mnF m Tr 0).2 := by rw [← eM]; exact mnS_sz LvT
    have zB := bst_sz m1 m12
    have pM : 0 < (SM.mnF m Tr 0).2 := by rw [← eM]; exact mnS_pos LvT
    have pB := SM.bst_pos m1 m12
    obtain ⟨ab, rfl, hab⟩ := tb.fr
    obtain ⟨at_, rfl, hat⟩ := tr2.fr
    have habB := Ser.Same.sqT s3B hab
    have hatB := Ser.Same.sqT s2B hat
    refine ⟨_, rfl, aS, _, 2, _, rfl, rfl, Ser.Same.sqT s2B g1, rfl, cS, ms, (0 : Nat), _, rfl, rfl, Ser.Same.sqT s2B g3, atI_nat hr2, ?_⟩
    dsimp only [gName]
    have eX : exF m Tr = SM.fr ((SM.mnF m Tr 0).1 * (SM.bst m).2 - (SM.bst m).1 * (SM.mnF m Tr 0).2) ((SM.mnF m Tr 0).2 * (SM.bst m).2) := by
      unfold exF mns
      rw [eM]
    refine seqPar (fun a b H' => Same HB H' ∧ TD K H' a (frD (exF m Tr)) ∧ ∃ e, TD K H' b e ∧ TellD m Tr 1 e) (fun Qc kk => ?_) ?_
    · refine ⟨_, rfl, at_, _, 0, _, rfl, rfl, hatB, rfl, _, rfl, ab, _, 1, _, rfl, rfl, habB, rfl, _, _, rfl, rfl, wide_mul zM.1 zB.2 (by decide) (by decide) (by decide), ?_⟩
      refine ⟨_, rfl, ab, _, 0, _, rfl, rfl, habB, rfl, _, rfl, at_, _, 1, _, rfl, rfl, hatB, rfl, _, _, rfl, rfl, wide_mul zB.1 zM.2 (by decide) (by decide) (by decide), _, _, rfl, rfl, ?_⟩
      refine ⟨_, rfl, at_, _, 1, _, rfl, rfl, hatB, rfl, _, rfl, ab, _, 1, _, rfl, rfl, habB, rfl, _, _, rfl, rfl, wide_mul zM.2 zB.2 (by decide) (by decide) (by decide), ?_⟩
      refine ⟨_, _, rfl, Int.mul_pos pM pB, (zM.2.mul zB.2).mono (by decide), fun u HC sC tC => ?_⟩
      rw [← eX] at tC
      refine ⟨_, rfl, _, rfl, v, Tr, m, 40, rfl, tvB.mono (TupEx.of sC), O, l60, m1, m12, by decide, fun al HD sD => kk _ _ _ ⟨sC.trans sD, tC.mono (TupEx.of sD), .none, .non, .inr ⟨rfl, .inl ⟨?_, rfl⟩⟩⟩, fun D HD hD sD hU => kk _ _ _ ⟨sC.trans sD, tC.mono (TupEx.of sD), .int (D : Nat), .int _, .inr ⟨rfl, .inr ⟨fun e => ?_, D, hU, rfl⟩⟩⟩⟩
      · have h10 := rnd_le m1 m12
        have h12 := V0.l12
        exact mn_best V0.va hE 41 (by omega) al
      · obtain ⟨x, hx, nx⟩ := hU.2
        exact nx ((even_of V0.va hE).leaves m1 m12 (by rw [← eM]; exact e) D x hx)
    rintro vm vl HC ⟨sC, tm, e, te, he⟩
    refine with_st (σ' := [some (.int m), some v, some (.bl does), some (.ref aS), some (.bl b2), some (.ref ab), some (.bl b4), some (.ref l3), some (.ref LH), none, none, none, none, some (.ref at_), some vm, some vl]) rfl ?_
    have hex := exF_iff LvT m1 m12
    have hbx : b4 = decide (exF m Tr = (0, 1)) := bool_iff hbest ((decide_eq_true_iff).trans (hex.trans ⟨fun h => ⟨hE, h⟩, fun h => h.2⟩))
    have hbn : b4 = decide (vl = V.non) := by
      rcases he with ⟨h, _⟩ | ⟨_, ⟨h, rfl⟩ | ⟨h, D, _, rfl⟩⟩
      · exact absurd h (by decide)
      · rw [te.non_, decide_eq_true rfl]; exact hbest.mpr ⟨hE, h⟩
      · rw [te.int_, decide_eq_false (fun z => nomatch z)]
        exact Bool.eq_false_iff.mpr fun z => h (hbest.mp z).2
    have eqb : ∀ b : Bool, PyData.eqv (.bool b) (.bool b) = true := fun b => by cases b <;> rfl
    refine ⟨_, rfl, _, rfl, (by show 2 ≤ sizeLine; omega), fun q hq => ?_⟩
    have sq : Same HC (upd HC q (.tup [.int 0, .int 1])) := Ser.Same.new hq
    refine ⟨_, _, (tm.mono (TupEx.of sq)).dp, (TD.fr_mk (x := (0, 1)) (SqT.mk upd_same)).dp, shaped_fr, shaped_fr, .bool b4, .bool b4, .bl _, ?_, rfl, rfl, _, rfl, iteBF ?_ ⟨_, rfl, _, rfl, rfl, .bool b4, .bool b4, .bl _, ?_, rfl, rfl, _, rfl, iteBF ?_ ?_⟩⟩
    · rw [eqv_fr, ← hbx]; exact .bl _
    · rw [eqb]; rfl
    · rw [← hbn]; exact .bl _
    · rw [eqb]; rfl
    generalize upd HC q (.tup [V.int 0, V.int 1]) = HD at sq ⊢
    have sBD := sC.trans sq
    have tm' := tm.mono (TupEx.of sq)
    have te' := te.mono (TupEx.of sq)
    have e0 : d0 = .tuple [.str "told", frD (exF m Tr), frD (exF m Tr)] := by
      rcases h0 with ⟨_, e, h, rfl⟩ | ⟨_, h, _⟩ | ⟨h, _⟩
      · rw [h.eq (.inl ⟨rfl, rfl⟩)]
      · exact absurd hE.2 h
      · exact absurd hL h
    have e1 : d1 = .tuple [.str "told", e, e] := by
      rcases h1 with ⟨_, e', h, rfl⟩ | ⟨_, h, _⟩ | ⟨h, _⟩
      · rw [h.eq he]
      · exact absurd hE.2 h
      · exact absurd hL h
    subst e0
    subst e1
    have shw := shw_told V0 hE m1 he
    refine ⟨_, rfl, LH, _, rfl, .lst (SqL.mk (sBD _ _ hyB)) (.cons (t0.mono (TupEx.of sBD)).dp (.cons (t1.mono (TupEx.of sBD)).dp .nil)), shw, ?_⟩
    refine ⟨_, rfl, _, rfl, (by show 3 ≤ sizeLine; omega), fun p1 hp1 => ⟨_, rfl, _, rfl, (by show 3 ≤ sizeLine; omega), fun p2 hp2 => ⟨(by show 2 ≤ sizeLine; omega), fun p3 hp3 => ?_⟩⟩⟩
    have q1 : Same HD (upd HD p1 (.tup [.str "told", vm, vm])) := Ser.Same.new hp1
    have q2 : Same (upd HD p1 (.tup [.str "told", vm, vm])) (upd (upd HD p1 (.tup [.str "told", vm, vm])) p2 (.tup [.str "told", vl, vl])) := Ser.Same.new hp2
    have q3 : Same (upd (upd HD p1 (.tup [.str "told", vm, vm])) p2 (.tup [.str "told", vl, vl])) (upd (upd (upd HD p1 (.tup [.str "told", vm, vm])) p2 (.tup [.str "told", vl, vl])) p3 (.lst [.ref p1, .ref p2])) := Ser.Same.new hp3
    have q13 := TupEx.of (q1.trans (q2.trans q3))
    have tp1 : TD K (upd (upd (upd HD p1 (.tup [.str "told", vm, vm])) p2 (.tup [.str "told", vl, vl])) p3 (.lst [.ref p1, .ref p2])) (.ref p1) (.tuple [.str "told", frD (exF m Tr), frD (exF m Tr)]) :=
      .tup (SqT.mk ((q2.trans q3) _ _ upd_same)) (.cons (.str _) (.cons (tm'.mono q13) (.cons (tm'.mono q13) .nil)))
    have tp2 : TD K (upd (upd (upd HD p1 (.tup [.str "told", vm, vm])) p2 (.tup [.str "told", vl, vl])) p3 (.lst [.ref p1, .ref p2])) (.ref p2) (.tuple [.str "told", e, e]) :=
      .tup (SqT.mk (q3 _ _ upd_same)) (.cons (.str _) (.cons (te'.mono q13) (.cons (te'.mono q13) .nil)))
    refine ⟨p3, _, rfl, .lst (SqL.mk upd_same) (.cons tp1.dp (.cons tp2.dp .nil)), shw, rfl, ?_⟩
    rw [decide_eq_true rfl]
    exact k _ ((s1B.trans sBD).trans (q1.trans (q2.trans q3)))
end
end Ser
end
section
set_option maxRecDepth 100000
set_option maxHeartbeats 4000000
namespace Ser
open PySem L2
section
variable {P : Program} {w : World} {K : PySem.W.Frag} {mg : Str → Option Value} {base : Heap} {aN aW : Addr}
/-! ### least_right -/
theorem met_whole {T : SM.Tree} {os : List Nat} {m : Nat} (O : SM.Ok m T) (M : SM.Met T 0 os os.length) (ro : ∀ t, t < T.length → SM.Reach T 0 t) : os.length = T.length := by
  refine Nat.le_antisymm (M.len O O.pos) ?_
  have hm : ∀ t, t < T.length → t ∈ os := fun t ht => (M.all t).mpr (ro t ht)
  have h := SM.nodup_le (n := os.length) (js := (List.range T.length).map fun t => os.idxOf t) ?_ ?_
  · rw [List.length_map, List.length_range] at h; exact h
  · unfold List.Nodup
    rw [List.pairwise_map]
    refine List.Pairwise.imp_of_mem (fun {a b} ha hb hab e => hab ?_) (List.nodup_range (n := T.length))
    have h1 := SM.idx_at (hm a (List.mem_range.mp ha))
    have h2 := SM.idx_at (hm b (List.mem_range.mp hb))
    rw [e, h2] at h1
    exact (Option.some.inj h1).symm
  · intro j hj
    obtain ⟨t, ht, rfl⟩ := List.mem_map.mp hj
    exact List.idxOf_lt_length_of_mem (hm t (List.mem_range.mp ht))
theorem lst_va {m : Nat} {T : SM.Tree} (h : SM.Lst m T) (m1 : 0 < m) (m12 : m ≤ 12) : Va m T := ⟨h.ok, h.ro, by have := h.le; omega, m1, m12⟩
theorem lst_even {m : Nat} {T : SM.Tree} (h : SM.Lst m T) (m1 : 0 < m) (m12 : m ≤ 12) : EvenT m T ∧ mnS m T = SM.bst m := by
  have E := SM.even_of_leaves h.ok h.live m1 h.leaves
  have hne : T ≠ [] := fun z => by have := h.ok.pos; rw [z] at this; exact absurd this (by decide)
  have eS : shS m T = (List.range m).map (SM.shF m T 0) := if_neg hne
  have eM : mnS m T = SM.mnF m T 0 := if_neg hne
  refine ⟨⟨h.live, fun x hx y hy => ?_⟩, ?_⟩
  · rw [eS] at hx hy
    obtain ⟨i, hi, rfl⟩ := List.mem_map.mp hx
    obtain ⟨j, hj, rfl⟩ := List.mem_map.mp hy
    rw [E.same i (List.mem_range.mp hi), E.same j (List.mem_range.mp hj)]
  · rw [eM]
    exact E.mean m1 m12 _ (Nat.le_refl _) fun D x _ hx => h.leaves D x hx
abbrev sLLeastRight : Stmt := top 63
def NLLeastRight : List Str := ["_law_much", "_law_nodes"]
theorem scLLeastRight : FnScope NLLeastRight ["_law_much"] (defScope sLLeastRight) := ⟨rfl, rfl, rfl, by decide +kernel, rfl, by decide +kernel, by decide +kernel⟩
def spLLeast (K : PySem.W.Frag) : Sp := fun vs H Q _ => ∃ m : Nat, vs = [.int m] ∧ 1 ≤ m ∧ m ≤ 12 ∧ ∀ H', Same H H' → Q (.bl true) H'
theorem ok_l_least {f f1 f2 f3 f4 f5 f6 f7 f8 CE CU : Addr} {fd fd1 fd2 fd3 fd4 fd5 fd6 fd7 fd8 : FuncData} (F : FnP K "_law_least_right" sLLeastRight f fd) (T : Tx K mg aN aW)
    (G_least_tree : Def P w K mg base CX0 "least_tree" 3 ["many"] (spLeastTree K) f1 fd1) (G_least_tree_K : KBinds K fd1 ["many"] ["many"] sw1 sw1) (G_is_least : Def P w K mg base CX0 "is_least" 8 ["many", "tree"] (spIsLeast K) f2 fd2)
    (G_excess : Def P w K mg base (L2.CX P w) "excess" 6 ["many", "tree"] (spExcess K CE CU) f3 fd3) (G_unlike_depth : Def P w K mg base (L2.CX P w) "unlike_depth" 8 ["many", "tree"] (spUnlike K CE CU) f4 fd4)
    (G__law_met : Def P w K mg base CX0 "_law_met" 1 ["_law_nodes"] (spLMet K) f5 fd5) (G__law_unlike : Def P w K mg base CX0 "_law_unlike" 2 ["_law_much", "_law_nodes", "_law_limit"] (spLUnlike K) f6 fd6)
    (G_tree_mean : Def P w K mg base CX0 "tree_mean" 6 ["many", "tree"] (spTreeMean K) f7 fd7) (G__law_mean_by : Def P w K mg base CX0 "_law_mean_by" 2 ["_law_loads"] (spLMeanBy K) f8 fd8) : FnOk P w K mg base CX0 9 f fd ["_law_much"] (spLLeast K) := by
  refine F.ok scLLeastRight (fun vs H Q E h => ?_) (fun cdv A outer s H vs Q E hr h => ?_)
  · obtain ⟨_, rfl, _⟩ := h
    rfl
  · obtain ⟨m, rfl, m1, m12, k⟩ := h
    refine ⟨_, PSs.nox <| (pss_cons (ps_set (i := 1) scLLeastRight.nd rfl (lc_ rfl) (dcall G_least_tree (hr.mono (by decide)) (pa_cons (pv 0) pa_nil)))
      (pss_cons (ps_if (PW.pt (pw_and (pt_cmp (pc_eqI (pv 0) pe_int)) (pw_and1 (pt_cmpR (oEqD K hr.units) (pv 1) (pe_tup pa_nil) (nomark _))))) (pss_one (ps_ret (pe_and (pe_cmpR op_isBl (dcall G_is_least (hr.mono (by decide)) (pa_cons pe_int (pa_cons (pe_tup pa_nil) pa_nil))) pe_bl (nomark _)) (pe_and (pe_cmpR (oEqD K hr.units) (dcallX G_excess (hr.mono (by decide)) passL' (pa_cons pe_int (pa_cons (pe_tup pa_nil) pa_nil))) (pe_tup (pa_cons pe_int (pa_cons pe_int pa_nil))) (nomark _)) (pe_one (pe_cmpR op_isN (dcallX G_unlike_depth (hr.mono (by decide)) passL' (pa_cons pe_int (pa_cons (pe_tup pa_nil) pa_nil))) pe_non (nomark _))))))) pss_nil)
      (pss_cons (ps_if (PW.pt (pw_or (pt_not (pt_val (pe_callB (oIsi K) (by rfl) T.isinstance_ (by decide +kernel) (pa_cons (pv 1) (pa_cons (pe_bltn (v := .ty "tuple") (u := .type "tuple") (by rfl) T.tuple_ (by decide +kernel) rfl) pa_nil))))) (pw_or (pt_cmp (pc_neI (pe_callB (cLen K) (by rfl) T.len_ (by decide +kernel) (pa_cons (dcall G__law_met (hr.mono (by decide)) (pa_cons (pv 1) pa_nil)) pa_nil)) (pe_callB (cLen K) (by rfl) T.len_ (by decide +kernel) (pa_cons (pv 1) pa_nil)))) (pw_or1 (pt_cmpR (oEqD K hr.units) (dcallK0 G_least_tree (hr.mono (by decide)) G_least_tree_K (pk_cons (pv 0) pk_nil)) (pe_tup pa_nil) (nomark _)))))) (pss_one (ps_ret pe_bl)) pss_nil)
      (pss_cons (ps_if (PW.pt (pw_or (pt_cmpR op_notBl (dcall G_is_least (hr.mono (by decide)) (pa_cons (pv 0) (pa_cons (pv 1) pa_nil))) pe_bl (nomark _)) (pw_or1 (pt_cmpR op_notN (dcall G__law_unlike (hr.mono (by decide)) (pa_cons (pv 0) (pa_cons (pv 1) (pa_cons pe_int pa_nil)))) pe_non (nomark _))))) (pss_one (ps_ret pe_bl)) pss_nil)
      (pss_cons (ps_if (pt_cmp (pc_gt (pe_callB (cLen K) (by rfl) T.len_ (by decide +kernel) (pa_cons (pv 1) pa_nil)) pe_int)) (pss_one (ps_ret pe_bl)) pss_nil)
      (pss_cons (ps_if (PW.pt (pw_or (pt_cmpR (oNeD K hr.units) (dcallX G_excess (hr.mono (by decide)) passL' (pa_cons (pv 0) (pa_cons (pv 1) pa_nil))) (pe_tup (pa_cons pe_int (pa_cons pe_int pa_nil))) (nomark _)) (pw_or1 (pt_cmpR op_notN (dcallX G_unlike_depth (hr.mono (by decide)) passL' (pa_cons (pv 0) (pa_cons (pv 1) pa_nil))) pe_non (nomark _))))) (pss_one (ps_ret pe_bl)) pss_nil)
      (pss_one (ps_ret (pe_cmpR (oEqD K hr.units) (dcall G_tree_mean (hr.mono (by decide)) (pa_cons (pv 0) (pa_cons (pv 1) pa_nil))) (dcall G__law_mean_by (hr.mono (by decide)) (pa_cons (pe_op (oRepT K) (pe_tup (pa_cons pe_int pa_nil)) (pv 0)) pa_nil)) (nomark _)))))))))), ?_⟩
    have q0 : (100000 : Nat) ≤ sizeLine := by decide
    have z0 : (0 : Nat) ≤ sizeLine := by omega
    refine ⟨_, rfl, m, rfl, m1, m12, fun v1 H1 s1 t1 => ?_⟩
    refine ⟨_, rfl, _, _, rfl, rfl, _, rfl, iteB2 (fun hb => ?_) (fun hb => iteBF rfl ?_)⟩
    · have hb : (m : Int) = 1 := of_decide_eq_true hb
      have e1 : m = 1 := by omega
      subst e1
      have eT : SM.ltr 1 = [] := by decide +kernel
      rw [eT] at t1
      refine ⟨_, rfl, z0, fun q hq => ?_⟩
      have sq : Same H1 (upd H1 q (.tup [])) := Ser.Same.new hq
      refine ⟨.tuple [], .tuple [], (t1.mono (TupEx.of sq)).dp, .tup (SqT.mk upd_same) .nil, rfl, rfl, _, rfl, iteB rfl ?_⟩
      generalize upd H1 q (.tup []) = H2 at sq ⊢
      have tnil : ∀ {H : Hp} {q : Addr}, H q = none → TD K (upd H q (.tup [])) (.ref q) (trD []) := fun hq => .tup (SqT.mk upd_same) .nil
      have Ft : Fit 1 [] := .inl ⟨rfl, rfl⟩
      have hE : EvenT 1 [] := ⟨fun t ht => absurd ht (Nat.not_lt_zero _), fun x hx y hy => by
        have e : shS 1 [] = [(1, 1)] := rfl
        rw [e, List.mem_singleton] at hx hy
        rw [hx, hy]⟩
      have hM : mnS 1 [] = SM.bst 1 := by decide +kernel
      have hX : exF 1 [] = (0, 1) := by decide +kernel
      refine ⟨z0, fun p1 hp1 => ⟨.ref p1, [], 1, rfl, tnil hp1, Ft, fun b H3 s3 hb3 => ⟨_, _, rfl, rfl, _, rfl, ?_⟩⟩⟩
      have sA : Same H2 H3 := (Ser.Same.new hp1).trans s3
      rw [hb3.mpr ⟨hE, hM⟩]
      refine iteB rfl ?_
      refine ⟨z0, fun p2 hp2 => ⟨.ref p2, [], 1, rfl, tnil hp2, Ft, fun _ v4 H4 s4 t4 => ⟨(by show 2 ≤ sizeLine; omega), fun p3 hp3 => ?_⟩, fun hl he => absurd hE.2 he, fun hl => absurd hE.1 hl⟩⟩
      have s5 : Same H4 (upd H4 p3 (.tup [.int 0, .int 1])) := Ser.Same.new hp3
      have sB : Same H3 (upd H4 p3 (.tup [.int 0, .int 1])) := ((Ser.Same.new hp2).trans s4).trans s5
      refine ⟨_, _, (t4.mono (TupEx.of s5)).dp, (TD.fr_mk (x := (0, 1)) (SqT.mk upd_same)).dp, shaped_fr, shaped_fr, _, rfl, iteB (by rw [eqv_fr, hX]; rfl) ?_⟩
      refine ⟨z0, fun p4 hp4 => ⟨.ref p4, [], 1, rfl, tnil hp4, Ft, fun _ _ H5 s5' => ⟨rfl, ?_⟩, fun _ hm2 => absurd hM hm2, fun hl he => absurd hE.2 he, fun hl => absurd hE.1 hl⟩⟩
      exact k _ ((s1.trans sq).trans (sA.trans (sB.trans ((Ser.Same.new hp4).trans s5'))))
    have hb' : ¬ (m : Int) = 1 := of_decide_eq_false hb
    have m2 : 2 ≤ m := by omega
    have L := SM.ltr_lst m2 m12
    generalize hT : SM.ltr m = Tr at t1 L
    have V0 := lst_va L m1 m12
    obtain ⟨hE, hM⟩ := lst_even L m1 m12
    have Ft : Fit m Tr := .inr V0
    have hne : Tr ≠ [] := fun z => by have := L.ok.pos; rw [z] at this; exact absurd this (by decide)
    have hX : exF m Tr = (0, 1) := (exF_iff (.inr ⟨V0, L.live⟩) m1 m12).mpr hM
    obtain ⟨a, xs, rfl, ha, la, _⟩ := tree_td t1
    refine ⟨_, rfl, _, _, _, _, true, rfl, .ty _, sqt_ty ha, kit_tt, _, rfl, iteBF rfl ?_⟩
    refine ⟨_, rfl, .ref a, Tr, m, rfl, TrS.of t1, L.ok, V0.le, fun D H2 os hD s2 hD2 mt z => ?_⟩
    have lo := met_whole L.ok mt L.ro
    refine ⟨D, _, rfl, .inl (SqL.mk hD2), _, rfl, a, xs, rfl, .inr (Ser.Same.sqT s2 ha), _, _, rfl, rfl, _, rfl, iteBF ?_ ?_⟩
    · show (!decide (((nts os).length : Int) = (xs.length : Int))) = false
      rw [nts_len, lo, la, decide_eq_true rfl]; rfl
    refine ⟨_, rfl, m, rfl, m1, m12, fun v3 H3 s3 t3 => ⟨z0, fun q hq => ?_⟩⟩
    rw [hT] at t3
    have sq : Same H3 (upd H3 q (.tup [])) := Ser.Same.new hq
    refine ⟨trD Tr, .tuple [], (t3.mono (TupEx.of sq)).dp, .tup (SqT.mk upd_same) .nil, (Shp.tree Tr).ok (by decide), rfl, _, rfl, iteBF ?_ ?_⟩
    · rw [eqv_tree, decide_eq_false hne]
    have s14 := (s2.trans s3).trans sq
    generalize upd H3 q (.tup []) = H4 at s14 ⊢
    have t4 := t1.mono (TupEx.of s14)
    -- is_least, unlike
    refine ⟨_, rfl, _, rfl, .ref a, Tr, m, rfl, t4, Ft, fun b H5 s5 hb5 => ⟨_, _, rfl, rfl, _, rfl, iteBF ?_ ?_⟩⟩
    · rw [hb5.mpr ⟨hE, hM⟩]; rfl
    have al : ∀ n, Alk m Tr n := fun n D x _ hx => L.leaves D x hx
    refine ⟨_, rfl, _, rfl, .ref a, Tr, m, 24, rfl, t4.mono (TupEx.of s5), L.ok, V0.le, m1, m12, by decide, fun _ H6 s6 => ⟨rfl, _, rfl, iteBF rfl ?_⟩, fun D H6 _ _ hU => ?_⟩
    · have s46 := s5.trans s6
      have t6 := t4.mono (TupEx.of s46)
      have ha6 := Ser.Same.sqT ((s14.trans s46)) ha
      have s16 := (s1.trans s14).trans s46
      refine ⟨_, rfl, a, xs, rfl, .inr ha6, _, _, rfl, rfl, _, rfl, iteB2 (fun hb => k _ s16) (fun hb => ?_)⟩
      refine ⟨_, rfl, _, rfl, .ref a, Tr, m, rfl, t6, Ft, fun _ v7 H7 s7 t7 => ⟨(by show 2 ≤ sizeLine; omega), fun p hp => ?_⟩, fun hl he => absurd hE.2 he, fun hl => absurd hE.1 hl⟩
      have s8 : Same H7 (upd H7 p (.tup [.int 0, .int 1])) := Ser.Same.new hp
      refine ⟨_, _, (t7.mono (TupEx.of s8)).dp, (TD.fr_mk (x := (0, 1)) (SqT.mk upd_same)).dp, shaped_fr, shaped_fr, _, rfl, iteBF ?_ ?_⟩
      · rw [eqv_fr, hX]; rfl
      generalize upd H7 p (.tup [V.int 0, V.int 1]) = H8 at s8 ⊢
      have s68 := s7.trans s8
      refine ⟨_, rfl, _, rfl, .ref a, Tr, m, rfl, t6.mono (TupEx.of s68), Ft, fun _ _ H9 s9 => ⟨rfl, _, rfl, iteBF rfl ?_⟩, fun _ hm2 => absurd hM hm2, fun hl he => absurd hE.2 he, fun hl => absurd hE.1 hl⟩
      have s69 := s68.trans s9
      refine ⟨_, rfl, _, rfl, .ref a, Tr, m, rfl, t6.mono (TupEx.of s69), .inr ⟨V0, L.live⟩, fun vA HA sA tA => ?_⟩
      refine ⟨(by show 1 ≤ sizeLine; omega), fun p2 hp2 => ⟨_, rfl, p2, (m : Nat), [.int 1], rfl, rfl, SqT.mk upd_same, by simp, by omega, by omega, by simp, fun e => absurd e hb', fun e p3 hp3 => ?_⟩⟩
      have sB : Same HA (upd HA p2 (.tup [.int 1])) := Ser.Same.new hp2
      have sC : Same (upd HA p2 (.tup [.int 1])) (upd (upd HA p2 (.tup [.int 1])) p3 (.tup (List.replicate ((m : Nat) : Int).toNat [V.int 1]).flatten)) := Ser.Same.new hp3
      refine ⟨p3, m, rfl, SqT.mk (by rw [upd_same, rep_row]), m1, m12, fun vB HB sD tB => ?_⟩
      have sAB := (sB.trans sC).trans sD
      refine ⟨_, _, (tA.mono (TupEx.of sAB)).dp, tB.dp, shaped_fr, shaped_fr, ?_⟩
      rw [eqv_fr, decide_eq_true hM]
      exact k _ (s16.trans ((s69.trans sA).trans sAB))
    · obtain ⟨x, hx, nx⟩ := hU.2
      exact absurd (L.leaves D x hx) nx
end
end Ser
end
section
set_option maxRecDepth 100000
set_option maxHeartbeats 4000000
namespace Ser
open PySem L2
structure DefG (P : Program) (w : World) (K : PySem.W.Frag) (mg : Str → Option Value) (base : Heap) (CX : CXT) (x : Str) (k : Nat) (ps : List Str) (sp : Sp) (f : Addr) (fd : FuncData) : Prop where
  ok : FnOkG P w K mg base CX k f fd ps sp
  gl : mg x = some (.ref f)
  kp : PySem.W.keepIn K (.ref f) = true
  bi : Binds K fd ps []
theorem dcallG {X : Cx} {x : Str} {p pos : Pos} {e : Expr} {es : List Expr} {t : TA} {k : Nat} {ps : List Str} {sp : Sp} {f : Addr} {fd : FuncData} (hgd : X.A.guards = some []) (G : DefG X.prog X.w X.K X.mg X.base CX0 x k ps sp f fd) (hr : Room k X.A) (ha : PA X (e :: es) t)
    (hg : Gl X x := by rfl) (hd : (x == ("__debug__" : Str)) = false := by decide) (he : starEach (e :: es) X.env = (false, eval e X.env) :: starEach es X.env := by rfl) (hpl : (backTo pos (starEach es X.env)).any (·.1) = false := by rfl) :
    PE X (.Call (.Name x p) (e :: es) [] pos) (tCall sp [] E0 t) := pe_callG hgd G.ok hr G.gl G.kp G.bi pass0 ha hg hd he hpl
theorem seqTest {tt : TT} {t w : TS} {D : Ends} {σ : L2.St} {H : Hp} (R : Hp → Prop) (hA : ∀ Q : Bool → Hp → Prop, (∀ H', R H' → Q false H') → tt σ H Q) (hQ : ∀ H', R H' → w D σ H') : tSeq (tIfS tt t tNext) w D σ H :=
  hA _ fun H' r => iteBF rfl (hQ H' r)
/-! ### the tree of the last rows -/
def T0 : SM.Tree := [(1, 1), (-1, -2)]
theorem T0_va : Va 2 T0 where
  ok := ⟨by decide, by decide +kernel, by decide +kernel⟩
  ro := fun t ht => by
    have r1 : SM.Reach T0 0 1 := .left .refl (by decide +kernel)
    match t, ht with
    | 0, _ => exact .refl
    | 1, _ => exact r1
  le := by decide
  m0 := by decide
  m12 := by decide
theorem T0_live : AllLive T0 := fun t ht => by
  have l1 : SM.Live T0 1 := ⟨1, .refl, .inl (by decide +kernel)⟩
  match t, ht with
  | 0, _ => exact SM.Live.of (.left .refl (by decide +kernel)) l1
  | 1, _ => exact l1
theorem T0_sh : shS 2 T0 = [(1, 2), (1, 2)] := by decide +kernel
theorem T0_even : EvenT 2 T0 := ⟨T0_live, fun x hx y hy => by
  rw [T0_sh] at hx hy
  simp only [List.mem_cons, List.not_mem_nil, or_false, or_self] at hx hy
  rw [hx, hy]⟩
theorem T0_ex : exF 2 T0 = (1, 1) := by decide +kernel
theorem T0_ne : mnS 2 T0 ≠ SM.bst 2 := by decide +kernel
theorem T0_un : UnAt 2 T0 1 := ⟨fun D' x h hx => by
  have e : D' = 0 := by omega
  subst e
  match x, hx with
  | 0, _ => decide +kernel
  | 1, _ => decide +kernel, 0, by decide, by decide +kernel⟩
section
variable {P : Program} {w : World} {K : PySem.W.Frag} {mg : Str → Option Value} {base : Heap} {aN aW : Addr}
/-! ### the law -/
abbrev sLaw : Stmt := top 64
def NLaw : List Str := ["_law_script", "_law_deck_here", "_law_turn", "_law_much", "_law_nodes", "_law_told"]
theorem scLaw : FnScope NLaw ["_law_script"] (defScope sLaw) := ⟨rfl, rfl, rfl, by decide +kernel, rfl, by decide +kernel, by decide +kernel⟩
def spLaw (K : PySem.W.Frag) : Sp := fun vs H Q _ => ∃ (a : Addr) (ns : List Int), vs = [.ref a] ∧ SqL K H a (ns.map V.int) ∧ ns.length ≤ 63 ∧ ∀ H', Q (.bl true) H'
theorem ok_law {f f1 f2 f3 f4 f5 f6 f7 f8 f9 f10 CE CU : Addr} {fd fd1 fd2 fd3 fd4 fd5 fd6 fd7 fd8 fd9 fd10 : FuncData} (F : FnP K "law" sLaw f fd) (T : Tx K mg aN aW)
    (G__law_deck : Def P w K mg base CX0 "_law_deck" 1 ["_law_script"] (spLDeck K) f1 fd1) (G__law_draw : Def P w K mg base CX0 "_law_draw" 1 ["_law_deck_here", "_law_much"] spLDraw f2 fd2)
    (G__law_any_tree : Def P w K mg base CX0 "_law_any_tree" 3 ["_law_deck_here", "_law_much"] (spLAny K) f3 fd3) (G__law_even_tree : Def P w K mg base CX0 "_law_even_tree" 2 ["_law_deck_here", "_law_much"] (spLEven K) f4 fd4)
    (G__law_right : DefG P w K mg base CX0 "_law_right" 10 ["_law_much", "_law_nodes"] (spLRight K) f5 fd5) (G__law_least_right : Def P w K mg base CX0 "_law_least_right" 9 ["_law_much"] (spLLeast K) f6 fd6)
    (G_is_even : Def P w K mg base CX0 "is_even" 7 ["many", "tree"] (spIsEven K) f7 fd7) (G_is_least : Def P w K mg base CX0 "is_least" 8 ["many", "tree"] (spIsLeast K) f8 fd8)
    (G_excess : Def P w K mg base (L2.CX P w) "excess" 6 ["many", "tree"] (spExcess K CE CU) f9 fd9) (G_unlike_depth : Def P w K mg base (L2.CX P w) "unlike_depth" 8 ["many", "tree"] (spUnlike K CE CU) f10 fd10) : FnOkG P w K mg base CX0 11 f fd ["_law_script"] (spLaw K) := by
  refine fd_okG F scLaw (fun vs H Q E h => ?_) (fun cdv A outer s H vs Q E hgd hr h => ?_)
  · obtain ⟨_, _, rfl, _⟩ := h
    rfl
  · obtain ⟨a, ns, rfl, ha, hl, k⟩ := h
    refine ⟨_, PSs.nox <| (pss_cons (ps_set (i := 1) scLaw.nd rfl (lc_ rfl) (dcall G__law_deck (hr.mono (by decide)) (pa_cons (pv 0) pa_nil)))
      (pss_cons (ps_for PassesOwn.never rfl (pi_range1 (by rfl) T.range_ (pa_cons pe_int pa_nil)) (pg_name (i := 2) scLaw.nd rfl (lc_ rfl)) (pss_cons (ps_set (i := 3) scLaw.nd rfl (lc_ rfl) (pe_op op_add pe_int (dcall G__law_draw (hr.mono (by decide)) (pa_cons (pv 1) (pa_cons pe_int pa_nil)))))
      (pss_one (ps_for PassesOwn.never rfl (piT K (pe_tup (pa_cons (dcall G__law_any_tree (hr.mono (by decide)) (pa_cons (pv 1) (pa_cons (pv 3) pa_nil))) (pa_cons (dcall G__law_even_tree (hr.mono (by decide)) (pa_cons (pv 1) (pa_cons (pv 3) pa_nil))) (pa_cons (dcall G__law_even_tree (hr.mono (by decide)) (pa_cons (pv 1) (pa_cons (pv 3) pa_nil))) pa_nil))))) (pg_name (i := 4) scLaw.nd rfl (lc_ rfl)) (pss_one (ps_if (pt_not (pt_val (dcallG hgd G__law_right (hr.mono (by decide)) (pa_cons (pv 3) (pa_cons (pv 4) pa_nil))))) (pss_one (ps_ret pe_bl)) pss_nil))))))
      (pss_cons (ps_set (i := 3) scLaw.nd rfl (lc_ rfl) (pe_op op_add pe_int (dcall G__law_draw (hr.mono (by decide)) (pa_cons (pv 1) (pa_cons pe_int pa_nil)))))
      (pss_cons (ps_if (pt_not (pt_val (dcall G__law_least_right (hr.mono (by decide)) (pa_cons (pe_ifExp (PW.pt (pw_and (pt_cmp (pc_eqI (pv 3) pe_int)) (pw_and1 (pt_cmp (pc_gt (dcall G__law_draw (hr.mono (by decide)) (pa_cons (pv 1) (pa_cons pe_int pa_nil))) pe_int))))) pe_int (pv 3)) pa_nil)))) (pss_one (ps_ret pe_bl)) pss_nil)
      (pss_cons (ps_set (i := 5) scLaw.nd rfl (lc_ rfl) (pe_lst (pa_cons (dcall G_is_even (hr.mono (by decide)) (pa_cons pe_int (pa_cons (pe_tup pa_nil) pa_nil))) (pa_cons (dcall G_is_least (hr.mono (by decide)) (pa_cons pe_int (pa_cons (pe_tup pa_nil) pa_nil))) (pa_cons (dcallX G_excess (hr.mono (by decide)) passL' (pa_cons pe_int (pa_cons (pe_tup (pa_cons (pe_tup (pa_cons pe_int (pa_cons pe_int pa_nil))) (pa_cons (pe_tup (pa_cons (pe_un un_neg pe_int) (pa_cons (pe_un un_neg pe_int) pa_nil))) pa_nil))) pa_nil))) (pa_cons (dcallX G_unlike_depth (hr.mono (by decide)) passL' (pa_cons pe_int (pa_cons (pe_tup (pa_cons (pe_tup (pa_cons pe_int (pa_cons pe_int pa_nil))) (pa_cons (pe_tup (pa_cons (pe_un un_neg pe_int) (pa_cons (pe_un un_neg pe_int) pa_nil))) pa_nil))) pa_nil))) pa_nil))))))
      (pss_one (ps_ret (pe_cmpR op_eq (pe_callB (cRepr K hgd hr.units) (by rfl) T.repr_ (by decide +kernel) (pa_cons (pv 5) pa_nil)) (pe_callB (cRepr K hgd hr.units) (by rfl) T.repr_ (by decide +kernel) (pa_cons (pe_lst (pa_cons pe_bl (pa_cons pe_bl (pa_cons (pe_tup (pa_cons pe_int (pa_cons pe_int pa_nil))) (pa_cons pe_int pa_nil))))) pa_nil)) (nomark _))))))))), ?_⟩
    have q0 : (100000 : Nat) ≤ sizeLine := by decide
    have z0 : (0 : Nat) ≤ sizeLine := by omega
    refine ⟨_, rfl, a, ns, rfl, ha, hl, fun D C H1 _ _ s1 d1 => ?_⟩
    refine ⟨(2 : Nat), rfl, by decide, by decide, ?_⟩
    refine for_it (walk_range (lo := 0) (n := 2)) (fun i σ H' => ∃ (n : Nat) (v2 v3 v4 : Option V), σ = [some (.ref a), some (.ref D), v2, v3, v4, none] ∧ n ≤ 400 * i ∧ Dck D C n H') ⟨0, none, none, none, rfl, by omega, d1⟩ (fun _ _ _ _ _ => trivial) ?_ ?_
    · rintro i x σ H2 H3 hi ⟨n, v2, v3, v4, rfl, hn, d3⟩ ⟨rfl, rfl⟩
      refine ⟨_, rfl, D, C, n, 6, rfl, d3, by decide, by decide, by omega, fun r H4 hr4 d4 s4 => ⟨_, _, rfl, rfl, ?_⟩⟩
      obtain ⟨m, em, m1, m6⟩ : ∃ m : Nat, (1 : Int) + (r : Int) = m ∧ 1 ≤ m ∧ m ≤ 6 := ⟨1 + r, by omega, by omega, by omega⟩
      dsimp only [gName]
      refine with_st (σ' := [some (.ref a), some (.ref D), some (.int (0 + (i : Int))), some (.int (m : Nat)), v4, none]) (by rw [← em]; rfl) ?_
      refine ⟨_, rfl, _, rfl, D, C, n + 1, m, rfl, d4, m1, by omega, by omega, fun vA HA nA TA hnA dA sA tA VA => ?_⟩
      refine ⟨_, rfl, _, rfl, D, C, nA, m, rfl, dA, m1, m6, by omega, fun vB HB nB TB hnB dB sB tB VB => ?_⟩
      refine ⟨_, rfl, _, rfl, D, C, nB, m, rfl, dB, m1, m6, by omega, fun vC HC nC TC hnC dC sC tC VC => ⟨(by show 3 ≤ sizeLine; omega), fun p hp => ⟨p, rfl, ⟨_, SqT.mk upd_same⟩, ?_⟩⟩⟩
      have sp : Same HC (upd HC p (.tup [vA, vB, vC])) := Ser.Same.new hp
      have eC := TupEx.of sp
      have eB := (DkS.tup dB sC).trans eC
      have eA := (DkS.tup dA sB).trans eB
      have hpp : (upd HC p (.tup [vA, vB, vC])) p = some (.tup [vA, vB, vC]) := upd_same
      have dp := dC.same sp
      have tA' := tA.mono eA
      have tB' := tB.mono eB
      have tC' := tC.mono eC
      generalize upd HC p (.tup [vA, vB, vC]) = HD at hpp dp tA' tB' tC' ⊢
      refine for_it (walk_tup (xs := [vA, vB, vC])) (fun j σ H' => ∃ v4 : Option V, σ = [some (.ref a), some (.ref D), some (.int (0 + (i : Int))), some (.int (m : Nat)), v4, none] ∧ Same HD H') ⟨v4, rfl, fun _ _ e => e⟩ (fun j σ H' _ ⟨_, _, s⟩ => SqT.mk (s _ _ hpp)) ?_ ?_
      · rintro j x σ H5 H6 hj ⟨u4, rfl, s5⟩ ⟨rfl, hx⟩
        have key : ∃ T, TD K HD x (trD T) ∧ Vs m T := by
          match j, hj, hx with
          | 0, _, hx => cases hx; exact ⟨_, tA', VA⟩
          | 1, _, hx => cases hx; exact ⟨_, tB', VB⟩
          | 2, _, hx => cases hx; exact ⟨_, tC', VC⟩
        obtain ⟨T, tT, VT⟩ := key
        exact ⟨_, rfl, _, rfl, x, T, m, rfl, tT.mono (TupEx.of s5), VT, m6, fun H7 s7 => ⟨_, rfl, iteBF rfl ⟨_, rfl, s5.trans s7⟩⟩⟩
      · rintro σ H5 ⟨u4, rfl, s5⟩
        exact ⟨nC, _, _, _, rfl, by omega, dp.same s5⟩
    rintro σ H2 ⟨n, v2, v3, v4, rfl, hn, d2⟩
    refine ⟨_, rfl, D, C, n, 12, rfl, d2, by decide, by decide, by omega, fun r H3 hr3 d3 s3 => ⟨_, _, rfl, rfl, ?_⟩⟩
    obtain ⟨m, em, m1, m12⟩ : ∃ m : Nat, (1 : Int) + (r : Int) = m ∧ 1 ≤ m ∧ m ≤ 12 := ⟨1 + r, by omega, by omega, by omega⟩
    dsimp only [gName]
    refine with_st (σ' := [some (.ref a), some (.ref D), v2, some (.int (m : Nat)), v4, none]) (by rw [← em]; rfl) ?_
    refine seqTest (fun _ => True) (fun Qc kk => ?_) ?_
    · refine ⟨_, rfl, _, _, rfl, rfl, _, rfl, iteB2 (fun hb => ?_) (fun hb => iteBF rfl ?_)⟩
      · refine ⟨_, rfl, D, C, n + 1, 4, rfl, d3, by decide, by decide, by omega, fun r2 H4 hr4 d4 s4 => ⟨_, _, rfl, rfl, _, rfl, iteB2 (fun hb2 => ?_) (fun hb2 => ?_)⟩⟩
        · exact ⟨5, rfl, by decide, by decide, fun H5 s5 => ⟨_, rfl, kk _ trivial⟩⟩
        · exact ⟨_, rfl, m, rfl, m1, m12, fun H5 s5 => ⟨_, rfl, kk _ trivial⟩⟩
      · exact ⟨_, rfl, m, rfl, m1, m12, fun H5 s5 => ⟨_, rfl, kk _ trivial⟩⟩
    intro H4 _
    have tnil : ∀ {H : Hp} {q : Addr}, H q = none → TD K (upd H q (.tup [])) (.ref q) (trD []) := fun hq => .tup (SqT.mk upd_same) .nil
    have Ft : Fit 1 [] := .inl ⟨rfl, rfl⟩
    have hE : EvenT 1 [] := ⟨fun t ht => absurd ht (Nat.not_lt_zero _), fun x hx y hy => by
      have e : shS 1 [] = [(1, 1)] := rfl
      rw [e, List.mem_singleton] at hx hy
      rw [hx, hy]⟩
    have hM : mnS 1 [] = SM.bst 1 := by decide +kernel
    have tT0 : ∀ {H : Hp} {p1 p2 p3 : Addr}, H p1 = none → (upd H p1 (.tup [.int 1, .int 1])) p2 = none → (upd (upd H p1 (.tup [.int 1, .int 1])) p2 (.tup [.int (-1), .int (-2)])) p3 = none →
        TD K (upd (upd (upd H p1 (.tup [.int 1, .int 1])) p2 (.tup [.int (-1), .int (-2)])) p3 (.tup [.ref p1, .ref p2])) (.ref p3) (trD T0) := fun {H p1 p2 p3} h1 h2 h3 => by
      have q2 : Same (upd H p1 (.tup [.int 1, .int 1])) (upd (upd H p1 (.tup [.int 1, .int 1])) p2 (.tup [.int (-1), .int (-2)])) := Ser.Same.new h2
      have q3 : Same (upd (upd H p1 (.tup [.int 1, .int 1])) p2 (.tup [.int (-1), .int (-2)])) (upd (upd (upd H p1 (.tup [.int 1, .int 1])) p2 (.tup [.int (-1), .int (-2)])) p3 (.tup [.ref p1, .ref p2])) := Ser.Same.new h3
      exact .tup (SqT.mk upd_same) (.cons (TD.fr_mk (x := (1, 1)) (SqT.mk ((q2.trans q3) _ _ upd_same))) (.cons (TD.fr_mk (x := (-1, -2)) (SqT.mk (q3 _ _ upd_same))) .nil))
    have sT0 : ∀ {H : Hp} {p1 p2 p3 : Addr}, H p1 = none → (upd H p1 (.tup [.int 1, .int 1])) p2 = none → (upd (upd H p1 (.tup [.int 1, .int 1])) p2 (.tup [.int (-1), .int (-2)])) p3 = none →
        Same H (upd (upd (upd H p1 (.tup [.int 1, .int 1])) p2 (.tup [.int (-1), .int (-2)])) p3 (.tup [.ref p1, .ref p2])) := fun h1 h2 h3 => ((Ser.Same.new h1).trans (Ser.Same.new h2)).trans (Ser.Same.new h3)
    refine ⟨z0, fun p1 hp1 => ⟨.ref p1, [], 1, rfl, tnil hp1, Ft, fun b1 H5 s5 hb1 => ?_⟩⟩
    refine ⟨z0, fun p2 hp2 => ⟨.ref p2, [], 1, rfl, tnil hp2, Ft, fun b2 H6 s6 hb2 => ?_⟩⟩
    rw [hb1.mpr hE, hb2.mpr ⟨hE, hM⟩]
    refine ⟨(by show 2 ≤ sizeLine; omega), fun p3 hp3 => ⟨_, rfl, _, rfl, (by show 2 ≤ sizeLine; omega), fun p4 hp4 => ⟨(by show 2 ≤ sizeLine; omega), fun p5 hp5 => ?_⟩⟩⟩
    refine ⟨.ref p5, T0, 2, rfl, tT0 hp3 hp4 hp5, .inr T0_va, fun _ v3' H7 s7 t7 => ?_, fun hl he => absurd T0_even.2 he, fun hl => absurd T0_live hl⟩
    refine ⟨(by show 2 ≤ sizeLine; omega), fun p6 hp6 => ⟨_, rfl, _, rfl, (by show 2 ≤ sizeLine; omega), fun p7 hp7 => ⟨(by show 2 ≤ sizeLine; omega), fun p8 hp8 => ?_⟩⟩⟩
    refine ⟨.ref p8, T0, 2, rfl, tT0 hp6 hp7 hp8, .inr T0_va, fun _ hm => absurd hm T0_ne, fun _ _ D' H8 s8 hU => ?_, fun hl he => absurd T0_even.2 he, fun hl => absurd T0_live hl⟩
    have eD := hU.eq T0_un
    subst eD
    have s78 := (sT0 hp6 hp7 hp8).trans s8
    have t8 := t7.mono (TupEx.of s78)
    rw [T0_ex] at t8
    refine ⟨(by show 4 ≤ sizeLine; omega), fun p9 hp9 => ?_⟩
    have s9 : Same H8 (upd H8 p9 (.lst [.bl true, .bl true, v3', .int ((1 : Nat) : Int)])) := Ser.Same.new hp9
    have t9 := t8.mono (TupEx.of s9)
    have shw : Shw (.list [.bool true, .bool true, frD (1, 1), .int 1]) := ⟨by decide +kernel, by decide +kernel, by decide +kernel, by decide +kernel, by decide +kernel⟩
    dsimp only [gName]
    refine with_st (σ' := [some (.ref a), some (.ref D), v2, some (.int (m : Nat)), v4, some (.ref p9)]) rfl ?_
    refine ⟨_, rfl, p9, _, rfl, .lst (SqL.mk upd_same) (.cons (.bl true) (.cons (.bl true) (.cons t9.dp (.cons (.int 1) .nil)))), shw, ?_⟩
    refine ⟨(by show 2 ≤ sizeLine; omega), fun pa hpa => ⟨(by show 4 ≤ sizeLine; omega), fun pb hpb => ?_⟩⟩
    have sb := Ser.Same.new (o := .lst [.bl true, .bl true, .ref pa, .int 1]) hpb
    refine ⟨pb, .list [.bool true, .bool true, frD (1, 1), .int 1], rfl, .lst (SqL.mk upd_same) (.cons (.bl true) (.cons (.bl true) (.cons (TD.fr_mk (x := (1, 1)) (Ser.Same.sqT sb (SqT.mk upd_same))).dp (.cons (.int 1) .nil)))), shw, rfl, ?_⟩
    rw [decide_eq_true rfl]
    exact k _
end
end Ser
end
section
set_option maxRecDepth 100000
set_option maxHeartbeats 4000000
/-! the head's facts: what is looked at behind the top -/
namespace Ser
open PySem PySem.Spec PyProof.Rows L2
/-! ### classes of errors -/
def clB (K : PySem.W.Frag) (x y : Str) : Bool := match K.lookup (He.ga K x) with
  | some ⟨.type t, _, .cls ⟨_, _, mro, _, _, hd, _, _, _, _, dl⟩, ⟨[_, _, _, _, some (.builtin n), _]⟩⟩ => decide (t = "type") && (decide (mro = .ref (He.ga K x) :: .ref (He.ga K y) :: ESX.exTail) && (hd && (!dl && decide (n = "Exception.__new__"))))
  | _ => false
theorem clB_ok {K : PySem.W.Frag} {x y : Str} (h : clB K x y = true) :
    ∃ nm q N bs sn sub ab col dd k0 k1 k2 k3 k5, K.lookup (He.ga K x) = some (excClassObj nm q (He.ga K x) N bs (.ref (He.ga K y) :: ESX.exTail) true sn sub ab col dd k0 k1 k2 k3 k5 "Exception.__new__") := by
  unfold clB at h
  split at h
  · rename_i t dd nm bs mro N q hd sn sub ab col dl k0 k1 k2 k3 n k5 e
    simp only [Bool.and_eq_true, decide_eq_true_eq, Bool.not_eq_true'] at h
    obtain ⟨rfl, rfl, rfl, rfl, rfl⟩ := h
    exact ⟨nm, q, N, bs, sn, sub, ab, col, dd, k0, k1, k2, k3, k5, e⟩
  · cases h
def ini (K : PySem.W.Frag) (x : Str) : Addr := He.ma K (He.ga K x) "__init__"
def fileB (file : Str) (vs : Array Value) : Bool := match (vs[2]? : Option Value) with
  | some (.str f _) => file == f
  | _ => false
theorem fileB_ok {file : Str} {vs : Array Value} (h : fileB file vs = true) : ∃ f tf, vs[2]? = some (.str f tf) ∧ (file == f) = true := by
  unfold fileB at h
  split at h
  · rename_i f tf e; exact ⟨f, tf, e, h⟩
  · cases h
def inV_ (q : Str) (ar : Arguments) (bd : List Stmt) (sc : Scope) : Option (Str × Str × Arguments × FuncBody × Scope × Addr × List Str × Addr) := some ("__init__", q, ar, .stmts bd, sc, mainGlobals, ["__class__"], builtinsNs)
def inB (K : PySem.W.Frag) (file x q : Str) : Bool := match K.lookup (ini K x) with
  | some ⟨_, _, .func ⟨_, _, _, _, _, _, [(_, cc)], .none, .none, _, _, _, .ref cda, _, _⟩, _⟩ => PySem.W.codeIn K (.ref cda) q && ((match K.lookup cda with
      | some ⟨_, _, .fields vs, _⟩ => fileB file vs
      | _ => false) && (match K.lookup cc with
      | some ⟨_, _, .cell (some (.ref c)), _⟩ => decide (c = He.ga K x)
      | _ => false))
  | _ => false
abbrev InW : Type := Option (Str × Str × Arguments × FuncBody × Scope × Addr × List Str × Addr)
def inW (K : PySem.W.Frag) (x : Str) : InW := match K.lookup (ini K x) with
  | some ⟨_, _, .func fd, _⟩ => some (fd.name, fd.qualname, fd.params, fd.body, fd.scope, fd.globals, fd.closure.map (·.1), fd.builtins)
  | _ => none
theorem in_ok {K : PySem.W.Frag} {file x q : Str} {ar : Arguments} {bd : List Stmt} {sc : Scope} (e : inW K x = inV_ q ar bd sc) (h : inB K file x q = true) :
    ∃ (oc : Value) (od : Option Addr) (doc pm : Value) (an : Option Addr) (cda : Addr) (ct : Value) (cc : Addr) (osl : Array (Option Value)) (ccl : Value) (cdd : Option Addr) (ccs : Array (Option Value)) (vs : Array Value) (f : Str) (tf : Tok) (cl : Value) (cld : Option Addr) (csl : Array (Option Value)),
    K.lookup (ini K x) = some ⟨oc, od, .func (PySem.W.ksFn "__init__" q ar bd sc .none .none doc pm an (.ref cda) ct cc), osl⟩ ∧ PySem.W.codeIn K (.ref cda) q = true ∧ K.lookup cda = some ⟨ccl, cdd, .fields vs, ccs⟩ ∧ vs[2]? = some (.str f tf) ∧ (file == f) = true ∧
    K.lookup cc = some ⟨cl, cld, .cell (some (.ref (He.ga K x))), csl⟩ := by
  unfold inB at h
  unfold inW at e
  split at h
  · rename_i oc od n1 n2 n3 n4 n5 n6 nc cc doc pm an cda ct n15 osl hl
    rw [hl] at e
    have e2 : (some (n1, n2, n3, n4, n5, n6, [nc], n15) : InW) = inV_ q ar bd sc := e
    unfold inV_ at e2
    simp only [Option.some.injEq, Prod.mk.injEq, List.cons.injEq, and_true] at e2
    obtain ⟨h1, h2, h3, h4, h5, h6, h7, h8⟩ := e2
    subst h1 h2 h3 h4 h5 h6 h7 h8
    simp only [Bool.and_eq_true] at h
    obtain ⟨g1, g2, g3⟩ := h
    split at g2
    · rename_i ccl cdd vs ccs hc
      obtain ⟨f, tf, hv, g2⟩ := fileB_ok g2
      split at g3
      · rename_i cl cld c csl hcc
        have := of_decide_eq_true g3
        subst this
        exact ⟨oc, od, doc, pm, an, cda, ct, cc, osl, ccl, cdd, ccs, vs, f, tf, cl, cld, csl, hl, g1, hc, hv, g2, hcc⟩
      · cases g3
    · cases g2
  · cases h
/-- all that an own class of errors must have: x, over y, with the field f -/
def supB (K : PySem.W.Frag) (file x y f q : Str) : Bool := clB K x y && (inB K file x q && (He.eqO (PySem.W.findIn K (.ref (He.ga K x)) "__setattr__") (some (some (.builtin "object.__setattr__"))) && (He.eqO (PySem.W.findIn K (.ref (He.ga K x)) f) (some none) && (He.eqO (PySem.W.findIn K (.ref (He.ga K x)) "__init__") (some (some (.ref (ini K x)))) &&
  (decide (PySem.W.typeIn K (.ref (ini K x)) = some (.type "function")) && (PySem.W.keepIn K (.ref (He.ga K x)) && (decide (PySem.W.subIn K (.ref (He.ga K x)) (.type "BaseException") = some true) && (decide (PySem.W.typeIn K (.ref (He.ga K x)) = some (.type "type")) && (decide (PySem.W.mroIn K (He.ga K x) (.type "Exception") = some true) &&
  (decide (PySem.W.mroIn K (He.ga K x) (.ref (He.ga K x)) = some true) && (He.eqO (PySem.W.alongIn K "__init__" (.ref (He.ga K y) :: ESX.exTail)) (some (some (.builtin "Exception.__init__"))) && He.eqO (PySem.W.nsIn K cStatics "thirdparty.any") (some none))))))))))))
/-- the text's own part -/
structure SupT (P : Program) (f q : Str) (sc : Scope) (Z : SupX.Qs) : Prop where
  top : (P.main.scope.names.lookup ("super" : Str)).isSome = false
  k1 : sc.names.lookup ("self" : Str) = some .local
  k2 : sc.names.lookup f = some .local
  k3 : sc.names.lookup ("super" : Str) = some .globalImplicit
  k4 : sc.names.lookup ("__class__" : Str) = some .free
  k5 : ∀ x ∈ sc.names, x.2 ≠ .cell
  k6 : sc.kind = .function ∧ sc.isCoroutine = false ∧ sc.isGenerator = false
  bn : ∀ (doc pm : Value) (an : Option Addr) (cdv ct : Value) (cc : Addr) (a b : Value), bindArgs (PySem.W.ksFn "__init__" q (Z.ar f) (Z.bd f) sc .none .none doc pm an cdv ct cc) ⟨[a, b], []⟩ = pure [(("self" : Str), a), (f, b)]
  ev : ∀ env : Env, ∃ pl : Sem Bool, eval (.Call (.Attribute (.Call (.Name "super" Z.q1) [] [] Z.q2) "__init__" Z.q3) [.Name f Z.q4] [] Z.q5) env = (do
      let ov ← attributeBase (.Call (.Name "super" Z.q1) [] [] Z.q2) "__init__" env (eval (.Call (.Name "super" Z.q1) [] [] Z.q2) env)
      standAt Z.q3.atName
      let (f', first) ← holding [ov] (getMethod ov "__init__" pl)
      callWith Z.q5 f' first (backTo Z.q5 (starEach [.Name f Z.q4] env)) [])
  s1 : ∀ env : Env, swapsWith (.Call (.Attribute (.Call (.Name "super" Z.q1) [] [] Z.q2) "__init__" Z.q3) [.Name f Z.q4] [] Z.q5) none Z.q5.line env = pure false
  s2 : ∀ env : Env, swapsWith (.Name f Z.q8) (some (.Attribute (.Name "self" Z.q6) f Z.q7)) Z.q9.line env = pure false
  nf : ("self" : Str) ≠ f ∧ (f == ("__debug__" : Str)) = false ∧ f ≠ "__class__"
theorem sup_ok {P : Program} {K : PySem.W.Frag} {mg : Str → Option Value} {x y f q : Str} {sc : Scope} {Z : SupX.Qs} (S : SupT P f q sc Z) (hg : mg x = some (.ref (He.ga K x))) (hs : mg "super" = none) (hw : inW K x = inV_ q (Z.ar f) (Z.bd f) sc) (h : supB K P.main.file x y f q = true) :
    SupX.SupTxt P K mg x f q sc Z (He.ga K x) (He.ga K y) (ini K x) := by
  unfold supB at h
  simp only [Bool.and_eq_true, decide_eq_true_eq] at h
  obtain ⟨h1, h2, h3, h4, h5, h6, h7, h8, h9, h10, h11, h12, h13⟩ := h
  exact ⟨hg, clB_ok h1, He.eqO_ok h3, He.eqO_ok h4, He.eqO_ok h5, h6, h7, h8, h9, in_ok hw h2, h10, h11, He.eqO_ok h12, He.eqO_ok h13, hs, S.top, S.k1, S.k2, S.k3, S.k4, S.k5, S.k6, S.bn, S.ev, S.s1, S.s2, S.nf⟩
/-! ### the Hook -/
def asO (g : Addr → Option Obj) : List Addr := cStatics :: He.asD g 4
abbrev AlO : Type := Bool × List He.FnW × List InW
structure Says where
  fa : List He.Fa
  fn : List He.DefD
  ts : List (PySem.W.Frag → Bool)
  ins : List (Str × InW)
def Says.obs (S : Says) (K : PySem.W.Frag) : AlO := ((S.fa.all fun f => f.ok K) && ((S.fn.all fun d => d.ok K) && S.ts.all fun t => t K), S.fn.map fun d => He.fnW K d.at_, S.ins.map fun i => inW K i.1)
def Says.val (S : Says) : AlO := (true, S.fn.map He.DefD.val, S.ins.map (·.2))
def Says.of (S : Says) (K : PySem.W.Frag) : Prop := S.obs K = S.val
def Says.ob (S : Says) (g : Addr → Option Obj) : AlO := S.obs (He.frG g (asO g))
def Says.hook (S : Says) : PySem.W.Hook where
  α := AlO
  obs := fun s => S.ob s.heap.get?
  val := fun _ => S.val
  says := fun _ h => ∃ K : PySem.W.Frag, K.In h ∧ S.of K
  of := fun _ _ e => ⟨_, He.frG_in, e⟩
  keeps := fun _ _ _ ⟨K, hK, c⟩ k => ⟨K, PySem.W.Frag.In.keeps hK k, c⟩
theorem Says.ob_eq (S : Says) {g : Addr → Option Obj} {s : Shared} (h : ∀ a, g a = s.heap.get? a) : S.ob g = S.hook.obs s := by
  have e : g = s.heap.get? := funext h
  rw [e] <;> rfl
section
variable {S : Says} {K : PySem.W.Frag}
theorem Says.fact (c : S.of K) (i : Nat) {f : He.Fa} (h : S.fa[i]? = some f := by rfl) : f.ok K = true := by
  have c1 := (He.ba (congrArg (fun z : AlO => z.1) c)).1
  exact List.all_eq_true.mp c1 f (List.mem_of_getElem? h)
theorem Says.test (c : S.of K) (i : Nat) {t : PySem.W.Frag → Bool} (h : S.ts[i]? = some t := by rfl) : t K = true := by
  have c1 := (He.ba (He.ba (congrArg (fun z : AlO => z.1) c)).2).2
  exact List.all_eq_true.mp c1 t (List.mem_of_getElem? h)
theorem Says.def_ (c : S.of K) (i : Nat) {d : He.DefD} (h : S.fn[i]? = some d := by rfl) : ∃ fd, FunD K d.name d.qual d.params d.body d.scope (d.dvs K) (d.kws K) (He.fAd K d.at_) fd := by
  have c2 := (He.ba (He.ba (congrArg (fun z : AlO => z.1) c)).2).1
  have e : S.fn.map (fun d => He.fnW K d.at_) = S.fn.map He.DefD.val := congrArg (fun z : AlO => z.2.1) c
  have e2 : (S.fn.map fun d => He.fnW K d.at_)[i]? = (S.fn.map He.DefD.val)[i]? := by rw [e]
  rw [List.getElem?_map, List.getElem?_map, h] at e2
  exact He.DefD.funD (Option.some.inj e2) (List.all_eq_true.mp c2 d (List.mem_of_getElem? h))
theorem Says.ini (c : S.of K) (i : Nat) {q : Str × InW} (h : S.ins[i]? = some q := by rfl) : inW K q.1 = q.2 := by
  have e : S.ins.map (fun i => inW K i.1) = S.ins.map (·.2) := congrArg (fun z : AlO => z.2.2) c
  have e2 : (S.ins.map fun i => inW K i.1)[i]? = (S.ins.map (·.2))[i]? := by rw [e]
  rw [List.getElem?_map, List.getElem?_map, h] at e2
  exact Option.some.inj e2
end
end Ser
end
section
set_option maxRecDepth 100000
set_option maxHeartbeats 4000000
namespace Ser
open PySem PySem.Spec PyProof.Rows L2
/-! ### what stands behind the top -/
abbrev lw : PySem.W.OpenLaw := PySem.Challenge.rw_serialhouse_k46_whole_even_and_least_tre
abbrev Rw : PySem.W.OpenRow := PySem.W.OpenLaw.row lw
def dd (x : Str) (i : Nat) : He.DefD := ⟨(x, none), x, x, defArgs (top i), defBody (top i), defScope (top i), [], []⟩
def fnL0 : List He.DefD := [dd "common_part" 7, dd "fraction" 8, dd "minus" 9, dd "power" 10, dd "swapped" 11, dd "lessened" 12, dd "solved" 13, dd "opens_to" 15, dd "leaves_to" 16, dd "leaves_at" 17, dd "open_round" 18, dd "by_twos" 19, dd "mean_of" 20, dd "mean" 21, dd "met_from" 25, dd "dead_nodes" 26, dd "does_end" 27, dd "sum_of" 28, dd "tree_paper" 29, dd "told_of" 30, dd "tree_shares" 31, dd "tree_mean" 32, dd "are_even" 33, dd "is_even" 34, dd "is_least" 35, dd "excess" 36, dd "leaves_by_depth" 37, dd "unlike_depth" 38, dd "place_at" 39, dd "least_tree" 40]
def fnL1 : List He.DefD := [dd "_law_deck" 42, dd "_law_draw" 43, dd "_law_twos" 44, dd "_law_ratio" 45, dd "_law_summed" 46, dd "_law_mean_by" 47, dd "_law_met" 48, dd "_law_pruned" 49, dd "_law_any_tree" 50, dd "_law_even_tree" 51, dd "_law_can_draw" 52, dd "_law_half" 53, dd "_law_is_fraction" 54, dd "_law_row_of" 55, dd "_law_is_ends" 56, dd "_law_walked" 57, dd "_law_is_paper" 58, dd "_law_leaves_by_depth" 59, dd "_law_unlike" 60, dd "_law_heard" 61, dd "_law_right" 62, dd "_law_least_right" 63, dd "law" 64]
def fnL : List He.DefD := fnL0 ++ fnL1
def faL0 : List He.Fa := [.glo "SerialError", .glo "Endless", .glo "Uneven", .glo "NOUGHT", .glo "WHOLE", .glo "common_part", .glo "fraction", .glo "minus", .glo "power", .glo "swapped", .glo "lessened", .glo "solved", .glo "opens_to", .glo "leaves_to", .glo "leaves_at", .glo "open_round", .glo "by_twos", .glo "mean_of", .glo "mean", .glo "met_from", .glo "dead_nodes", .glo "does_end", .glo "sum_of", .glo "tree_paper", .glo "told_of", .glo "tree_shares", .glo "tree_mean", .glo "are_even", .glo "is_even", .glo "is_least"]
def faL1 : List He.Fa := [.glo "excess", .glo "leaves_by_depth", .glo "unlike_depth", .glo "place_at", .glo "least_tree", .glo "_law_deck", .glo "_law_draw", .glo "_law_twos", .glo "_law_ratio", .glo "_law_summed", .glo "_law_mean_by", .glo "_law_met", .glo "_law_pruned", .glo "_law_any_tree", .glo "_law_even_tree", .glo "_law_can_draw", .glo "_law_half", .glo "_law_is_fraction", .glo "_law_row_of", .glo "_law_is_ends", .glo "_law_walked", .glo "_law_is_paper", .glo "_law_leaves_by_depth", .glo "_law_unlike", .glo "_law_heard", .glo "_law_right", .glo "_law_least_right", .glo "law", .free "abs", .free "len"]
def faL2 : List He.Fa := [.free "range", .free "zip", .free "enumerate", .free "list", .free "tuple", .free "int", .free "any", .free "all", .free "min", .free "sum", .free "set", .free "repr", .free "isinstance", .free "str", .free "bool", .free "super", .str "ENDS" "ends", .str "ENDLESS" "endless", .exm "Endless" "Endless" true, .exm "Uneven" "Endless" false, .exm "Uneven" "Uneven" true, .noat "Endless" "paper", .noat "Uneven" "shares"]
def faL : List He.Fa := faL0 ++ faL1 ++ faL2
def nmL0 : List Str := ["SerialError", "Endless", "Uneven", "NOUGHT", "WHOLE", "common_part", "fraction", "minus", "power", "swapped", "lessened", "solved", "opens_to", "leaves_to", "leaves_at", "open_round", "by_twos", "mean_of", "mean", "ENDS", "ENDLESS", "met_from", "dead_nodes", "does_end", "sum_of", "tree_paper", "told_of", "tree_shares", "tree_mean", "are_even"]
def nmL1 : List Str := ["is_even", "is_least", "excess", "leaves_by_depth", "unlike_depth", "place_at", "least_tree", "_law_deck", "_law_draw", "_law_twos", "_law_ratio", "_law_summed", "_law_mean_by", "_law_met", "_law_pruned", "_law_any_tree", "_law_even_tree", "_law_can_draw", "_law_half", "_law_is_fraction", "_law_row_of", "_law_is_ends", "_law_walked", "_law_is_paper", "_law_leaves_by_depth", "_law_unlike", "_law_heard", "_law_right", "_law_least_right"]
def nmL : List Str := nmL0 ++ nmL1
def ZE : SupX.Qs := ⟨⟨6, 17, 6, 21⟩, ⟨6, 23, 6, 28⟩, ⟨7, 8, 7, 13⟩, ⟨7, 8, 7, 15⟩, ⟨7, 8, 7, 24⟩, ⟨7, 25, 7, 30⟩, ⟨7, 8, 7, 31⟩, ⟨8, 8, 8, 12⟩, ⟨8, 8, 8, 18⟩, ⟨8, 21, 8, 26⟩, ⟨8, 8, 8, 26⟩⟩
def ZU : SupX.Qs := ⟨⟨11, 17, 11, 21⟩, ⟨11, 23, 11, 29⟩, ⟨12, 8, 12, 13⟩, ⟨12, 8, 12, 15⟩, ⟨12, 8, 12, 24⟩, ⟨12, 25, 12, 31⟩, ⟨12, 8, 12, 32⟩, ⟨13, 8, 13, 12⟩, ⟨13, 8, 13, 19⟩, ⟨13, 22, 13, 28⟩, ⟨13, 8, 13, 28⟩⟩
def iSc (f : Str) : Scope := { kind := .function, names := [("self", .local), (f, .local), ("__class__", .free), ("super", .globalImplicit)], isGenerator := false, isCoroutine := false, more := [] }
def tsL : List (PySem.W.Frag → Bool) := [fun K => He.tupB K "NOUGHT" [.int 0, .int 1], fun K => He.tupB K "WHOLE" [.int 1, .int 1], fun K => xfB K (He.ga K "Endless"), fun K => xfB K (He.ga K "Uneven"),
  fun K => decide (PySem.W.kitOne K (.ref (He.ga K "Endless")) (.ref (He.ga K "SerialError")) = some true), fun K => decide (PySem.W.kitOne K (.ref (He.ga K "Uneven")) (.ref (He.ga K "SerialError")) = some true),
  fun K => supB K lw.prog.main.file "Endless" "SerialError" "paper" "Endless.__init__", fun K => supB K lw.prog.main.file "Uneven" "SerialError" "shares" "Uneven.__init__"]
def SS : Says := ⟨faL, fnL, tsL, [("Endless", inV_ "Endless.__init__" (ZE.ar "paper") (ZE.bd "paper") (iSc "paper")), ("Uneven", inV_ "Uneven.__init__" (ZU.ar "shares") (ZU.bd "shares") (iSc "shares"))]⟩
abbrev obR (s : PySem.W.SharedT) : AlO := SS.ob (HandSHeadRun.getT s)
theorem obR_eq (s : PySem.W.SharedT) : obR s = SS.hook.obs s.abs := SS.ob_eq (HandSHeadRun.getT_eq s)
theorem run (w : World) : HandSHeadRun.RunEq Rw (PySem.W.view Rw.prog [64]) SS.hook obR 3000 nmL w := by
  intro os
  kernel_rfl
end Ser
end
section
set_option maxRecDepth 100000
set_option maxHeartbeats 4000000
namespace Ser
open PySem PySem.Spec PyProof.Rows L2
theorem supT_E : SupT lw.prog "paper" "Endless.__init__" (iSc "paper") ZE := ⟨by decide +kernel, rfl, by decide +kernel, by decide +kernel, by decide +kernel, by decide +kernel, ⟨rfl, rfl, rfl⟩, fun _ _ _ _ _ _ _ _ => rfl, fun _ => ⟨_, rfl⟩, fun _ => rfl, fun _ => rfl, by decide +kernel⟩
theorem supT_U : SupT lw.prog "shares" "Uneven.__init__" (iSc "shares") ZU := ⟨by decide +kernel, rfl, by decide +kernel, by decide +kernel, by decide +kernel, by decide +kernel, ⟨rfl, rfl, rfl⟩, fun _ _ _ _ _ _ _ _ => rfl, fun _ => ⟨_, rfl⟩, fun _ => rfl, fun _ => rfl, by decide +kernel⟩
section
variable {w : World} {K : PySem.W.Frag} {h : Heap} {mg : Str → Option Value}
theorem tx (X : K.In h) (G : h.Ns mainGlobals mg) (c : SS.of K) : Tx K mg (He.ga K "NOUGHT") (He.ga K "WHOLE") where
  abs_ := He.free_ok X G (Says.fact c 58 (f := .free "abs") rfl)
  len_ := He.free_ok X G (Says.fact c 59 (f := .free "len") rfl)
  range_ := He.free_ok X G (Says.fact c 60 (f := .free "range") rfl)
  zip_ := He.free_ok X G (Says.fact c 61 (f := .free "zip") rfl)
  enumerate_ := He.free_ok X G (Says.fact c 62 (f := .free "enumerate") rfl)
  list_ := He.free_ok X G (Says.fact c 63 (f := .free "list") rfl)
  tuple_ := He.free_ok X G (Says.fact c 64 (f := .free "tuple") rfl)
  int_ := He.free_ok X G (Says.fact c 65 (f := .free "int") rfl)
  any_ := He.free_ok X G (Says.fact c 66 (f := .free "any") rfl)
  all_ := He.free_ok X G (Says.fact c 67 (f := .free "all") rfl)
  min_ := He.free_ok X G (Says.fact c 68 (f := .free "min") rfl)
  sum_ := He.free_ok X G (Says.fact c 69 (f := .free "sum") rfl)
  set_ := He.free_ok X G (Says.fact c 70 (f := .free "set") rfl)
  repr_ := He.free_ok X G (Says.fact c 71 (f := .free "repr") rfl)
  isinstance_ := He.free_ok X G (Says.fact c 72 (f := .free "isinstance") rfl)
  str_ := He.free_ok X G (Says.fact c 73 (f := .free "str") rfl)
  bool_ := He.free_ok X G (Says.fact c 74 (f := .free "bool") rfl)
  super_ := He.free_ok X G (Says.fact c 75 (f := .free "super") rfl)
  ends := He.str_ok X G (Says.fact c 76 (f := .str "ENDS" "ends") rfl)
  endless := He.str_ok X G (Says.fact c 77 (f := .str "ENDLESS" "endless") rfl)
  nought := He.glo_ok X G (Says.fact c 3 (f := .glo "NOUGHT") rfl)
  whole := He.glo_ok X G (Says.fact c 4 (f := .glo "WHOLE") rfl)
  nought_at := fun H => He.tupB_ok (vs := [.int 0, .int 1]) (Says.test c 0 rfl) H
  whole_at := fun H => He.tupB_ok (vs := [.int 1, .int 1]) (Says.test c 1 rfl) H
theorem xtx (X : K.In h) (G : h.Ns mainGlobals mg) (c : SS.of K) : XTx K mg (He.ga K "Endless") (He.ga K "Uneven") (He.ga K "SerialError") where
  gE := He.glo_ok X G (Says.fact c 1 (f := .glo "Endless") rfl)
  gU := He.glo_ok X G (Says.fact c 2 (f := .glo "Uneven") rfl)
  gS := He.glo_ok X G (Says.fact c 0 (f := .glo "SerialError") rfl)
  xE := xfB_ok (Says.test c 2 rfl)
  xU := xfB_ok (Says.test c 3 rfl)
  nE := He.noat_ok (Says.fact c 81 (f := .noat "Endless" "paper") rfl)
  nU := He.noat_ok (Says.fact c 82 (f := .noat "Uneven" "shares") rfl)
  ee := He.exm_ok (Says.fact c 78 (f := .exm "Endless" "Endless" true) rfl)
  ue := He.exm_ok (Says.fact c 79 (f := .exm "Uneven" "Endless" false) rfl)
  uu := He.exm_ok (Says.fact c 80 (f := .exm "Uneven" "Uneven" true) rfl)
  sE := of_decide_eq_true (Says.test c 4 rfl)
  sU := of_decide_eq_true (Says.test c 5 rfl)
theorem supE (X : K.In h) (G : h.Ns mainGlobals mg) (c : SS.of K) : SupX.SupTxt lw.prog K mg "Endless" "paper" "Endless.__init__" (iSc "paper") ZE (He.ga K "Endless") (He.ga K "SerialError") (ini K "Endless") :=
  sup_ok supT_E (xtx X G c).gE (tx X G c).super_ (Says.ini c 0 rfl) (Says.test c 6 rfl)
theorem supU (X : K.In h) (G : h.Ns mainGlobals mg) (c : SS.of K) : SupX.SupTxt lw.prog K mg "Uneven" "shares" "Uneven.__init__" (iSc "shares") ZU (He.ga K "Uneven") (He.ga K "SerialError") (ini K "Uneven") :=
  sup_ok supT_U (xtx X G c).gU (tx X G c).super_ (Says.ini c 1 rfl) (Says.test c 7 rfl)
theorem facts (X : K.In h) (G : h.Ns mainGlobals mg) (c : SS.of K) : ∃ fd : FuncData, (∀ (s : Shared) (v : Value), BindsTo s fd ⟨[v], []⟩ [("_law_script", v)]) ∧ ∀ base : Heap, FnOkG lw.prog w K mg base CX0 11 (He.ga K "law") fd ["_law_script"] (spLaw K) := by
  have T := tx X G c
  have XT := xtx X G c
  have GE := supE X G c
  have GU := supU X G c
  obtain ⟨d_common_part, E_common_part⟩ := Says.def_ c 0 (d := dd "common_part" 7) rfl
  obtain ⟨d_fraction, E_fraction⟩ := Says.def_ c 1 (d := dd "fraction" 8) rfl
  obtain ⟨d_minus, E_minus⟩ := Says.def_ c 2 (d := dd "minus" 9) rfl
  obtain ⟨d_power, E_power⟩ := Says.def_ c 3 (d := dd "power" 10) rfl
  obtain ⟨d_swapped, E_swapped⟩ := Says.def_ c 4 (d := dd "swapped" 11) rfl
  obtain ⟨d_lessened, E_lessened⟩ := Says.def_ c 5 (d := dd "lessened" 12) rfl
  obtain ⟨d_solved, E_solved⟩ := Says.def_ c 6 (d := dd "solved" 13) rfl
  obtain ⟨d_opens_to, E_opens_to⟩ := Says.def_ c 7 (d := dd "opens_to" 15) rfl
  obtain ⟨d_leaves_to, E_leaves_to⟩ := Says.def_ c 8 (d := dd "leaves_to" 16) rfl
  obtain ⟨d_leaves_at, E_leaves_at⟩ := Says.def_ c 9 (d := dd "leaves_at" 17) rfl
  obtain ⟨d_open_round, E_open_round⟩ := Says.def_ c 10 (d := dd "open_round" 18) rfl
  obtain ⟨d_by_twos, E_by_twos⟩ := Says.def_ c 11 (d := dd "by_twos" 19) rfl
  obtain ⟨d_mean_of, E_mean_of⟩ := Says.def_ c 12 (d := dd "mean_of" 20) rfl
  obtain ⟨d_mean, E_mean⟩ := Says.def_ c 13 (d := dd "mean" 21) rfl
  obtain ⟨d_met_from, E_met_from⟩ := Says.def_ c 14 (d := dd "met_from" 25) rfl
  obtain ⟨d_dead_nodes, E_dead_nodes⟩ := Says.def_ c 15 (d := dd "dead_nodes" 26) rfl
  obtain ⟨d_does_end, E_does_end⟩ := Says.def_ c 16 (d := dd "does_end" 27) rfl
  obtain ⟨d_sum_of, E_sum_of⟩ := Says.def_ c 17 (d := dd "sum_of" 28) rfl
  obtain ⟨d_tree_paper, E_tree_paper⟩ := Says.def_ c 18 (d := dd "tree_paper" 29) rfl
  obtain ⟨d_told_of, E_told_of⟩ := Says.def_ c 19 (d := dd "told_of" 30) rfl
  obtain ⟨d_tree_shares, E_tree_shares⟩ := Says.def_ c 20 (d := dd "tree_shares" 31) rfl
  obtain ⟨d_tree_mean, E_tree_mean⟩ := Says.def_ c 21 (d := dd "tree_mean" 32) rfl
  obtain ⟨d_are_even, E_are_even⟩ := Says.def_ c 22 (d := dd "are_even" 33) rfl
  obtain ⟨d_is_even, E_is_even⟩ := Says.def_ c 23 (d := dd "is_even" 34) rfl
  obtain ⟨d_is_least, E_is_least⟩ := Says.def_ c 24 (d := dd "is_least" 35) rfl
  obtain ⟨d_excess, E_excess⟩ := Says.def_ c 25 (d := dd "excess" 36) rfl
  obtain ⟨d_leaves_by_depth, E_leaves_by_depth⟩ := Says.def_ c 26 (d := dd "leaves_by_depth" 37) rfl
  obtain ⟨d_unlike_depth, E_unlike_depth⟩ := Says.def_ c 27 (d := dd "unlike_depth" 38) rfl
  obtain ⟨d_place_at, E_place_at⟩ := Says.def_ c 28 (d := dd "place_at" 39) rfl
  obtain ⟨d_least_tree, E_least_tree⟩ := Says.def_ c 29 (d := dd "least_tree" 40) rfl
  obtain ⟨d__law_deck, E__law_deck⟩ := Says.def_ c 30 (d := dd "_law_deck" 42) rfl
  obtain ⟨d__law_draw, E__law_draw⟩ := Says.def_ c 31 (d := dd "_law_draw" 43) rfl
  obtain ⟨d__law_twos, E__law_twos⟩ := Says.def_ c 32 (d := dd "_law_twos" 44) rfl
  obtain ⟨d__law_ratio, E__law_ratio⟩ := Says.def_ c 33 (d := dd "_law_ratio" 45) rfl
  obtain ⟨d__law_summed, E__law_summed⟩ := Says.def_ c 34 (d := dd "_law_summed" 46) rfl
  obtain ⟨d__law_mean_by, E__law_mean_by⟩ := Says.def_ c 35 (d := dd "_law_mean_by" 47) rfl
  obtain ⟨d__law_met, E__law_met⟩ := Says.def_ c 36 (d := dd "_law_met" 48) rfl
  obtain ⟨d__law_pruned, E__law_pruned⟩ := Says.def_ c 37 (d := dd "_law_pruned" 49) rfl
  obtain ⟨d__law_any_tree, E__law_any_tree⟩ := Says.def_ c 38 (d := dd "_law_any_tree" 50) rfl
  obtain ⟨d__law_even_tree, E__law_even_tree⟩ := Says.def_ c 39 (d := dd "_law_even_tree" 51) rfl
  obtain ⟨d__law_can_draw, E__law_can_draw⟩ := Says.def_ c 40 (d := dd "_law_can_draw" 52) rfl
  obtain ⟨d__law_half, E__law_half⟩ := Says.def_ c 41 (d := dd "_law_half" 53) rfl
  obtain ⟨d__law_is_fraction, E__law_is_fraction⟩ := Says.def_ c 42 (d := dd "_law_is_fraction" 54) rfl
  obtain ⟨d__law_row_of, E__law_row_of⟩ := Says.def_ c 43 (d := dd "_law_row_of" 55) rfl
  obtain ⟨d__law_is_ends, E__law_is_ends⟩ := Says.def_ c 44 (d := dd "_law_is_ends" 56) rfl
  obtain ⟨d__law_walked, E__law_walked⟩ := Says.def_ c 45 (d := dd "_law_walked" 57) rfl
  obtain ⟨d__law_is_paper, E__law_is_paper⟩ := Says.def_ c 46 (d := dd "_law_is_paper" 58) rfl
  obtain ⟨d__law_leaves_by_depth, E__law_leaves_by_depth⟩ := Says.def_ c 47 (d := dd "_law_leaves_by_depth" 59) rfl
  obtain ⟨d__law_unlike, E__law_unlike⟩ := Says.def_ c 48 (d := dd "_law_unlike" 60) rfl
  obtain ⟨d__law_heard, E__law_heard⟩ := Says.def_ c 49 (d := dd "_law_heard" 61) rfl
  obtain ⟨d__law_right, E__law_right⟩ := Says.def_ c 50 (d := dd "_law_right" 62) rfl
  obtain ⟨d__law_least_right, E__law_least_right⟩ := Says.def_ c 51 (d := dd "_law_least_right" 63) rfl
  obtain ⟨d_law, E_law⟩ := Says.def_ c 52 (d := dd "law" 64) rfl
  have F_common_part : FnP K "common_part" sCommon (He.ga K "common_part") d_common_part := E_common_part
  have L_common_part := He.glo_ok X G (Says.fact c 5 (f := .glo "common_part") rfl)
  have B_common_part : Binds K d_common_part ["one", "other"] [] := F_common_part.bindsN fun _ _ _ _ _ _ us hl => match us, hl with | [_, _], _ => rfl
  have F_fraction : FnP K "fraction" sFraction (He.ga K "fraction") d_fraction := E_fraction
  have L_fraction := He.glo_ok X G (Says.fact c 6 (f := .glo "fraction") rfl)
  have B_fraction : Binds K d_fraction ["top", "bottom"] [] := F_fraction.bindsN fun _ _ _ _ _ _ us hl => match us, hl with | [_, _], _ => rfl
  have F_minus : FnP K "minus" sMinus (He.ga K "minus") d_minus := E_minus
  have L_minus := He.glo_ok X G (Says.fact c 7 (f := .glo "minus") rfl)
  have B_minus : Binds K d_minus ["one", "other"] [] := F_minus.bindsN fun _ _ _ _ _ _ us hl => match us, hl with | [_, _], _ => rfl
  have F_power : FnP K "power" sPower (He.ga K "power") d_power := E_power
  have L_power := He.glo_ok X G (Says.fact c 8 (f := .glo "power") rfl)
  have B_power : Binds K d_power ["base", "exponent"] [] := F_power.bindsN fun _ _ _ _ _ _ us hl => match us, hl with | [_, _], _ => rfl
  have F_swapped : FnP K "swapped" sSwapped (He.ga K "swapped") d_swapped := E_swapped
  have L_swapped := He.glo_ok X G (Says.fact c 9 (f := .glo "swapped") rfl)
  have B_swapped : Binds K d_swapped ["table", "place"] [] := F_swapped.bindsN fun _ _ _ _ _ _ us hl => match us, hl with | [_, _], _ => rfl
  have F_lessened : FnP K "lessened" sLessened (He.ga K "lessened") d_lessened := E_lessened
  have L_lessened := He.glo_ok X G (Says.fact c 10 (f := .glo "lessened") rfl)
  have B_lessened : Binds K d_lessened ["row", "head", "place", "last"] [] := F_lessened.bindsN fun _ _ _ _ _ _ us hl => match us, hl with | [_, _, _, _], _ => rfl
  have F_solved : FnP K "solved" sSolved (He.ga K "solved") d_solved := E_solved
  have L_solved := He.glo_ok X G (Says.fact c 11 (f := .glo "solved") rfl)
  have B_solved : Binds K d_solved ["table"] [] := F_solved.bindsN fun _ _ _ _ _ _ us hl => match us, hl with | [_], _ => rfl
  have F_opens_to : FnP K "opens_to" sOpensTo (He.ga K "opens_to") d_opens_to := E_opens_to
  have L_opens_to := He.glo_ok X G (Says.fact c 12 (f := .glo "opens_to") rfl)
  have B_opens_to : Binds K d_opens_to ["many", "depth"] [] := F_opens_to.bindsN fun _ _ _ _ _ _ us hl => match us, hl with | [_, _], _ => rfl
  have F_leaves_to : FnP K "leaves_to" sLeavesTo (He.ga K "leaves_to") d_leaves_to := E_leaves_to
  have L_leaves_to := He.glo_ok X G (Says.fact c 13 (f := .glo "leaves_to") rfl)
  have B_leaves_to : Binds K d_leaves_to ["many", "depth"] [] := F_leaves_to.bindsN fun _ _ _ _ _ _ us hl => match us, hl with | [_, _], _ => rfl
  have F_leaves_at : FnP K "leaves_at" sLeavesAt (He.ga K "leaves_at") d_leaves_at := E_leaves_at
  have L_leaves_at := He.glo_ok X G (Says.fact c 14 (f := .glo "leaves_at") rfl)
  have B_leaves_at : Binds K d_leaves_at ["many", "depth"] [] := F_leaves_at.bindsN fun _ _ _ _ _ _ us hl => match us, hl with | [_, _], _ => rfl
  have F_open_round : FnP K "open_round" sOpenRound (He.ga K "open_round") d_open_round := E_open_round
  have L_open_round := He.glo_ok X G (Says.fact c 15 (f := .glo "open_round") rfl)
  have B_open_round : Binds K d_open_round ["many"] [] := F_open_round.bindsN fun _ _ _ _ _ _ us hl => match us, hl with | [_], _ => rfl
  have F_by_twos : FnP K "by_twos" sByTwos (He.ga K "by_twos") d_by_twos := E_by_twos
  have L_by_twos := He.glo_ok X G (Says.fact c 16 (f := .glo "by_twos") rfl)
  have B_by_twos : Binds K d_by_twos ["numbers"] [] := F_by_twos.bindsN fun _ _ _ _ _ _ us hl => match us, hl with | [_], _ => rfl
  have F_mean_of : FnP K "mean_of" sMeanOf (He.ga K "mean_of") d_mean_of := E_mean_of
  have L_mean_of := He.glo_ok X G (Says.fact c 17 (f := .glo "mean_of") rfl)
  have B_mean_of : Binds K d_mean_of ["places", "first", "count"] [] := F_mean_of.bindsN fun _ _ _ _ _ _ us hl => match us, hl with | [_, _, _], _ => rfl
  have F_mean : FnP K "mean" sMean (He.ga K "mean") d_mean := E_mean
  have L_mean := He.glo_ok X G (Says.fact c 18 (f := .glo "mean") rfl)
  have B_mean : Binds K d_mean ["many"] [] := F_mean.bindsN fun _ _ _ _ _ _ us hl => match us, hl with | [_], _ => rfl
  have F_met_from : FnP K "met_from" sMetFrom (He.ga K "met_from") d_met_from := E_met_from
  have L_met_from := He.glo_ok X G (Says.fact c 19 (f := .glo "met_from") rfl)
  have B_met_from : Binds K d_met_from ["tree", "begin"] [] := F_met_from.bindsN fun _ _ _ _ _ _ us hl => match us, hl with | [_, _], _ => rfl
  have F_dead_nodes : FnP K "dead_nodes" sDeadNodes (He.ga K "dead_nodes") d_dead_nodes := E_dead_nodes
  have L_dead_nodes := He.glo_ok X G (Says.fact c 20 (f := .glo "dead_nodes") rfl)
  have B_dead_nodes : Binds K d_dead_nodes ["tree"] [] := F_dead_nodes.bindsN fun _ _ _ _ _ _ us hl => match us, hl with | [_], _ => rfl
  have F_does_end : FnP K "does_end" sDoesEnd (He.ga K "does_end") d_does_end := E_does_end
  have L_does_end := He.glo_ok X G (Says.fact c 21 (f := .glo "does_end") rfl)
  have B_does_end : Binds K d_does_end ["many", "tree"] [] := F_does_end.bindsN fun _ _ _ _ _ _ us hl => match us, hl with | [_, _], _ => rfl
  have F_sum_of : FnP K "sum_of" sSumOf (He.ga K "sum_of") d_sum_of := E_sum_of
  have L_sum_of := He.glo_ok X G (Says.fact c 22 (f := .glo "sum_of") rfl)
  have B_sum_of : Binds K d_sum_of ["many", "nodes", "node", "targets"] [] := F_sum_of.bindsN fun _ _ _ _ _ _ us hl => match us, hl with | [_, _, _, _], _ => rfl
  have F_tree_paper : FnP K "tree_paper" sTreePaper (He.ga K "tree_paper") d_tree_paper := E_tree_paper
  have L_tree_paper := He.glo_ok X G (Says.fact c 23 (f := .glo "tree_paper") rfl)
  have B_tree_paper : Binds K d_tree_paper ["many", "tree"] [] := F_tree_paper.bindsN fun _ _ _ _ _ _ us hl => match us, hl with | [_, _], _ => rfl
  have F_told_of : FnP K "told_of" sToldOf (He.ga K "told_of") d_told_of := E_told_of
  have L_told_of := He.glo_ok X G (Says.fact c 24 (f := .glo "told_of") rfl)
  have B_told_of : Binds K d_told_of ["many", "tree"] [] := F_told_of.bindsN fun _ _ _ _ _ _ us hl => match us, hl with | [_, _], _ => rfl
  have F_tree_shares : FnP K "tree_shares" sTreeShares (He.ga K "tree_shares") d_tree_shares := E_tree_shares
  have L_tree_shares := He.glo_ok X G (Says.fact c 25 (f := .glo "tree_shares") rfl)
  have B_tree_shares : Binds K d_tree_shares ["many", "tree"] [] := F_tree_shares.bindsN fun _ _ _ _ _ _ us hl => match us, hl with | [_, _], _ => rfl
  have F_tree_mean : FnP K "tree_mean" sTreeMean (He.ga K "tree_mean") d_tree_mean := E_tree_mean
  have L_tree_mean := He.glo_ok X G (Says.fact c 26 (f := .glo "tree_mean") rfl)
  have B_tree_mean : Binds K d_tree_mean ["many", "tree"] [] := F_tree_mean.bindsN fun _ _ _ _ _ _ us hl => match us, hl with | [_, _], _ => rfl
  have F_are_even : FnP K "are_even" sAreEven (He.ga K "are_even") d_are_even := E_are_even
  have L_are_even := He.glo_ok X G (Says.fact c 27 (f := .glo "are_even") rfl)
  have B_are_even : Binds K d_are_even ["shares"] [] := F_are_even.bindsN fun _ _ _ _ _ _ us hl => match us, hl with | [_], _ => rfl
  have F_is_even : FnP K "is_even" sIsEven (He.ga K "is_even") d_is_even := E_is_even
  have L_is_even := He.glo_ok X G (Says.fact c 28 (f := .glo "is_even") rfl)
  have B_is_even : Binds K d_is_even ["many", "tree"] [] := F_is_even.bindsN fun _ _ _ _ _ _ us hl => match us, hl with | [_, _], _ => rfl
  have F_is_least : FnP K "is_least" sIsLeast (He.ga K "is_least") d_is_least := E_is_least
  have L_is_least := He.glo_ok X G (Says.fact c 29 (f := .glo "is_least") rfl)
  have B_is_least : Binds K d_is_least ["many", "tree"] [] := F_is_least.bindsN fun _ _ _ _ _ _ us hl => match us, hl with | [_, _], _ => rfl
  have F_excess : FnP K "excess" sExcess (He.ga K "excess") d_excess := E_excess
  have L_excess := He.glo_ok X G (Says.fact c 30 (f := .glo "excess") rfl)
  have B_excess : Binds K d_excess ["many", "tree"] [] := F_excess.bindsN fun _ _ _ _ _ _ us hl => match us, hl with | [_, _], _ => rfl
  have F_leaves_by_depth : FnP K "leaves_by_depth" sLeavesByDepth (He.ga K "leaves_by_depth") d_leaves_by_depth := E_leaves_by_depth
  have L_leaves_by_depth := He.glo_ok X G (Says.fact c 31 (f := .glo "leaves_by_depth") rfl)
  have B_leaves_by_depth : Binds K d_leaves_by_depth ["many", "tree"] [] := F_leaves_by_depth.bindsN fun _ _ _ _ _ _ us hl => match us, hl with | [_, _], _ => rfl
  have F_unlike_depth : FnP K "unlike_depth" sUnlikeDepth (He.ga K "unlike_depth") d_unlike_depth := E_unlike_depth
  have L_unlike_depth := He.glo_ok X G (Says.fact c 32 (f := .glo "unlike_depth") rfl)
  have B_unlike_depth : Binds K d_unlike_depth ["many", "tree"] [] := F_unlike_depth.bindsN fun _ _ _ _ _ _ us hl => match us, hl with | [_, _], _ => rfl
  have F_place_at : FnP K "place_at" sPlaceAt (He.ga K "place_at") d_place_at := E_place_at
  have L_place_at := He.glo_ok X G (Says.fact c 33 (f := .glo "place_at") rfl)
  have B_place_at : Binds K d_place_at ["leaves", "depth", "place", "offsets", "ends"] [] := F_place_at.bindsN fun _ _ _ _ _ _ us hl => match us, hl with | [_, _, _, _, _], _ => rfl
  have F_least_tree : FnP K "least_tree" sLeastTree (He.ga K "least_tree") d_least_tree := E_least_tree
  have L_least_tree := He.glo_ok X G (Says.fact c 34 (f := .glo "least_tree") rfl)
  have B_least_tree : Binds K d_least_tree ["many"] [] := F_least_tree.bindsN fun _ _ _ _ _ _ us hl => match us, hl with | [_], _ => rfl
  have F__law_deck : FnP K "_law_deck" sLDeck (He.ga K "_law_deck") d__law_deck := E__law_deck
  have L__law_deck := He.glo_ok X G (Says.fact c 35 (f := .glo "_law_deck") rfl)
  have B__law_deck : Binds K d__law_deck ["_law_script"] [] := F__law_deck.bindsN fun _ _ _ _ _ _ us hl => match us, hl with | [_], _ => rfl
  have F__law_draw : FnP K "_law_draw" sLDraw (He.ga K "_law_draw") d__law_draw := E__law_draw
  have L__law_draw := He.glo_ok X G (Says.fact c 36 (f := .glo "_law_draw") rfl)
  have B__law_draw : Binds K d__law_draw ["_law_deck_here", "_law_much"] [] := F__law_draw.bindsN fun _ _ _ _ _ _ us hl => match us, hl with | [_, _], _ => rfl
  have F__law_twos : FnP K "_law_twos" sLTwos (He.ga K "_law_twos") d__law_twos := E__law_twos
  have L__law_twos := He.glo_ok X G (Says.fact c 37 (f := .glo "_law_twos") rfl)
  have B__law_twos : Binds K d__law_twos ["_law_much"] [] := F__law_twos.bindsN fun _ _ _ _ _ _ us hl => match us, hl with | [_], _ => rfl
  have F__law_ratio : FnP K "_law_ratio" sLRatio (He.ga K "_law_ratio") d__law_ratio := E__law_ratio
  have L__law_ratio := He.glo_ok X G (Says.fact c 38 (f := .glo "_law_ratio") rfl)
  have B__law_ratio : Binds K d__law_ratio ["_law_top", "_law_bottom"] [] := F__law_ratio.bindsN fun _ _ _ _ _ _ us hl => match us, hl with | [_, _], _ => rfl
  have F__law_summed : FnP K "_law_summed" sLSummed (He.ga K "_law_summed") d__law_summed := E__law_summed
  have L__law_summed := He.glo_ok X G (Says.fact c 39 (f := .glo "_law_summed") rfl)
  have B__law_summed : Binds K d__law_summed ["_law_opens"] [] := F__law_summed.bindsN fun _ _ _ _ _ _ us hl => match us, hl with | [_], _ => rfl
  have F__law_mean_by : FnP K "_law_mean_by" sLMeanBy (He.ga K "_law_mean_by") d__law_mean_by := E__law_mean_by
  have L__law_mean_by := He.glo_ok X G (Says.fact c 40 (f := .glo "_law_mean_by") rfl)
  have B__law_mean_by : Binds K d__law_mean_by ["_law_loads"] [] := F__law_mean_by.bindsN fun _ _ _ _ _ _ us hl => match us, hl with | [_], _ => rfl
  have F__law_met : FnP K "_law_met" sLMet (He.ga K "_law_met") d__law_met := E__law_met
  have L__law_met := He.glo_ok X G (Says.fact c 41 (f := .glo "_law_met") rfl)
  have B__law_met : Binds K d__law_met ["_law_nodes"] [] := F__law_met.bindsN fun _ _ _ _ _ _ us hl => match us, hl with | [_], _ => rfl
  have F__law_pruned : FnP K "_law_pruned" sLPruned (He.ga K "_law_pruned") d__law_pruned := E__law_pruned
  have L__law_pruned := He.glo_ok X G (Says.fact c 42 (f := .glo "_law_pruned") rfl)
  have B__law_pruned : Binds K d__law_pruned ["_law_nodes"] [] := F__law_pruned.bindsN fun _ _ _ _ _ _ us hl => match us, hl with | [_], _ => rfl
  have F__law_any_tree : FnP K "_law_any_tree" sLAnyTree (He.ga K "_law_any_tree") d__law_any_tree := E__law_any_tree
  have L__law_any_tree := He.glo_ok X G (Says.fact c 43 (f := .glo "_law_any_tree") rfl)
  have B__law_any_tree : Binds K d__law_any_tree ["_law_deck_here", "_law_much"] [] := F__law_any_tree.bindsN fun _ _ _ _ _ _ us hl => match us, hl with | [_, _], _ => rfl
  have F__law_even_tree : FnP K "_law_even_tree" sLEvenTree (He.ga K "_law_even_tree") d__law_even_tree := E__law_even_tree
  have L__law_even_tree := He.glo_ok X G (Says.fact c 44 (f := .glo "_law_even_tree") rfl)
  have B__law_even_tree : Binds K d__law_even_tree ["_law_deck_here", "_law_much"] [] := F__law_even_tree.bindsN fun _ _ _ _ _ _ us hl => match us, hl with | [_, _], _ => rfl
  have F__law_can_draw : FnP K "_law_can_draw" sLCanDraw (He.ga K "_law_can_draw") d__law_can_draw := E__law_can_draw
  have L__law_can_draw := He.glo_ok X G (Says.fact c 45 (f := .glo "_law_can_draw") rfl)
  have B__law_can_draw : Binds K d__law_can_draw ["_law_nodes"] [] := F__law_can_draw.bindsN fun _ _ _ _ _ _ us hl => match us, hl with | [_], _ => rfl
  have F__law_half : FnP K "_law_half" sLHalf (He.ga K "_law_half") d__law_half := E__law_half
  have L__law_half := He.glo_ok X G (Says.fact c 46 (f := .glo "_law_half") rfl)
  have B__law_half : Binds K d__law_half ["_law_x", "_law_y"] [] := F__law_half.bindsN fun _ _ _ _ _ _ us hl => match us, hl with | [_, _], _ => rfl
  have F__law_is_fraction : FnP K "_law_is_fraction" sLIsFraction (He.ga K "_law_is_fraction") d__law_is_fraction := E__law_is_fraction
  have L__law_is_fraction := He.glo_ok X G (Says.fact c 47 (f := .glo "_law_is_fraction") rfl)
  have B__law_is_fraction : Binds K d__law_is_fraction ["_law_it"] [] := F__law_is_fraction.bindsN fun _ _ _ _ _ _ us hl => match us, hl with | [_], _ => rfl
  have F__law_row_of : FnP K "_law_row_of" sLRowOf (He.ga K "_law_row_of") d__law_row_of := E__law_row_of
  have L__law_row_of := He.glo_ok X G (Says.fact c 48 (f := .glo "_law_row_of") rfl)
  have B__law_row_of : Binds K d__law_row_of ["_law_much", "_law_rows", "_law_it"] [] := F__law_row_of.bindsN fun _ _ _ _ _ _ us hl => match us, hl with | [_, _, _], _ => rfl
  have F__law_is_ends : FnP K "_law_is_ends" sLIsEnds (He.ga K "_law_is_ends") d__law_is_ends := E__law_is_ends
  have L__law_is_ends := He.glo_ok X G (Says.fact c 49 (f := .glo "_law_is_ends") rfl)
  have B__law_is_ends : Binds K d__law_is_ends ["_law_much", "_law_nodes", "_law_rows", "_law_means"] [] := F__law_is_ends.bindsN fun _ _ _ _ _ _ us hl => match us, hl with | [_, _, _, _], _ => rfl
  have F__law_walked : FnP K "_law_walked" sLWalked (He.ga K "_law_walked") d__law_walked := E__law_walked
  have L__law_walked := He.glo_ok X G (Says.fact c 50 (f := .glo "_law_walked") rfl)
  have B__law_walked : Binds K d__law_walked ["_law_nodes", "_law_flips"] [] := F__law_walked.bindsN fun _ _ _ _ _ _ us hl => match us, hl with | [_, _], _ => rfl
  have F__law_is_paper : FnP K "_law_is_paper" sLIsPaper (He.ga K "_law_is_paper") d__law_is_paper := E__law_is_paper
  have L__law_is_paper := He.glo_ok X G (Says.fact c 51 (f := .glo "_law_is_paper") rfl)
  have B__law_is_paper : Binds K d__law_is_paper ["_law_much", "_law_nodes", "_law_it"] [] := F__law_is_paper.bindsN fun _ _ _ _ _ _ us hl => match us, hl with | [_, _, _], _ => rfl
  have F__law_leaves_by_depth : FnP K "_law_leaves_by_depth" sLLeaves (He.ga K "_law_leaves_by_depth") d__law_leaves_by_depth := E__law_leaves_by_depth
  have L__law_leaves_by_depth := He.glo_ok X G (Says.fact c 52 (f := .glo "_law_leaves_by_depth") rfl)
  have B__law_leaves_by_depth : Binds K d__law_leaves_by_depth ["_law_much", "_law_nodes", "_law_limit"] [] := F__law_leaves_by_depth.bindsN fun _ _ _ _ _ _ us hl => match us, hl with | [_, _, _], _ => rfl
  have F__law_unlike : FnP K "_law_unlike" sLUnlike (He.ga K "_law_unlike") d__law_unlike := E__law_unlike
  have L__law_unlike := He.glo_ok X G (Says.fact c 53 (f := .glo "_law_unlike") rfl)
  have B__law_unlike : Binds K d__law_unlike ["_law_much", "_law_nodes", "_law_limit"] [] := F__law_unlike.bindsN fun _ _ _ _ _ _ us hl => match us, hl with | [_, _, _], _ => rfl
  have F__law_heard : FnP K "_law_heard" sLHeard (He.ga K "_law_heard") d__law_heard := E__law_heard
  have L__law_heard := He.glo_ok X G (Says.fact c 54 (f := .glo "_law_heard") rfl)
  have B__law_heard : Binds K d__law_heard ["_law_much", "_law_nodes", "_law_which"] [] := F__law_heard.bindsN fun _ _ _ _ _ _ us hl => match us, hl with | [_, _, _], _ => rfl
  have F__law_right : FnP K "_law_right" sLRight (He.ga K "_law_right") d__law_right := E__law_right
  have L__law_right := He.glo_ok X G (Says.fact c 55 (f := .glo "_law_right") rfl)
  have B__law_right : Binds K d__law_right ["_law_much", "_law_nodes"] [] := F__law_right.bindsN fun _ _ _ _ _ _ us hl => match us, hl with | [_, _], _ => rfl
  have F__law_least_right : FnP K "_law_least_right" sLLeastRight (He.ga K "_law_least_right") d__law_least_right := E__law_least_right
  have L__law_least_right := He.glo_ok X G (Says.fact c 56 (f := .glo "_law_least_right") rfl)
  have B__law_least_right : Binds K d__law_least_right ["_law_much"] [] := F__law_least_right.bindsN fun _ _ _ _ _ _ us hl => match us, hl with | [_], _ => rfl
  have F_law : FnP K "law" sLaw (He.ga K "law") d_law := E_law
  have K_excess : KBinds K d_excess ["many", "tree"] ["tree", "many"] sw2 sw2 := kb_of F_excess fun _ _ _ _ _ _ _ _ => rfl
  have K_unlike_depth : KBinds K d_unlike_depth ["many", "tree"] ["tree", "many"] sw2 sw2 := kb_of F_unlike_depth fun _ _ _ _ _ _ _ _ => rfl
  have K_is_even : KBinds K d_is_even ["many", "tree"] ["tree", "many"] sw2 sw2 := kb_of F_is_even fun _ _ _ _ _ _ _ _ => rfl
  have K_is_least : KBinds K d_is_least ["many", "tree"] ["tree", "many"] sw2 sw2 := kb_of F_is_least fun _ _ _ _ _ _ _ _ => rfl
  have K_least_tree : KBinds K d_least_tree ["many"] ["many"] sw1 sw1 := kb1_of F_least_tree fun _ _ _ _ _ _ _ => rfl
  have G_leaves_by_depth : GDef K mg "leaves_by_depth" NLeavesByDepth ["many", "tree"] (defScope sLeavesByDepth) (defBody sLeavesByDepth) (He.ga K "leaves_by_depth") d_leaves_by_depth := ⟨⟨_, F_leaves_by_depth⟩, scLeavesByDepth, by decide +kernel, L_leaves_by_depth, F_leaves_by_depth.kp, B_leaves_by_depth⟩
  refine ⟨d_law, fun s v => FunD.bindsA (ps := ["_law_script"]) F_law (fun _ _ _ _ _ _ us hl => match us, hl with | [_], _ => rfl) s [v] rfl, fun base => ?_⟩
  have G__law_deck : Def lw.prog w K mg base CX0 "_law_deck" 1 ["_law_script"] (spLDeck K) (He.ga K "_law_deck") d__law_deck := ⟨ok_l_deck F__law_deck T, L__law_deck, F__law_deck.kp, B__law_deck⟩
  have G__law_draw : Def lw.prog w K mg base CX0 "_law_draw" 1 ["_law_deck_here", "_law_much"] spLDraw (He.ga K "_law_draw") d__law_draw := ⟨ok_l_draw F__law_draw T, L__law_draw, F__law_draw.kp, B__law_draw⟩
  have G__law_met : Def lw.prog w K mg base CX0 "_law_met" 1 ["_law_nodes"] (spLMet K) (He.ga K "_law_met") d__law_met := ⟨ok_l_met F__law_met T, L__law_met, F__law_met.kp, B__law_met⟩
  have G__law_pruned : Def lw.prog w K mg base CX0 "_law_pruned" 2 ["_law_nodes"] (spLPruned K) (He.ga K "_law_pruned") d__law_pruned := ⟨ok_l_pruned F__law_pruned T G__law_met, L__law_pruned, F__law_pruned.kp, B__law_pruned⟩
  have G__law_any_tree : Def lw.prog w K mg base CX0 "_law_any_tree" 3 ["_law_deck_here", "_law_much"] (spLAny K) (He.ga K "_law_any_tree") d__law_any_tree := ⟨ok_l_any F__law_any_tree T G__law_draw G__law_pruned, L__law_any_tree, F__law_any_tree.kp, B__law_any_tree⟩
  have G__law_even_tree : Def lw.prog w K mg base CX0 "_law_even_tree" 2 ["_law_deck_here", "_law_much"] (spLEven K) (He.ga K "_law_even_tree") d__law_even_tree := ⟨ok_l_even F__law_even_tree T G__law_draw, L__law_even_tree, F__law_even_tree.kp, B__law_even_tree⟩
  have G__law_can_draw : Def lw.prog w K mg base CX0 "_law_can_draw" 1 ["_law_nodes"] (spLCan K) (He.ga K "_law_can_draw") d__law_can_draw := ⟨ok_l_can F__law_can_draw T, L__law_can_draw, F__law_can_draw.kp, B__law_can_draw⟩
  have G_met_from : Def lw.prog w K mg base CX0 "met_from" 1 ["tree", "begin"] (spMetFrom K) (He.ga K "met_from") d_met_from := ⟨ok_met F_met_from T, L_met_from, F_met_from.kp, B_met_from⟩
  have G_dead_nodes : Def lw.prog w K mg base CX0 "dead_nodes" 2 ["tree"] (spDead K) (He.ga K "dead_nodes") d_dead_nodes := ⟨ok_dead F_dead_nodes T G_met_from, L_dead_nodes, F_dead_nodes.kp, B_dead_nodes⟩
  have G_swapped : Def lw.prog w K mg base CX0 "swapped" 1 ["table", "place"] (spSwapped K) (He.ga K "swapped") d_swapped := ⟨ok_swapped F_swapped T, L_swapped, F_swapped.kp, B_swapped⟩
  have G_lessened : Def lw.prog w K mg base CX0 "lessened" 1 ["row", "head", "place", "last"] (spLessened K) (He.ga K "lessened") d_lessened := ⟨ok_lessened F_lessened T, L_lessened, F_lessened.kp, B_lessened⟩
  have G_common_part : Def lw.prog w K mg base CX0 "common_part" 1 ["one", "other"] spCommon (He.ga K "common_part") d_common_part := ⟨ok_common F_common_part T, L_common_part, F_common_part.kp, B_common_part⟩
  have G_fraction : Def lw.prog w K mg base CX0 "fraction" 2 ["top", "bottom"] (spFraction K) (He.ga K "fraction") d_fraction := ⟨ok_fraction F_fraction T G_common_part, L_fraction, F_fraction.kp, B_fraction⟩
  have G_solved : Def lw.prog w K mg base CX0 "solved" 3 ["table"] (spSolved K) (He.ga K "solved") d_solved := ⟨ok_solved F_solved T G_swapped G_lessened G_fraction, L_solved, F_solved.kp, B_solved⟩
  have G_sum_of : Def lw.prog w K mg base CX0 "sum_of" 1 ["many", "nodes", "node", "targets"] (spSumOf K) (He.ga K "sum_of") d_sum_of := ⟨ok_sum_of F_sum_of, L_sum_of, F_sum_of.kp, B_sum_of⟩
  have G_tree_paper : Def lw.prog w K mg base CX0 "tree_paper" 4 ["many", "tree"] (spTreePaper K) (He.ga K "tree_paper") d_tree_paper := ⟨ok_tree_paper F_tree_paper T G_dead_nodes G_met_from G_solved G_sum_of, L_tree_paper, F_tree_paper.kp, B_tree_paper⟩
  have G__law_ratio : Def lw.prog w K mg base CX0 "_law_ratio" 1 ["_law_top", "_law_bottom"] (spLRatio K) (He.ga K "_law_ratio") d__law_ratio := ⟨ok_l_ratio F__law_ratio T, L__law_ratio, F__law_ratio.kp, B__law_ratio⟩
  have G__law_is_fraction : Def lw.prog w K mg base CX0 "_law_is_fraction" 2 ["_law_it"] (spLIsFraction K) (He.ga K "_law_is_fraction") d__law_is_fraction := ⟨ok_l_is_fraction F__law_is_fraction T G__law_ratio, L__law_is_fraction, F__law_is_fraction.kp, B__law_is_fraction⟩
  have G__law_row_of : Def lw.prog w K mg base CX0 "_law_row_of" 1 ["_law_much", "_law_rows", "_law_it"] (spLRowOf K) (He.ga K "_law_row_of") d__law_row_of := ⟨ok_l_row_of F__law_row_of T, L__law_row_of, F__law_row_of.kp, B__law_row_of⟩
  have G__law_half : Def lw.prog w K mg base CX0 "_law_half" 2 ["_law_x", "_law_y"] (spLHalf K) (He.ga K "_law_half") d__law_half := ⟨ok_l_half F__law_half T G__law_ratio, L__law_half, F__law_half.kp, B__law_half⟩
  have G__law_is_ends : Def lw.prog w K mg base CX0 "_law_is_ends" 3 ["_law_much", "_law_nodes", "_law_rows", "_law_means"] (spLIsEnds K) (He.ga K "_law_is_ends") d__law_is_ends := ⟨ok_l_is_ends F__law_is_ends T G__law_is_fraction G__law_row_of G__law_half G__law_ratio, L__law_is_ends, F__law_is_ends.kp, B__law_is_ends⟩
  have G__law_walked : Def lw.prog w K mg base CX0 "_law_walked" 1 ["_law_nodes", "_law_flips"] (spLWalked K) (He.ga K "_law_walked") d__law_walked := ⟨ok_l_walked F__law_walked T, L__law_walked, F__law_walked.kp, B__law_walked⟩
  have G__law_is_paper : Def lw.prog w K mg base CX0 "_law_is_paper" 4 ["_law_much", "_law_nodes", "_law_it"] (spLIsPaper K) (He.ga K "_law_is_paper") d__law_is_paper := ⟨ok_l_is_paper F__law_is_paper T G__law_is_ends G__law_walked G__law_can_draw, L__law_is_paper, F__law_is_paper.kp, B__law_is_paper⟩
  have G__law_summed : Def lw.prog w K mg base CX0 "_law_summed" 1 ["_law_opens"] (spLSummed K) (He.ga K "_law_summed") d__law_summed := ⟨ok_l_summed F__law_summed T, L__law_summed, F__law_summed.kp, B__law_summed⟩
  have G__law_twos : Def lw.prog w K mg base CX0 "_law_twos" 1 ["_law_much"] spLTwos (He.ga K "_law_twos") d__law_twos := ⟨ok_l_twos F__law_twos T, L__law_twos, F__law_twos.kp, B__law_twos⟩
  have G__law_mean_by : Def lw.prog w K mg base CX0 "_law_mean_by" 2 ["_law_loads"] (spLMeanBy K) (He.ga K "_law_mean_by") d__law_mean_by := ⟨ok_l_mean_by F__law_mean_by T G__law_summed G__law_twos G__law_ratio, L__law_mean_by, F__law_mean_by.kp, B__law_mean_by⟩
  have G_does_end : Def lw.prog w K mg base CX0 "does_end" 3 ["many", "tree"] (spDoesEnd K) (He.ga K "does_end") d_does_end := ⟨ok_does_end F_does_end G_dead_nodes, L_does_end, F_does_end.kp, B_does_end⟩
  have G_are_even : Def lw.prog w K mg base CX0 "are_even" 1 ["shares"] (spAreEven K) (He.ga K "are_even") d_are_even := ⟨ok_are_even F_are_even T, L_are_even, F_are_even.kp, B_are_even⟩
  have G_told_of : Def lw.prog w K mg base (L2.CX lw.prog w) "told_of" 5 ["many", "tree"] (spToldOf K (He.ga K "Endless")) (He.ga K "told_of") d_told_of := ⟨ok_told F_told_of T G_tree_paper GE, L_told_of, F_told_of.kp, B_told_of⟩
  have G_tree_shares : Def lw.prog w K mg base CX0 "tree_shares" 6 ["many", "tree"] (spTreeShares K) (He.ga K "tree_shares") d_tree_shares := ⟨ok_tree_shares F_tree_shares G_told_of, L_tree_shares, F_tree_shares.kp, B_tree_shares⟩
  have G_is_even : Def lw.prog w K mg base CX0 "is_even" 7 ["many", "tree"] (spIsEven K) (He.ga K "is_even") d_is_even := ⟨ok_is_even F_is_even G_does_end G_are_even G_tree_shares, L_is_even, F_is_even.kp, B_is_even⟩
  have G_tree_mean : Def lw.prog w K mg base CX0 "tree_mean" 6 ["many", "tree"] (spTreeMean K) (He.ga K "tree_mean") d_tree_mean := ⟨ok_tree_mean F_tree_mean G_told_of, L_tree_mean, F_tree_mean.kp, B_tree_mean⟩
  have G_open_round : Def lw.prog w K mg base CX0 "open_round" 1 ["many"] (spRound K) (He.ga K "open_round") d_open_round := ⟨ok_round F_open_round T, L_open_round, F_open_round.kp, B_open_round⟩
  have G_by_twos : Def lw.prog w K mg base CX0 "by_twos" 1 ["numbers"] (spTwos K) (He.ga K "by_twos") d_by_twos := ⟨ok_twos F_by_twos, L_by_twos, F_by_twos.kp, B_by_twos⟩
  have G_power : Def lw.prog w K mg base CX0 "power" 1 ["base", "exponent"] spPower (He.ga K "power") d_power := ⟨ok_power F_power T, L_power, F_power.kp, B_power⟩
  have G_mean_of : Def lw.prog w K mg base CX0 "mean_of" 3 ["places", "first", "count"] (spMeanOf K) (He.ga K "mean_of") d_mean_of := ⟨ok_mean_of F_mean_of G_by_twos G_power G_fraction, L_mean_of, F_mean_of.kp, B_mean_of⟩
  have G_opens_to : Def lw.prog w K mg base CX0 "opens_to" 1 ["many", "depth"] spOpens (He.ga K "opens_to") d_opens_to := ⟨ok_opens F_opens_to T, L_opens_to, F_opens_to.kp, B_opens_to⟩
  have G_mean : Def lw.prog w K mg base CX0 "mean" 4 ["many"] (spMean K) (He.ga K "mean") d_mean := ⟨ok_mean F_mean G_open_round G_mean_of G_opens_to, L_mean, F_mean.kp, B_mean⟩
  have G_is_least : Def lw.prog w K mg base CX0 "is_least" 8 ["many", "tree"] (spIsLeast K) (He.ga K "is_least") d_is_least := ⟨ok_is_least F_is_least G_is_even G_tree_mean G_mean, L_is_least, F_is_least.kp, B_is_least⟩
  have G_minus : Def lw.prog w K mg base CX0 "minus" 3 ["one", "other"] (spMinus K) (He.ga K "minus") d_minus := ⟨ok_minus F_minus T G_fraction, L_minus, F_minus.kp, B_minus⟩
  have G_excess : Def lw.prog w K mg base (L2.CX lw.prog w) "excess" 6 ["many", "tree"] (spExcess K (He.ga K "Endless") (He.ga K "Uneven")) (He.ga K "excess") d_excess := ⟨ok_excess F_excess T G_told_of G_are_even G_minus G_mean GU, L_excess, F_excess.kp, B_excess⟩
  have G_leaves_to : Def lw.prog w K mg base CX0 "leaves_to" 2 ["many", "depth"] spLeaves (He.ga K "leaves_to") d_leaves_to := ⟨ok_leaves F_leaves_to T G_opens_to, L_leaves_to, F_leaves_to.kp, B_leaves_to⟩
  have G_leaves_at : Def lw.prog w K mg base CX0 "leaves_at" 3 ["many", "depth"] spLeavesAt (He.ga K "leaves_at") d_leaves_at := ⟨ok_leaves_at F_leaves_at G_leaves_to, L_leaves_at, F_leaves_at.kp, B_leaves_at⟩
  have G_unlike_depth : Def lw.prog w K mg base (L2.CX lw.prog w) "unlike_depth" 8 ["many", "tree"] (spUnlike K (He.ga K "Endless") (He.ga K "Uneven")) (He.ga K "unlike_depth") d_unlike_depth := ⟨ok_unlike_depth F_unlike_depth T G_excess G_leaves_at G_leaves_by_depth, L_unlike_depth, F_unlike_depth.kp, B_unlike_depth⟩
  have G__law_heard : Def lw.prog w K mg base CX0 "_law_heard" 9 ["_law_much", "_law_nodes", "_law_which"] (spLHeard K) (He.ga K "_law_heard") d__law_heard := ⟨ok_l_heard F__law_heard T XT G_excess G_unlike_depth K_excess K_unlike_depth, L__law_heard, F__law_heard.kp, B__law_heard⟩
  have G__law_leaves_by_depth : Def lw.prog w K mg base CX0 "_law_leaves_by_depth" 1 ["_law_much", "_law_nodes", "_law_limit"] (spLLeaves K) (He.ga K "_law_leaves_by_depth") d__law_leaves_by_depth := ⟨ok_l_leaves F__law_leaves_by_depth T, L__law_leaves_by_depth, F__law_leaves_by_depth.kp, B__law_leaves_by_depth⟩
  have G__law_unlike : Def lw.prog w K mg base CX0 "_law_unlike" 2 ["_law_much", "_law_nodes", "_law_limit"] (spLUnlike K) (He.ga K "_law_unlike") d__law_unlike := ⟨ok_l_unlike F__law_unlike T G__law_leaves_by_depth, L__law_unlike, F__law_unlike.kp, B__law_unlike⟩
  have G__law_right : DefG lw.prog w K mg base CX0 "_law_right" 10 ["_law_much", "_law_nodes"] (spLRight K) (He.ga K "_law_right") d__law_right := ⟨ok_l_right F__law_right T G__law_can_draw G_tree_paper G__law_is_paper G__law_mean_by G_is_even K_is_even G_is_least K_is_least G__law_heard G__law_ratio G__law_unlike, L__law_right, F__law_right.kp, B__law_right⟩
  have G_place_at : Def lw.prog w K mg base CX0 "place_at" 1 ["leaves", "depth", "place", "offsets", "ends"] (spPlaceAt K) (He.ga K "place_at") d_place_at := ⟨ok_place_at F_place_at T, L_place_at, F_place_at.kp, B_place_at⟩
  have G_least_tree : Def lw.prog w K mg base CX0 "least_tree" 3 ["many"] (spLeastTree K) (He.ga K "least_tree") d_least_tree := ⟨ok_least_tree F_least_tree T G_open_round G_opens_to G_leaves_to G_place_at, L_least_tree, F_least_tree.kp, B_least_tree⟩
  have G__law_least_right : Def lw.prog w K mg base CX0 "_law_least_right" 9 ["_law_much"] (spLLeast K) (He.ga K "_law_least_right") d__law_least_right := ⟨ok_l_least F__law_least_right T G_least_tree K_least_tree G_is_least G_excess G_unlike_depth G__law_met G__law_unlike G_tree_mean G__law_mean_by, L__law_least_right, F__law_least_right.kp, B__law_least_right⟩
  exact ok_law (P := lw.prog) (w := w) (base := base) F_law T G__law_deck G__law_draw G__law_any_tree G__law_even_tree G__law_right G__law_least_right G_is_even G_is_least G_excess G_unlike_depth
end
abbrev lawGlo : Nat := 57
end Ser
end
section
set_option maxRecDepth 100000
set_option maxHeartbeats 4000000
namespace Ser
open PySem PySem.Spec PyProof.Rows L2
/-! ### the law's end, where its def knows of the guards -/
theorem hid_ns {H : Hp} {g : Heap} (hd : ∀ b o, g.get? b = some o → (∃ es ep, o.data = .dict es ep) → H b = none) {b : Addr} {m : Str → Option Value} (h : g.Ns b m) : (hidT g H).Ns b m := by
  obtain ⟨o, es, ep, e, d, r⟩ := h
  exact ⟨o, es, ep, hidT_get e (hd b o e ⟨es, ep, d⟩), d, r⟩
/-- an abstract heap that knows of the script alone -/
theorem script_hp {P : Program} {w : World} {K : PySem.W.Frag} {g : Heap} {a : Addr} {vs : List Value} {ns : List Int} (KX : K.In g) (ha : g.get? a = some { cls := .type "list", data := .seq vs.toArray }) (hi : IntsAre vs ns) (hl : ns.length ≤ sizeLine) :
    ∃ H : Hp, Only H ∧ SqL K H a (ns.map V.int) ∧ HOk P w H g ∧ (∀ b, H b ≠ none → b = a) ∧ (H a ≠ none → K.lookup a = none) := by
  have rv := vals_ints hi
  cases hk : K.lookup a with
  | some o =>
    cases (KX a o hk).symm.trans ha
    have lv := hi.length
    exact ⟨fun _ => none, fun _ => .inl rfl, .inr ⟨_, vs.toArray, _, hk, rfl, rfl, rfl, (by rw [List.size_toArray, lv]; exact hl), (by simpa using rv)⟩, fun b u z => (nomatch (show (none : Option HO) = some u from z)), fun b z => absurd rfl z, fun z => absurd rfl z⟩
  | none =>
    obtain ⟨u, hu⟩ : ∃ u : HO, u = .frz { cls := .type "list", data := .seq vs.toArray } (.lst (ns.map V.int)) := ⟨_, rfl⟩
    have yes : (if a = a then some u else none) = some u := if_pos rfl
    refine ⟨fun b => if b = a then some u else none, fun b => ?_, .inl (.inr ⟨{ cls := .type "list", data := .seq vs.toArray }, yes.trans (congrArg some hu)⟩), fun b v z => ?_, fun b z => Classical.byContradiction fun hb => z (if_neg hb), fun _ => rfl⟩
    · by_cases hb : b = a
      · exact .inr ⟨_, _, (if_pos hb).trans (congrArg some hu)⟩
      · exact .inl (if_neg hb)
    · by_cases hb : b = a
      · cases ((if_pos hb).symm.trans z)
        subst hb hu
        exact ⟨ha, (by rw [List.length_map]; exact hl), vs, _, rv, ha⟩
      · cases ((if_neg hb).symm.trans z)
theorem callG {P : Program} {w : World} {K : PySem.W.Frag} {mg mb : Str → Option Value} {k : Nat} {fa a : Addr} {fd : FuncData} {x : Str} {sp : Sp} {s : Shared} {vs : List Value} {ns : List Int} (KX : K.In s.heap) (hns : s.heap.Ns mainGlobals mg) (hb : s.heap.Ns builtinsNs mb)
    (hbb : ∀ x : Str, x ≠ "__name__" → mb x = bootBuiltins x) (hlim : s.heap.NoLimit) (hg : s.gens = #[]) (ha : s.heap.get? a = some { cls := .type "list", data := .seq vs.toArray }) (hi : IntsAre vs ns) (hl : ns.length ≤ sizeLine) (hr : Room k callerA) (hq : callerA.guards = some [])
    (F : ∀ base : Heap, FnOkG P w K mg base CX0 k fa fd [x] sp) (bind : ∀ (s : Shared) (u : Value), BindsTo s fd ⟨[u], []⟩ [(x, u)]) (hsp : ∀ H : Hp, SqL K H a (ns.map V.int) → sp [.ref a] H (fun v _ => v = .bl true) fun _ _ _ => False) :
    codeAny (model P w) callerA (.call (.ref fa) ⟨[.ref a], []⟩) (fun r s' => r = .ok (.ret (.bool true)) ∧ OldK s.heap s'.heap ∧ s'.os = s.os ∧ AllBare s'.gens) s := by
  obtain ⟨H, hO, hS, hok, hA, hK⟩ := script_hp (P := P) (w := w) KX ha hi hl
  have nd : ∀ b o, s.heap.get? b = some o → (∃ es ep, o.data = .dict es ep) → H b = none := fun b o e ⟨es, ep, d⟩ => Classical.byContradiction fun z => by
    rw [hA b z, ha] at e
    cases e
    cases (show Data.seq vs.toArray _ = Data.dict es ep from d)
  have kin : K.In (hidT s.heap H) := fun b o e => hidT_get (KX b o e) (Classical.byContradiction fun z => by
    have eb := hA b z
    subst eb
    rw [hK z] at e
    cases e)
  obtain ⟨mc, l1, l2⟩ := hlim
  have mod : Mod K mg (hidT s.heap H) := ⟨kin, hid_ns nd hns, ⟨mb, hid_ns nd hb, hbb⟩, ⟨mc, hid_ns nd l1, l2⟩⟩
  have none_ : ∀ b : Addr, b ∉ ([] : List Addr) := fun b z => nomatch z
  have e0 : Env0 P w K mg (hidT s.heap H) callerA [] s H := ⟨rfl, mod, fun b o e => of_hidT e, Nat.le_of_eq (hidT_size _ _), trivial, fun b z => absurd z (none_ b), hok, .of_eq hg⟩
  refine codeAny_mono ((F (hidT s.heap H)).run callerA [] s H ⟨[.ref a], []⟩ [.ref a] [.ref a] _ _ hq hr e0 (bind s (.ref a)) (.cons rfl .nil) (hsp H hS)) fun r s' h => ?_
  match r, h with
  | .ok (.ret u), h =>
    obtain ⟨v, H', os, bare, un, hok2, rv, q⟩ := h
    cases (show v = .bl true from q)
    cases (show u = Value.bool true from rv)
    refine ⟨rfl, OldK.of_keep fun b o e => ?_, os, bare⟩
    cases q : H b with
    | none => exact un.keep b o e q (fun z => absurd (show b ∈ ([] : List Addr) from z) (none_ b)) (none_ b)
    | some u2 =>
      rcases hO b with z | ⟨ob, xs, z⟩
      · cases q.symm.trans z
      · have z2 := un.frzs b ob _ z
        have e1 := (hok b _ z).1
        have e2 := (hok2 b _ z2).1
        cases e.symm.trans e1
        exact e2
end Ser
end
set_option maxRecDepth 100000
set_option maxHeartbeats 0
open PySem PySem.W PySem.Calls PyProof.Rows
theorem PySem.Challenge.cw_serialhouse_k46_whole_even_and_least_tre_holds : PySem.Challenge.rw_serialhouse_k46_whole_even_and_least_tre.Holds := by
  w_on; o_law
  refine HandSHeadRun.head_any (r := Ser.Rw) (q := view Ser.Rw.prog [64]) (H := Ser.SS.hook) (ob := Ser.obR) (M := 3000) (loose := Ser.nmL) (d := HandSHeadRun.topDef Ser.Rw.prog 64) (kwd := []) Ser.obR_eq
    (by kernel_rfl) (fun s => by kernel_rfl) Ser.run (by kernel_rfl) (by kernel_rfl) (by kernel_rfl) (by rfl) (by first | assumption | decide +kernel) (by decide +kernel) ⟨rfl, rfl, rfl, rfl, rfl, by decide +kernel⟩ ?hw ?hc
  case hw => w_witness2
  case hc =>
    refine Att.attach_call (l := Ser.lw) (n := 63) rfl (by kernel_rfl) fun w s₀ s₁ mg mb fa o pm cd doc a vs ns G Y ho hd hcd hmg0 hobj hints hlen hg => ?_
    obtain ⟨K, KX, c⟩ := Y
    have hmg : mg ("law" : PySem.Str) = some (.ref fa) := by
      have e : (HandSHeadRun.topDef Ser.Rw.prog 64).name = ("law" : PySem.Str) := by kernel_rfl
      rw [← e]
      exact hmg0
    obtain ⟨fd, hb, hF⟩ := Ser.facts (w := w) KX G.T.g c
    have ef := hmg.symm.trans (He.glo_ok KX G.T.g (Ser.Says.fact c Ser.lawGlo (f := .glo "law") rfl))
    cases ef
    exact Ser.callG KX G.T.g G.T.b G.T.builtins G.T.nolimit hg hobj hints (Nat.le_trans hlen (by decide)) ⟨rfl, by decide, by decide⟩ rfl hF hb fun H hS => ⟨a, ns, rfl, hS, hlen, fun _ => rfl⟩
