import PyProof.Rows.All
import Wide.All
import OpenK.AllK
import Wide.FinOn
import HandS.ForMost
import HandS.Walk
import HandS.IsInst
import HandS.SortInts
import HandS.Conv
import HandS.Style
import HandS.More
import HandS.Wide
import HandS.Evl
import HandS.Codes
import HandS.EndBits
import HandS.TryOnly
import HandS.Exc
import PySem.Challenge.RW_ringswap_k04_answers_by_hand
import KE.KDictZip
import KE.SortKeyHeap
import HandS.Lambda
import HandS.MapObj
import HandS.EndTab
import HandS.ExcOwn
namespace RS
set_option autoImplicit false
/-! ## sums over 0 .. n-1 -/
def S : Nat → (Nat → Int) → Int
  | 0, _ => 0
  | n + 1, h => S n h + h n
theorem S_congr {n : Nat} {f g : Nat → Int} (h : ∀ i, i < n → f i = g i) : S n f = S n g := by
  induction n with
  | zero => rfl
  | succ n ih =>
    show S n f + f n = S n g + g n
    rw [ih fun i hi => h i (Nat.lt_succ_of_lt hi), h n (Nat.lt_succ_self n)]
theorem S_le {n : Nat} {f g : Nat → Int} (h : ∀ i, i < n → f i ≤ g i) : S n f ≤ S n g := by
  induction n with
  | zero => exact Int.le_refl _
  | succ n ih =>
    show S n f + f n ≤ S n g + g n
    have := ih fun i hi => h i (Nat.lt_succ_of_lt hi)
    have := h n (Nat.lt_succ_self n)
    omega
theorem S_add (n : Nat) (f g : Nat → Int) : S n (fun i => f i + g i) = S n f + S n g := by
  induction n with
  | zero => rfl
  | succ n ih =>
    show S n _ + (f n + g n) = (S n f + f n) + (S n g + g n)
    rw [ih]; omega
theorem S_sub (n : Nat) (f g : Nat → Int) : S n (fun i => f i - g i) = S n f - S n g := by
  induction n with
  | zero => rfl
  | succ n ih =>
    show S n _ + (f n - g n) = (S n f + f n) - (S n g + g n)
    rw [ih]; omega
theorem S_zero (n : Nat) : S n (fun _ => 0) = 0 := by
  induction n with
  | zero => rfl
  | succ n ih =>
    show S n _ + _ = _
    rw [ih]; rfl
theorem S_mul (n : Nat) (k : Int) (f : Nat → Int) : S n (fun i => k * f i) = k * S n f := by
  induction n with
  | zero => show (0 : Int) = k * 0; omega
  | succ n ih =>
    show S n _ + _ = k * (S n f + f n)
    rw [ih, Int.mul_add]
theorem S_const (n : Nat) (k : Int) : S n (fun _ => k) = (n : Int) * k := by
  induction n with
  | zero => show (0 : Int) = ((0 : Nat) : Int) * k; simp
  | succ n ih =>
    show S n _ + k = _
    rw [ih, Int.natCast_succ, Int.add_mul]; omega
theorem S_nonneg {n : Nat} {f : Nat → Int} (h : ∀ i, i < n → 0 ≤ f i) : 0 ≤ S n f := by
  have := S_le (n := n) (f := fun _ => 0) (g := f) h
  rw [S_zero] at this; exact this
/-- one place changed -/
def up (h : Nat → Int) (a : Nat) (v : Int) : Nat → Int := fun i => if i = a then v else h i
theorem up_same (h : Nat → Int) (a : Nat) (v : Int) : up h a v a = v := by unfold up; rw [if_pos rfl]
theorem up_ne (h : Nat → Int) {a i : Nat} (v : Int) (e : i ≠ a) : up h a v i = h i := by unfold up; rw [if_neg e]
theorem S_up {n : Nat} (h : Nat → Int) {a : Nat} (v : Int) (ha : a < n) : S n (up h a v) = S n h + v - h a := by
  induction n with
  | zero => omega
  | succ n ih =>
    show S n _ + up h a v n = (S n h + h n) + v - h a
    by_cases e : a = n
    · subst e
      rw [up_same, S_congr (f := up h a v) (g := h) fun i hi => up_ne h v (by omega)]
      omega
    · rw [ih (by omega), up_ne h v (by omega)]; omega
/-- all but one, all but two -/
def ex1 (a : Nat) (h : Nat → Int) : Nat → Int := fun i => if i = a then 0 else h i
def ex2 (a b : Nat) (h : Nat → Int) : Nat → Int := fun i => if i = a ∨ i = b then 0 else h i
theorem S_ex1 {n : Nat} (h : Nat → Int) {a : Nat} (ha : a < n) : S n h = S n (ex1 a h) + h a := by
  have := S_up h 0 ha
  have e : S n (up h a 0) = S n (ex1 a h) := S_congr fun i _ => rfl
  omega
theorem S_ex2 {n : Nat} (h : Nat → Int) {a b : Nat} (ha : a < n) (hb : b < n) (ne : a ≠ b) : S n h = S n (ex2 a b h) + h a + h b := by
  have e1 := S_ex1 h ha
  have e2 := S_ex1 (ex1 a h) hb
  have e3 : S n (ex1 b (ex1 a h)) = S n (ex2 a b h) := S_congr fun i _ => by
    unfold ex1 ex2
    by_cases e : i = b
    · rw [if_pos e, if_pos (.inr e)]
    · rw [if_neg e]
      by_cases e' : i = a
      · rw [if_pos e', if_pos (.inl e')]
      · rw [if_neg e', if_neg (by omega)]
  have e4 : ex1 a h b = h b := by unfold ex1; rw [if_neg (Ne.symm ne)]
  omega
theorem S_swap (n m : Nat) (h : Nat → Nat → Int) : S n (fun i => S m (fun j => h i j)) = S m (fun j => S n (fun i => h i j)) := by
  induction n with
  | zero =>
    show (0 : Int) = S m fun _ => 0
    rw [S_zero]
  | succ n ih =>
    show S n (fun i => S m fun j => h i j) + S m (fun j => h n j) = S m fun j => S n (fun i => h i j) + h n j
    rw [ih, S_add]
/-- the transposition of a and b -/
def tr (a b i : Nat) : Nat := if i = a then b else if i = b then a else i
theorem S_tr {n : Nat} (h : Nat → Int) {a b : Nat} (ha : a < n) (hb : b < n) : S n (fun i => h (tr a b i)) = S n h := by
  by_cases ne : a = b
  · subst ne
    refine S_congr fun i _ => ?_
    unfold tr
    by_cases e : i = a
    · rw [if_pos e, e]
    · rw [if_neg e, if_neg e]
  · rw [S_ex2 (fun i => h (tr a b i)) ha hb ne, S_ex2 h ha hb ne]
    have e1 : tr a b a = b := by unfold tr; rw [if_pos rfl]
    have e2 : tr a b b = a := by unfold tr; rw [if_neg (Ne.symm ne), if_pos rfl]
    have e3 : S n (ex2 a b fun i => h (tr a b i)) = S n (ex2 a b h) := S_congr fun i _ => by
      unfold ex2
      by_cases e : i = a ∨ i = b
      · rw [if_pos e, if_pos e]
      · rw [if_neg e, if_neg e]
        show h (tr a b i) = h i
        unfold tr
        rw [if_neg (by omega), if_neg (by omega)]
    rw [e3, e1, e2]; omega
theorem tr_lt {n a b i : Nat} (ha : a < n) (hb : b < n) (hi : i < n) : tr a b i < n := by
  unfold tr; split
  · exact hb
  · split
    · exact ha
    · exact hi
/-- an injection of 0 .. n-1 into itself reorders a sum -/
theorem S_ind_eq {n : Nat} (h : Nat → Int) {a : Nat} (ha : a < n) : S n (fun j => if a = j then h j else 0) = h a := by
  rw [S_ex1 _ ha, if_pos rfl]
  have : S n (ex1 a fun j => if a = j then h j else 0) = 0 := by
    refine (S_congr (g := fun _ => 0) fun i _ => ?_).trans (S_zero n)
    unfold ex1
    by_cases e : i = a
    · rw [if_pos e]
    · rw [if_neg e]
      exact if_neg (Ne.symm e)
  omega
theorem S_most_one {n : Nat} {p : Nat → Prop} [DecidablePred p] (h : ∀ i j, i < n → j < n → p i → p j → i = j) : S n (fun i => if p i then 1 else 0) ≤ 1 := by
  induction n with
  | zero => exact (by decide : (0 : Int) ≤ 1)
  | succ n ih =>
    show S n _ + (if p n then 1 else 0) ≤ _
    by_cases e : p n
    · rw [if_pos e]
      have : S n (fun i => if p i then 1 else 0) = 0 := by
        refine (S_congr (g := fun _ => 0) fun i hi => ?_).trans (S_zero n)
        rw [if_neg]
        intro q
        have := h i n (by omega) (by omega) q e
        omega
      omega
    · rw [if_neg e]
      have := ih fun i j hi hj => h i j (by omega) (by omega)
      omega
theorem S_tight {n : Nat} {f g : Nat → Int} (h : ∀ i, i < n → f i ≤ g i) (e : S n g ≤ S n f) : ∀ i, i < n → f i = g i := by
  intro i hi
  have h1 := S_ex1 f hi
  have h2 := S_ex1 g hi
  have h3 : S n (ex1 i f) ≤ S n (ex1 i g) := S_le fun j hj => by
    unfold ex1
    by_cases e : j = i
    · rw [if_pos e, if_pos e]; exact Int.le_refl _
    · rw [if_neg e, if_neg e]; exact h j hj
  have := h i hi
  omega
theorem S_perm {n : Nat} (σ : Nat → Nat) (hσ : ∀ i, i < n → σ i < n) (inj : ∀ i j, i < n → j < n → σ i = σ j → i = j) (h : Nat → Int) : S n (fun i => h (σ i)) = S n h := by
  have e1 : S n (fun i => h (σ i)) = S n fun i => S n fun j => if σ i = j then h j else 0 := S_congr fun i hi => (S_ind_eq h (hσ i hi)).symm
  have one : ∀ j, j < n → S n (fun i => if σ i = j then 1 else 0) = 1 := by
    refine S_tight (f := fun j => S n fun i => if σ i = j then 1 else 0) (g := fun _ => 1) (fun j _ => ?_) ?_
    · exact S_most_one fun i k hi hk e e' => inj i k hi hk (e.trans e'.symm)
    · rw [S_swap n n fun j i => if σ i = j then 1 else 0]
      refine Int.le_of_eq (S_congr fun i hi => ?_)
      exact (S_ind_eq (fun _ => 1) (hσ i hi)).symm
  rw [e1, S_swap n n fun i j => if σ i = j then h j else 0]
  refine S_congr fun j hj => ?_
  have : S n (fun i => if σ i = j then h j else 0) = S n fun i => h j * (if σ i = j then 1 else 0) := S_congr fun i _ => by
    by_cases e : σ i = j
    · rw [if_pos e, if_pos e]; omega
    · rw [if_neg e, if_neg e]; omega
  rw [this, S_mul, one j hj]; omega
/-- .. and hits every place -/
theorem perm_hits {n : Nat} (σ : Nat → Nat) (hσ : ∀ i, i < n → σ i < n) (inj : ∀ i j, i < n → j < n → σ i = σ j → i = j) {j : Nat} (hj : j < n) : ∃ i, i < n ∧ σ i = j := by
  apply Classical.byContradiction
  intro no
  have h1 := S_perm σ hσ inj (fun i => if i = j then 1 else 0)
  have h2 : S n (fun i => if σ i = j then 1 else 0) = 0 := by
    refine (S_congr (g := fun _ => 0) fun i hi => ?_).trans (S_zero n)
    rw [if_neg]
    exact fun e => no ⟨i, hi, e⟩
  have h3 := S_ex1 (fun i => if i = j then (1 : Int) else 0) hj
  rw [if_pos rfl] at h3
  have h4 : 0 ≤ S n (ex1 j fun i => if i = j then (1 : Int) else 0) := S_nonneg fun i _ => by
    unfold ex1
    dsimp only
    by_cases e : i = j
    · rw [if_pos e]; exact Int.le_refl _
    · rw [if_neg e, if_neg e]; exact Int.le_refl _
  have h1' : S n (fun i => if σ i = j then 1 else 0) = S n (fun i => if i = j then 1 else 0) := h1
  rw [h2] at h1'
  omega
theorem S_pos_of {n : Nat} {f : Nat → Int} (h0 : ∀ i, i < n → 0 ≤ f i) {a : Nat} (ha : a < n) : f a ≤ S n f := by
  have h1 := S_ex1 f ha
  have h2 : 0 ≤ S n (ex1 a f) := S_nonneg fun i hi => by
    unfold ex1
    by_cases e : i = a
    · rw [if_pos e]; exact Int.le_refl _
    · rw [if_neg e]; exact h0 i hi
  omega

/-! ## crossing systems: X a b, how often a passes b -/
abbrev nab (x : Int) : Int := (x.natAbs : Int)
/-- X is antisymmetric; of three, X a c + X c b is X a b less eP and more eF, each 0 or 1 -/
structure Sys (n : Nat) (eP eF : Nat → Nat → Nat → Int) (X : Nat → Nat → Int) : Prop where
  anti : ∀ a b, a < n → b < n → X b a = - X a b
  three : ∀ a c b, a < n → c < n → b < n → a ≠ b → c ≠ a → c ≠ b → X a c + X c b = X a b - eP a c b + eF a c b
structure Eps (n : Nat) (e : Nat → Nat → Nat → Int) : Prop where
  lo : ∀ a c b, 0 ≤ e a c b
  hi : ∀ a c b, e a c b ≤ 1
/-- the sum of all |X|, each pair twice -/
def NN (n : Nat) (X : Nat → Nat → Int) : Int := S n fun i => S n fun j => nab (X i j)
def vv (n : Nat) (X : Nat → Nat → Int) (a : Nat) : Int := S n fun c => X a c
/-- a's way is made one round shorter, b's one longer -/
def shiftX (a b : Nat) (X : Nat → Nat → Int) : Nat → Nat → Int := fun i j =>
  X i j - (if i = a then 1 else 0) + (if i = b then 1 else 0) + (if j = a then 1 else 0) - (if j = b then 1 else 0)
theorem Sys.self {n : Nat} {eP eF : Nat → Nat → Nat → Int} {X : Nat → Nat → Int} (s : Sys n eP eF X) {a : Nat} (ha : a < n) : X a a = 0 := by
  have := s.anti a a ha ha
  omega
theorem Sys.shift {n : Nat} {eP eF : Nat → Nat → Nat → Int} {X : Nat → Nat → Int} (s : Sys n eP eF X) (a b : Nat) : Sys n eP eF (shiftX a b X) := by
  refine ⟨fun i j hi hj => ?_, fun i c j hi hc hj h1 h2 h3 => ?_⟩
  · have := s.anti i j hi hj
    unfold shiftX
    omega
  · have := s.three i c j hi hc hj h1 h2 h3
    unfold shiftX
    omega
theorem NN_shift {n : Nat} {eP eF : Nat → Nat → Nat → Int} {X : Nat → Nat → Int} (s : Sys n eP eF X) {a b : Nat} (ha : a < n) (hb : b < n) (ne : a ≠ b) :
    NN n (shiftX a b X) = NN n X + 2 * (S n (ex2 a b fun c => (nab (X a c - 1) - nab (X a c)) + (nab (X c b - 1) - nab (X c b))) + (nab (X a b - 2) - nab (X a b))) := by
  have diff : NN n (shiftX a b X) - NN n X = S n fun i => S n fun j => nab (shiftX a b X i j) - nab (X i j) := by
    unfold NN
    rw [← S_sub]
    exact S_congr fun i _ => (S_sub n _ _).symm
  -- the rows a, b, and another
  have row : ∀ i, i < n → i ≠ a → i ≠ b → (S n fun j => nab (shiftX a b X i j) - nab (X i j)) = (nab (X a i - 1) - nab (X a i)) + (nab (X i b - 1) - nab (X i b)) := by
    intro i hi h1 h2
    rw [S_ex2 _ ha hb ne]
    have e0 : S n (ex2 a b fun j => nab (shiftX a b X i j) - nab (X i j)) = 0 := by
      refine (S_congr (g := fun _ => 0) fun j _ => ?_).trans (S_zero n)
      unfold ex2 shiftX
      by_cases e : j = a ∨ j = b
      · rw [if_pos e]
      · rw [if_neg e, if_neg h1, if_neg h2]
        dsimp only
        rw [if_neg (by omega), if_neg (by omega)]
        have : X i j - 0 + 0 + 0 - 0 = X i j := by omega
        rw [this]; omega
    have h3 := s.anti i a hi ha
    have e1 : shiftX a b X i a = X i a + 1 := by
      unfold shiftX
      rw [if_neg h1, if_neg h2, if_pos rfl, if_neg ne]; omega
    have e2 : shiftX a b X i b = X i b - 1 := by
      unfold shiftX
      rw [if_neg h1, if_neg h2, if_pos rfl, if_neg (Ne.symm ne)]; omega
    rw [e0, e1, e2]
    unfold nab
    omega
  have self1 := s.self ha
  have self2 := s.self hb
  have ab := s.anti a b ha hb
  have rowa : (S n fun j => nab (shiftX a b X a j) - nab (X a j)) = S n (ex2 a b fun c => nab (X a c - 1) - nab (X a c)) + (nab (X a b - 2) - nab (X a b)) := by
    rw [S_ex2 _ ha hb ne]
    have e0 : S n (ex2 a b fun j => nab (shiftX a b X a j) - nab (X a j)) = S n (ex2 a b fun c => nab (X a c - 1) - nab (X a c)) := S_congr fun j _ => by
      unfold ex2
      by_cases e : j = a ∨ j = b
      · rw [if_pos e, if_pos e]
      · rw [if_neg e, if_neg e]
        dsimp only
        have : shiftX a b X a j = X a j - 1 := by
          unfold shiftX
          rw [if_pos rfl, if_neg ne, if_neg (by omega), if_neg (by omega)]
          omega
        rw [this]
    have e1 : shiftX a b X a a = X a a := by
      unfold shiftX
      rw [if_pos rfl, if_neg ne]; omega
    have e2 : shiftX a b X a b = X a b - 2 := by
      unfold shiftX
      rw [if_pos rfl, if_neg ne, if_pos rfl, if_neg (Ne.symm ne)]; omega
    rw [e0, e1, e2]
    unfold nab
    omega
  have rowb : (S n fun j => nab (shiftX a b X b j) - nab (X b j)) = S n (ex2 a b fun c => nab (X c b - 1) - nab (X c b)) + (nab (X a b - 2) - nab (X a b)) := by
    rw [S_ex2 _ ha hb ne]
    have e0 : S n (ex2 a b fun j => nab (shiftX a b X b j) - nab (X b j)) = S n (ex2 a b fun c => nab (X c b - 1) - nab (X c b)) := S_congr fun j hj => by
      unfold ex2
      by_cases e : j = a ∨ j = b
      · rw [if_pos e, if_pos e]
      · rw [if_neg e, if_neg e]
        have h3 := s.anti b j hb hj
        have : shiftX a b X b j = X b j + 1 := by
          unfold shiftX
          rw [if_neg (Ne.symm ne), if_pos rfl, if_neg (by omega), if_neg (by omega)]; omega
        dsimp only
        rw [this]; unfold nab; omega
    have e1 : shiftX a b X b b = X b b := by
      unfold shiftX
      rw [if_pos rfl, if_neg (Ne.symm ne)]; omega
    have e2 : shiftX a b X b a = X b a + 2 := by
      unfold shiftX
      rw [if_pos rfl, if_neg ne, if_pos rfl, if_neg (Ne.symm ne)]; omega
    rw [e0, e1, e2]
    unfold nab
    omega
  have tot : (S n fun i => S n fun j => nab (shiftX a b X i j) - nab (X i j)) = _ := S_ex2 _ ha hb ne
  have e0 : S n (ex2 a b fun i => S n fun j => nab (shiftX a b X i j) - nab (X i j)) = S n (ex2 a b fun c => (nab (X a c - 1) - nab (X a c)) + (nab (X c b - 1) - nab (X c b))) := S_congr fun i hi => by
    unfold ex2
    by_cases e : i = a ∨ i = b
    · rw [if_pos e, if_pos e]
    · rw [if_neg e, if_neg e]
      exact row i hi (by omega) (by omega)
  have e1 : S n (ex2 a b fun c => (nab (X a c - 1) - nab (X a c)) + (nab (X c b - 1) - nab (X c b))) = S n (ex2 a b fun c => nab (X a c - 1) - nab (X a c)) + S n (ex2 a b fun c => nab (X c b - 1) - nab (X c b)) := by
    rw [← S_add]
    refine S_congr fun i _ => ?_
    unfold ex2
    by_cases e : i = a ∨ i = b
    · rw [if_pos e, if_pos e, if_pos e]; rfl
    · rw [if_neg e, if_neg e, if_neg e]
  rw [e0, rowa, rowb] at tot
  omega

theorem NN_congr {n : Nat} {X Y : Nat → Nat → Int} (h : ∀ i j, i < n → j < n → X i j = Y i j) : NN n X = NN n Y :=
  S_congr fun i hi => S_congr fun j hj => by rw [h i j hi hj]
theorem NN_nonneg (n : Nat) (X : Nat → Nat → Int) : 0 ≤ NN n X := S_nonneg fun i _ => S_nonneg fun j _ => by unfold nab; omega
theorem vv_congr {n : Nat} {X Y : Nat → Nat → Int} (h : ∀ i j, i < n → j < n → X i j = Y i j) {a : Nat} (ha : a < n) : vv n X a = vv n Y a := S_congr fun j hj => h a j ha hj
/-- ways lengthened by z rounds -/
def zX (z : Nat → Int) (X : Nat → Nat → Int) : Nat → Nat → Int := fun i j => X i j + z i - z j
/-- the rounds of shiftX a b -/
def zab (a b : Nat) : Nat → Int := fun i => (if i = b then 1 else 0) - (if i = a then 1 else 0)
theorem shift_z (a b : Nat) (X : Nat → Nat → Int) : shiftX a b X = zX (zab a b) X := by
  funext i j
  unfold shiftX zX zab
  omega
theorem vv_z (n : Nat) (z : Nat → Int) (X : Nat → Nat → Int) (a : Nat) : vv n (zX z X) a = vv n X a + (n : Int) * z a - S n z := by
  show S n (fun c => X a c + z a - z c) = S n (fun c => X a c) + (n : Int) * z a - S n z
  rw [S_sub n (fun c => X a c + z a) z, S_add n (fun c => X a c) fun _ => z a, S_const]
theorem S_zab {n : Nat} {a b : Nat} (ha : a < n) (hb : b < n) : S n (zab a b) = 0 := by
  have e1 : S n (fun i => if i = b then (1 : Int) else 0) = 1 := by
    have := S_ind_eq (fun _ => 1) hb
    refine Eq.trans (S_congr fun i _ => ?_) this
    by_cases e : i = b
    · rw [if_pos e, if_pos e.symm]
    · rw [if_neg e, if_neg (Ne.symm e)]
  have e2 : S n (fun i => if i = a then (1 : Int) else 0) = 1 := by
    have := S_ind_eq (fun _ => 1) ha
    refine Eq.trans (S_congr fun i _ => ?_) this
    by_cases e : i = a
    · rw [if_pos e, if_pos e.symm]
    · rw [if_neg e, if_neg (Ne.symm e)]
  show S n (fun i => (if i = b then 1 else 0) - (if i = a then 1 else 0)) = 0
  rw [S_sub, e1, e2]; rfl
theorem vv_shift {n : Nat} (X : Nat → Nat → Int) {a b : Nat} (ha : a < n) (hb : b < n) (c : Nat) : vv n (shiftX a b X) c = vv n X c + (n : Int) * zab a b c := by
  rw [shift_z, vv_z, S_zab ha hb]; omega
theorem S_ex2_const {n : Nat} {a b : Nat} (ha : a < n) (hb : b < n) (ne : a ≠ b) (k : Int) : S n (ex2 a b fun _ => k) = (n : Int) * k - 2 * k := by
  have := S_ex2 (fun _ => k) ha hb ne
  rw [S_const] at this
  omega
section
variable {n : Nat} {eP eF : Nat → Nat → Nat → Int} {X : Nat → Nat → Int}
/-- how many (beside a, b) have e = 1 -/
def EE (n : Nat) (e : Nat → Nat → Nat → Int) (a b : Nat) : Int := S n (ex2 a b fun c => e a c b)
theorem EE_bounds {e : Nat → Nat → Nat → Int} (E : Eps n e) {a b : Nat} (ha : a < n) (hb : b < n) (ne : a ≠ b) : 0 ≤ EE n e a b ∧ EE n e a b ≤ (n : Int) - 2 := by
  constructor
  · refine S_nonneg fun c _ => ?_
    unfold ex2
    split
    · exact Int.le_refl _
    · exact E.lo a c b
  · have h1 := S_ex2_const ha hb ne 1
    have h2 : EE n e a b ≤ S n (ex2 a b fun _ => 1) := S_le fun c _ => by
      unfold ex2
      split
      · exact Int.le_refl _
      · exact E.hi a c b
    omega
theorem cocycle (s : Sys n eP eF X) {a b : Nat} (ha : a < n) (hb : b < n) (ne : a ≠ b) : vv n X a - vv n X b = (n : Int) * X a b - EE n eP a b + EE n eF a b := by
  have h1 : vv n X a - vv n X b = S n fun c => X a c - X b c := (S_sub n _ _).symm
  have h2 := S_ex2 (fun c => X a c - X b c) ha hb ne
  have h3 : S n (ex2 a b fun c => X a c - X b c) = S n (ex2 a b fun _ => X a b) - EE n eP a b + EE n eF a b := by
    unfold EE
    rw [← S_sub, ← S_add]
    refine S_congr fun c hc => ?_
    unfold ex2
    by_cases e : c = a ∨ c = b
    · rw [if_pos e, if_pos e, if_pos e, if_pos e]; rfl
    · rw [if_neg e, if_neg e, if_neg e, if_neg e]
      have := s.three a c b ha hc hb ne (by omega) (by omega)
      have := s.anti c b hc hb
      dsimp only
      omega
  have h4 := S_ex2_const ha hb ne (X a b)
  have h5 := s.self ha
  have h6 := s.self hb
  have h7 := s.anti a b ha hb
  omega
/-- a over b twice: a round less for a, a round more for b lowers the passes -/
theorem shift_two (s : Sys n eP eF X) (EP : Eps n eP) (EF : Eps n eF) {a b : Nat} (ha : a < n) (hb : b < n) (ne : a ≠ b) (h : 2 ≤ X a b) : NN n (shiftX a b X) ≤ NN n X - 4 := by
  have h1 := NN_shift s ha hb ne
  have h2 : S n (ex2 a b fun c => (nab (X a c - 1) - nab (X a c)) + (nab (X c b - 1) - nab (X c b))) ≤ S n fun _ => 0 := S_le fun c hc => by
    unfold ex2
    by_cases e : c = a ∨ c = b
    · rw [if_pos e]; exact Int.le_refl _
    · rw [if_neg e]
      have := s.three a c b ha hc hb ne (by omega) (by omega)
      have := EP.hi a c b
      have := EF.lo a c b
      unfold nab
      dsimp only
      omega
  rw [S_zero] at h2
  have h3 : nab (X a b - 2) - nab (X a b) = -2 := by unfold nab; omega
  omega
/-- no two pass more than once, v a - v b at least n -/
theorem shift_one (s : Sys n eP eF X) (one : ∀ i j, i < n → j < n → X i j ≤ 1) {a b : Nat} (ha : a < n) (hb : b < n) (ne : a ≠ b) (hx : X a b = 1) : NN n (shiftX a b X) ≤ NN n X + 4 * ((n : Int) - (vv n X a - vv n X b)) := by
  have h1 := NN_shift s ha hb ne
  have h2 : S n (ex2 a b fun c => (nab (X a c - 1) - nab (X a c)) + (nab (X c b - 1) - nab (X c b))) ≤ 2 * EE n eP a b - 2 * EE n eF a b := by
    unfold EE
    rw [← S_mul, ← S_mul, ← S_sub]
    refine S_le fun c hc => ?_
    unfold ex2
    by_cases e : c = a ∨ c = b
    · rw [if_pos e, if_pos e, if_pos e]; exact Int.le_refl _
    · rw [if_neg e, if_neg e, if_neg e]
      have h4 := s.three a c b ha hc hb ne (by omega) (by omega)
      have h5 := one a c ha hc
      have h6 := one c b hc hb
      have h7 := s.anti a c ha hc
      have h8 := s.anti c b hc hb
      have h9 := one c a hc ha
      have h10 := one b c hb hc
      unfold nab
      dsimp only
      omega
  have h3 := cocycle s ha hb ne
  rw [hx] at h3
  have h4 : nab (X a b - 2) - nab (X a b) = 0 := by rw [hx]; rfl
  omega
/-- no way is greater than another by more than there are places -/
def Nrm (n : Nat) (X : Nat → Nat → Int) : Prop := ∀ a b, a < n → b < n → vv n X a - vv n X b ≤ (n : Int)
theorem Nrm.one (N : Nrm n X) (s : Sys n eP eF X) (EP : Eps n eP) (EF : Eps n eF) {a b : Nat} (ha : a < n) (hb : b < n) : X a b ≤ 1 := by
  by_cases ne : a = b
  · subst ne
    have := s.self ha
    omega
  · have h1 := cocycle s ha hb ne
    have h2 := EE_bounds EP ha hb ne
    have h3 := EE_bounds EF ha hb ne
    have h4 := N a b ha hb
    apply Classical.byContradiction
    intro h
    have h5 : (n : Int) * 2 ≤ (n : Int) * X a b := Int.mul_le_mul_of_nonneg_left (by omega) (by omega)
    omega
/-- v a - v b > n - (n - 2): a passes b -/
theorem pass_pos (s : Sys n eP eF X) (EP : Eps n eP) (EF : Eps n eF) {a b : Nat} (ha : a < n) (hb : b < n) (ne : a ≠ b) (h : (n : Int) - 1 ≤ vv n X a - vv n X b) : 1 ≤ X a b := by
  have h1 := cocycle s ha hb ne
  have h2 := EE_bounds EP ha hb ne
  have h3 := EE_bounds EF ha hb ne
  apply Classical.byContradiction
  intro q
  have h5 : (n : Int) * X a b ≤ (n : Int) * 0 := Int.mul_le_mul_of_nonneg_left (by omega) (by omega)
  omega
/-- what is not normal can be lowered -/
theorem lower (s : Sys n eP eF X) (EP : Eps n eP) (EF : Eps n eF) (no : ¬ Nrm n X) : ∃ a b, a < n ∧ b < n ∧ a ≠ b ∧ NN n (shiftX a b X) < NN n X := by
  by_cases h : ∃ i j, i < n ∧ j < n ∧ 2 ≤ X i j
  · obtain ⟨i, j, hi, hj, h2⟩ := h
    have ne : i ≠ j := by
      intro e
      subst e
      have := s.self hi
      omega
    have := shift_two s EP EF hi hj ne h2
    exact ⟨i, j, hi, hj, ne, by omega⟩
  · have one : ∀ i j, i < n → j < n → X i j ≤ 1 := fun i j hi hj => by
      apply Classical.byContradiction
      intro q
      exact h ⟨i, j, hi, hj, by omega⟩
    have : ∃ a b, a < n ∧ b < n ∧ (n : Int) < vv n X a - vv n X b := by
      apply Classical.byContradiction
      intro q
      apply no
      intro a b ha hb
      apply Classical.byContradiction
      intro q2
      exact q ⟨a, b, ha, hb, by omega⟩
    obtain ⟨a, b, ha, hb, hv⟩ := this
    have ne : a ≠ b := by
      intro e
      subst e
      omega
    have h1 := pass_pos s EP EF ha hb ne (by omega)
    have h2 := one a b ha hb
    have := shift_one s one ha hb ne (by omega)
    exact ⟨a, b, ha, hb, ne, by omega⟩
theorem zX_zX (z y : Nat → Int) (X : Nat → Nat → Int) : zX y (zX z X) = zX (fun i => z i + y i) X := by
  funext i j
  unfold zX
  dsimp only
  omega
theorem Sys.z (s : Sys n eP eF X) (z : Nat → Int) : Sys n eP eF (zX z X) := by
  refine ⟨fun i j hi hj => ?_, fun i c j hi hc hj h1 h2 h3 => ?_⟩
  · have := s.anti i j hi hj
    unfold zX
    omega
  · have := s.three i c j hi hc hj h1 h2 h3
    unfold zX
    omega
/-- any ways can be made normal, with no more passes -/
theorem normal_of (s : Sys n eP eF X) (EP : Eps n eP) (EF : Eps n eF) : ∃ z, S n z = 0 ∧ Nrm n (zX z X) ∧ NN n (zX z X) ≤ NN n X := by
  have main : ∀ (k : Nat) (X : Nat → Nat → Int), Sys n eP eF X → (NN n X).toNat ≤ k → ∃ z, S n z = 0 ∧ Nrm n (zX z X) ∧ NN n (zX z X) ≤ NN n X := by
    intro k
    induction k with
    | zero =>
      intro X s hk
      by_cases h : Nrm n X
      · have e : zX (fun _ => 0) X = X := by funext i j; unfold zX; dsimp only; omega
        exact ⟨fun _ => 0, S_zero n, by rw [e]; exact h, by rw [e]; exact Int.le_refl _⟩
      · obtain ⟨a, b, _, _, _, hl⟩ := lower s EP EF h
        have := NN_nonneg n (shiftX a b X)
        omega
    | succ k ih =>
      intro X s hk
      by_cases h : Nrm n X
      · have e : zX (fun _ => 0) X = X := by funext i j; unfold zX; dsimp only; omega
        exact ⟨fun _ => 0, S_zero n, by rw [e]; exact h, by rw [e]; exact Int.le_refl _⟩
      · obtain ⟨a, b, ha, hb, _, hl⟩ := lower s EP EF h
        have := NN_nonneg n (shiftX a b X)
        obtain ⟨z, z0, zn, zl⟩ := ih (shiftX a b X) (s.shift a b) (by omega)
        rw [shift_z, zX_zX] at zn zl
        refine ⟨_, ?_, zn, ?_⟩
        · rw [S_add, S_zab ha hb, z0]; rfl
        · rw [shift_z] at hl
          omega
  exact main _ X s (Nat.le_refl _)
/-- two normal ways of one row have as many passes -/
theorem normal_same (EP : Eps n eP) (EF : Eps n eF) : ∀ (k : Nat) (X : Nat → Nat → Int) (z : Nat → Int), Sys n eP eF X → Nrm n X → Nrm n (zX z X) → S n z = 0 → (S n fun i => nab (z i)).toNat ≤ k → NN n X ≤ NN n (zX z X) := by
  intro k
  have base : ∀ (X : Nat → Nat → Int) (z : Nat → Int), (∀ i, i < n → z i = 0) → NN n X ≤ NN n (zX z X) := by
    intro X z h
    refine Int.le_of_eq (NN_congr fun i j hi hj => ?_)
    unfold zX
    rw [h i hi, h j hj]; omega
  have nn : ∀ z : Nat → Int, ∀ i, i < n → 0 ≤ nab (z i) := fun z i _ => by unfold nab; omega
  induction k with
  | zero =>
    intro X z s N N' z0 hk
    refine base X z fun i hi => ?_
    have h1 := S_pos_of (nn z) hi
    have : nab (z i) ≤ 0 := by omega
    unfold nab at this
    omega
  | succ k ih =>
    intro X z s N N' z0 hk
    by_cases all : ∀ i, i < n → z i = 0
    · exact base X z all
    · -- one that goes more rounds, one that goes fewer
      have up : ∃ a, a < n ∧ 1 ≤ z a := by
        apply Classical.byContradiction
        intro q
        have le : ∀ i, i < n → z i ≤ 0 := fun i hi => by
          apply Classical.byContradiction
          intro q2
          exact q ⟨i, hi, by omega⟩
        apply all
        exact fun i hi => S_tight (f := z) (g := fun _ => 0) le (by rw [S_zero, z0]; exact Int.le_refl _) i hi
      have down : ∃ b, b < n ∧ z b ≤ -1 := by
        apply Classical.byContradiction
        intro q
        have ge : ∀ i, i < n → 0 ≤ z i := fun i hi => by
          apply Classical.byContradiction
          intro q2
          exact q ⟨i, hi, by omega⟩
        apply all
        exact fun i hi => (S_tight (f := fun _ => 0) (g := z) ge (by rw [S_zero, z0]; exact Int.le_refl _) i hi).symm
      obtain ⟨a, ha, za⟩ := up
      obtain ⟨b, hb, zb⟩ := down
      have ne : a ≠ b := by intro e; subst e; omega
      have h1 := N' a b ha hb
      rw [vv_z, vv_z, z0] at h1
      have h2 := N b a hb ha
      have h3 : (n : Int) * 2 ≤ (n : Int) * (z a - z b) := Int.mul_le_mul_of_nonneg_left (by omega) (by omega)
      rw [Int.mul_sub] at h3
      have npos : (0 : Int) < n := by omega
      have hv : vv n X b - vv n X a = n := by omega
      have hz : (n : Int) * z a - (n : Int) * z b = (n : Int) * 2 := by omega
      have hz2 : z a - z b = 2 := by
        rw [← Int.mul_sub] at hz
        exact Int.eq_of_mul_eq_mul_left (by omega) hz
      -- the step from X: b less, a more
      have nba : b ≠ a := Ne.symm ne
      have hX' := vv_shift X hb ha
      have N1 : Nrm n (shiftX b a X) := by
        intro i j hi hj
        rw [hX' i, hX' j]
        have mb := N b i hb hi
        have mi := N i a hi ha
        have mbj := N b j hb hj
        have mj := N j a hj ha
        have nij := N i j hi hj
        unfold zab
        by_cases e1 : i = a
        · by_cases e2 : j = a
          · rw [e1, e2]; omega
          · by_cases e3 : j = b
            · subst e1; subst e3
              rw [if_pos rfl, if_neg ne, if_neg nba, if_pos rfl]; omega
            · subst e1
              rw [if_pos rfl, if_neg ne, if_neg e2, if_neg e3]; omega
        · by_cases e1' : i = b
          · by_cases e2 : j = a
            · subst e1'; subst e2
              rw [if_neg nba, if_pos rfl, if_pos rfl, if_neg ne]; omega
            · by_cases e3 : j = b
              · rw [e1', e3]; omega
              · subst e1'
                rw [if_neg nba, if_pos rfl, if_neg e2, if_neg e3]; omega
          · by_cases e2 : j = a
            · subst e2
              rw [if_neg e1, if_neg e1', if_pos rfl, if_neg ne]; omega
            · by_cases e3 : j = b
              · subst e3
                rw [if_neg e1, if_neg e1', if_neg nba, if_pos rfl]; omega
              · rw [if_neg e1, if_neg e1', if_neg e2, if_neg e3]; omega
      have s1 := s.shift b a
      -- back again
      have back : shiftX a b (shiftX b a X) = X := by
        funext i j
        unfold shiftX
        omega
      have hx1 : vv n (shiftX b a X) a - vv n (shiftX b a X) b = n := by
        rw [hX' a, hX' b]
        unfold zab
        rw [if_pos rfl, if_neg ne, if_neg nba, if_pos rfl]; omega
      have x1 := pass_pos s1 EP EF ha hb ne (by omega)
      have x2 := N1.one s1 EP EF ha hb
      have le1 := shift_one s1 (fun i j hi hj => N1.one s1 EP EF hi hj) ha hb ne (by omega)
      rw [back] at le1
      have e0 : zX z X = zX (fun i => z i - zab b a i) (shiftX b a X) := by
        rw [shift_z, zX_zX]
        congr 1
        funext i
        omega
      have z0' : S n (fun i => z i - zab b a i) = 0 := by rw [S_sub, z0, S_zab hb ha]; rfl
      have less : S n (fun i => nab (z i - zab b a i)) < S n fun i => nab (z i) := by
        have d1 := S_ex2 (fun i => nab (z i - zab b a i)) ha hb ne
        have d2 := S_ex2 (fun i => nab (z i)) ha hb ne
        have d3 : S n (ex2 a b fun i => nab (z i - zab b a i)) = S n (ex2 a b fun i => nab (z i)) := S_congr fun i _ => by
          unfold ex2
          by_cases e : i = a ∨ i = b
          · rw [if_pos e, if_pos e]
          · rw [if_neg e, if_neg e]
            unfold zab
            dsimp only
            rw [if_neg (by omega), if_neg (by omega)]
            congr 1
            omega
        have d4 : zab b a a = 1 := by unfold zab; rw [if_pos rfl, if_neg ne]; rfl
        have d5 : zab b a b = -1 := by unfold zab; rw [if_neg nba, if_pos rfl]; rfl
        rw [d4, d5] at d1
        unfold nab at *
        omega
      have := ih (shiftX b a X) (fun i => z i - zab b a i) s1 N1 (by rw [← e0]; exact N') z0' (by omega)
      rw [← e0] at this
      omega
/-- THE LEAST: normal ways have no more passes than any -/
theorem normal_least (s : Sys n eP eF X) (EP : Eps n eP) (EF : Eps n eF) (N : Nrm n X) (z : Nat → Int) (z0 : S n z = 0) : NN n X ≤ NN n (zX z X) := by
  obtain ⟨y, y0, yN, yl⟩ := normal_of (s.z z) EP EF
  rw [zX_zX] at yN yl
  have := normal_same EP EF _ X _ s N yN (by rw [S_add, z0, y0]; rfl) (Nat.le_refl _)
  omega
end

/-! ## no more passes than a quarter of n * n -/
def SM (n : Nat) (m : Nat → Bool) (h : Nat → Int) : Int := S n fun i => if m i = true then h i else 0
def del (m : Nat → Bool) (x : Nat) : Nat → Bool := fun i => m i && !decide (i = x)
theorem del_of {m : Nat → Bool} {x i : Nat} (h : del m x i = true) : m i = true ∧ i ≠ x := by
  unfold del at h
  simpa using h
theorem del_mk {m : Nat → Bool} {x i : Nat} (h : m i = true) (ne : i ≠ x) : del m x i = true := by
  unfold del
  simpa using ⟨h, ne⟩
theorem SM_del {n : Nat} {m : Nat → Bool} (h : Nat → Int) {x : Nat} (hx : x < n) (mx : m x = true) : SM n m h = SM n (del m x) h + h x := by
  unfold SM
  rw [S_ex1 _ hx, if_pos mx]
  congr 1
  refine S_congr fun i _ => ?_
  unfold ex1
  by_cases e : i = x
  · rw [if_pos e, if_neg]
    intro q
    exact (del_of q).2 e
  · rw [if_neg e]
    dsimp only
    by_cases q : m i = true
    · rw [if_pos q, if_pos (del_mk q e)]
    · rw [if_neg q, if_neg]
      exact fun z => q (del_of z).1
theorem SM_congr {n : Nat} {m : Nat → Bool} {f g : Nat → Int} (h : ∀ i, i < n → m i = true → f i = g i) : SM n m f = SM n m g := S_congr fun i hi => by
  by_cases q : m i = true
  · rw [if_pos q, if_pos q, h i hi q]
  · rw [if_neg q, if_neg q]
theorem SM_le {n : Nat} {m : Nat → Bool} {f g : Nat → Int} (h : ∀ i, i < n → m i = true → f i ≤ g i) : SM n m f ≤ SM n m g := S_le fun i hi => by
  by_cases q : m i = true
  · rw [if_pos q, if_pos q]; exact h i hi q
  · rw [if_neg q, if_neg q]; exact Int.le_refl _
theorem SM_add (n : Nat) (m : Nat → Bool) (f g : Nat → Int) : SM n m (fun i => f i + g i) = SM n m f + SM n m g := by
  unfold SM
  rw [← S_add]
  refine S_congr fun i _ => ?_
  by_cases q : m i = true
  · rw [if_pos q, if_pos q, if_pos q]
  · rw [if_neg q, if_neg q, if_neg q]; rfl
theorem SM_sub (n : Nat) (m : Nat → Bool) (f g : Nat → Int) : SM n m (fun i => f i - g i) = SM n m f - SM n m g := by
  unfold SM
  rw [← S_sub]
  refine S_congr fun i _ => ?_
  by_cases q : m i = true
  · rw [if_pos q, if_pos q, if_pos q]
  · rw [if_neg q, if_neg q, if_neg q]; rfl
theorem SM_const (n : Nat) (m : Nat → Bool) (k : Int) : SM n m (fun _ => k) = SM n m (fun _ => 1) * k := by
  unfold SM
  rw [Int.mul_comm, ← S_mul]
  refine S_congr fun i _ => ?_
  by_cases q : m i = true
  · rw [if_pos q, if_pos q]; exact (Int.mul_one k).symm
  · rw [if_neg q, if_neg q]; omega
theorem SM_nonneg {n : Nat} {m : Nat → Bool} {f : Nat → Int} (h : ∀ i, i < n → m i = true → 0 ≤ f i) : 0 ≤ SM n m f := S_nonneg fun i hi => by
  by_cases q : m i = true
  · rw [if_pos q]; exact h i hi q
  · rw [if_neg q]; exact Int.le_refl _
theorem greatest {n : Nat} {p : Nat → Prop} (f : Nat → Int) (h : ∃ a, a < n ∧ p a) : ∃ x, x < n ∧ p x ∧ ∀ b, b < n → p b → f b ≤ f x := by
  induction n with
  | zero => obtain ⟨a, ha, _⟩ := h; omega
  | succ n ih =>
    by_cases q : ∃ a, a < n ∧ p a
    · obtain ⟨x, hx, px, mx⟩ := ih q
      by_cases pn : p n
      · by_cases le : f n ≤ f x
        · refine ⟨x, by omega, px, fun b hb pb => ?_⟩
          by_cases e : b = n
          · rw [e]; exact le
          · exact mx b (by omega) pb
        · refine ⟨n, by omega, pn, fun b hb pb => ?_⟩
          by_cases e : b = n
          · rw [e]; exact Int.le_refl _
          · have := mx b (by omega) pb
            omega
      · refine ⟨x, by omega, px, fun b hb pb => ?_⟩
        by_cases e : b = n
        · rw [e] at pb; exact (pn pb).elim
        · exact mx b (by omega) pb
    · obtain ⟨a, ha, pa⟩ := h
      have e : a = n := by
        apply Classical.byContradiction
        intro ne
        exact q ⟨a, by omega, pa⟩
      subst e
      refine ⟨a, by omega, pa, fun b hb pb => ?_⟩
      by_cases e : b = a
      · rw [e]; exact Int.le_refl _
      · exact (q ⟨b, by omega, pb⟩).elim
section
variable {n : Nat} {eP eF : Nat → Nat → Nat → Int} {X : Nat → Nat → Int}
def sz (n : Nat) (m : Nat → Bool) : Int := SM n m fun _ => 1
def vm (n : Nat) (X : Nat → Nat → Int) (m : Nat → Bool) (a : Nat) : Int := SM n m fun c => X a c
def DM (n : Nat) (X : Nat → Nat → Int) (m : Nat → Bool) : Int := SM n m fun i => SM n m fun j => nab (X i j)
/-- the cocycle over the things of a mask -/
theorem cocycleM (s : Sys n eP eF X) (EP : Eps n eP) (EF : Eps n eF) {m : Nat → Bool} {a b : Nat} (ha : a < n) (hb : b < n) (ne : a ≠ b) (ma : m a = true) (mb : m b = true) :
    ∃ p f : Int, 0 ≤ p ∧ p ≤ sz n m - 2 ∧ 0 ≤ f ∧ f ≤ sz n m - 2 ∧ vm n X m a - vm n X m b = sz n m * X a b - p + f := by
  have mb' : del m a b = true := del_mk mb (Ne.symm ne)
  have z1 : sz n m = SM n (del (del m a) b) (fun _ => 1) + 1 + 1 := by
    unfold sz
    rw [SM_del _ ha ma, SM_del _ hb mb']
  have h1 : vm n X m a - vm n X m b = SM n m fun c => X a c - X b c := (SM_sub n m _ _).symm
  rw [SM_del _ ha ma, SM_del _ hb mb'] at h1
  have h3 : SM n (del (del m a) b) (fun c => X a c - X b c) = SM n (del (del m a) b) (fun _ => X a b) - SM n (del (del m a) b) (fun c => eP a c b) + SM n (del (del m a) b) (fun c => eF a c b) := by
    rw [← SM_sub, ← SM_add]
    refine SM_congr fun c hc mc => ?_
    have q1 := del_of mc
    have q2 := del_of q1.1
    have := s.three a c b ha hc hb ne q2.2 q1.2
    have := s.anti c b hc hb
    omega
  have h4 := SM_const n (del (del m a) b) (X a b)
  have h5 := s.self ha
  have h6 := s.self hb
  have h7 := s.anti a b ha hb
  refine ⟨SM n (del (del m a) b) (fun c => eP a c b), SM n (del (del m a) b) (fun c => eF a c b), SM_nonneg fun i _ _ => EP.lo a i b, ?_, SM_nonneg fun i _ _ => EF.lo a i b, ?_, ?_⟩
  · have : SM n (del (del m a) b) (fun c => eP a c b) ≤ SM n (del (del m a) b) (fun _ => 1) := SM_le fun i _ _ => EP.hi a i b
    omega
  · have : SM n (del (del m a) b) (fun c => eF a c b) ≤ SM n (del (del m a) b) (fun _ => 1) := SM_le fun i _ _ => EF.hi a i b
    omega
  · have e : sz n m * X a b = SM n (del (del m a) b) (fun _ => 1) * X a b + X a b + X a b := by
      rw [z1, Int.add_mul, Int.add_mul]; omega
    omega
theorem mul_up {k x y : Int} (hk : 0 ≤ k) (h : x ≤ y) : k * x ≤ k * y := Int.mul_le_mul_of_nonneg_left h hk
/-- what the cocycle tells of two things of a mask -/
theorem tells (s : Sys n eP eF X) (EP : Eps n eP) (EF : Eps n eF) {m : Nat → Bool} {a b : Nat} (ha : a < n) (hb : b < n) (ne : a ≠ b) (ma : m a = true) (mb : m b = true) (N : vm n X m a - vm n X m b ≤ sz n m) (N' : vm n X m b - vm n X m a ≤ sz n m) :
    -1 ≤ X a b ∧ X a b ≤ 1 ∧ (1 ≤ X a b → vm n X m b + 2 ≤ vm n X m a) ∧ (X a b ≤ -1 → vm n X m a + 2 ≤ vm n X m b) ∧ (sz n m - 1 ≤ vm n X m a - vm n X m b → 1 ≤ X a b) := by
  obtain ⟨p, f, p0, p1, f0, f1, e⟩ := cocycleM s EP EF ha hb ne ma mb
  have z : 2 ≤ sz n m := by omega
  refine ⟨?_, ?_, fun h => ?_, fun h => ?_, fun h => ?_⟩
  · apply Classical.byContradiction
    intro q
    have := mul_up (k := sz n m) (by omega) (show X a b ≤ -2 by omega)
    omega
  · apply Classical.byContradiction
    intro q
    have := mul_up (k := sz n m) (by omega) (show 2 ≤ X a b by omega)
    omega
  · have := mul_up (k := sz n m) (by omega) h
    omega
  · have := mul_up (k := sz n m) (by omega) h
    omega
  · apply Classical.byContradiction
    intro q
    have := mul_up (k := sz n m) (by omega) (show X a b ≤ 0 by omega)
    omega
theorem quarterM (s : Sys n eP eF X) (EP : Eps n eP) (EF : Eps n eF) : ∀ (k : Nat) (m : Nat → Bool), sz n m ≤ k → (∀ a b, a < n → b < n → m a = true → m b = true → vm n X m a - vm n X m b ≤ sz n m) → 2 * DM n X m ≤ sz n m * sz n m := by
  intro k
  induction k using Nat.strongRecOn with
  | _ k ih =>
    intro m hk N
    have z0 : 0 ≤ sz n m := SM_nonneg fun _ _ _ => by decide
    by_cases two : ∃ a b, a < n ∧ b < n ∧ m a = true ∧ m b = true ∧ a ≠ b
    · obtain ⟨a0, b0, ha0, hb0, ma0, mb0, ne0⟩ := two
      obtain ⟨x, hx, mx, gx⟩ := greatest (p := fun i => m i = true) (vm n X m) ⟨a0, ha0, ma0⟩
      have other : ∃ c, c < n ∧ (m c = true ∧ c ≠ x) := by
        by_cases e : a0 = x
        · exact ⟨b0, hb0, mb0, fun z => ne0 (e.trans z.symm)⟩
        · exact ⟨a0, ha0, ma0, e⟩
      obtain ⟨y, hy, ⟨my, nyx⟩, ly⟩ := greatest (p := fun i => m i = true ∧ i ≠ x) (fun i => - vm n X m i) other
      have nxy : x ≠ y := Ne.symm nyx
      have least : ∀ c, c < n → m c = true → vm n X m y ≤ vm n X m c := fun c hc mc => by
        by_cases e : c = x
        · rw [e]; exact gx y hy my
        · have := ly c hc ⟨mc, e⟩
          omega
      have my' : del m x y = true := del_mk my nyx
      let m' := del (del m x) y
      have in' : ∀ c, m' c = true → m c = true ∧ c ≠ x ∧ c ≠ y := fun c hc => ⟨(del_of (del_of hc).1).1, (del_of (del_of hc).1).2, (del_of hc).2⟩
      have z1 : sz n m = sz n m' + 1 + 1 := by
        show SM n m _ = SM n m' _ + 1 + 1
        rw [SM_del _ hx mx, SM_del _ hy my']
      have z1' : 0 ≤ sz n m' := SM_nonneg fun _ _ _ => by decide
      have v1 : ∀ c, vm n X m c = vm n X m' c + X c y + X c x := fun c => by
        show SM n m _ = SM n m' _ + X c y + X c x
        rw [SM_del _ hx mx, SM_del _ hy my']
      have txy := tells s EP EF hx hy nxy mx my (N x y hx hy mx my) (N y x hy hx my mx)
      have tc : ∀ c, c < n → m' c = true → (X x c = 0 ∨ X x c = 1) ∧ (X c y = 0 ∨ X c y = 1) ∧ (X x c = 1 → vm n X m c + 2 ≤ vm n X m x) ∧ (X c y = 1 → vm n X m y + 2 ≤ vm n X m c) ∧
          (sz n m - 1 ≤ vm n X m x - vm n X m c → X x c = 1) ∧ (sz n m - 1 ≤ vm n X m c - vm n X m y → X c y = 1) := fun c hc mc => by
        obtain ⟨mc, ncx, ncy⟩ := in' c mc
        have t1 := tells s EP EF hx hc (Ne.symm ncx) mx mc (N x c hx hc mx mc) (N c x hc hx mc mx)
        have t2 := tells s EP EF hc hy ncy mc my (N c y hc hy mc my) (N y c hy hc my mc)
        have := gx c hc mc
        have := least c hc mc
        have p1 := t1.2.2.1
        have p2 := t1.2.2.2.1
        have p3 := t1.2.2.2.2
        have q1 := t2.2.2.1
        have q2 := t2.2.2.2.1
        have q3 := t2.2.2.2.2
        refine ⟨?_, ?_, ?_, ?_, ?_, ?_⟩ <;> omega
      have N' : ∀ a b, a < n → b < n → m' a = true → m' b = true → vm n X m' a - vm n X m' b ≤ sz n m' := fun a b ha hb ma mb => by
        have t1 := tc a ha ma
        have t2 := tc b hb mb
        have w1 := v1 a
        have w2 := v1 b
        have a1 := s.anti x a hx ha
        have a2 := s.anti x b hx hb
        have g1 := gx a ha (in' a ma).1
        have g2 := gx b hb (in' b mb).1
        have l1 := least a ha (in' a ma).1
        have l2 := least b hb (in' b mb).1
        have nn := N x y hx hy mx my
        obtain ⟨p1, p2, p3, p4, p5, p6⟩ := t1
        obtain ⟨q1, q2, q3, q4, q5, q6⟩ := t2
        rcases p1 with p1 | p1 <;> rcases p2 with p2 | p2 <;> rcases q1 with q1 | q1 <;> rcases q2 with q2 | q2 <;> omega
      have I := ih (sz n m').toNat (by omega) m' (by omega) N'
      -- the passes of x and of y
      have d1 : DM n X m = DM n X m' + 2 * (vm n X m x - vm n X m y - X x y) := by
        have row : ∀ i, SM n m (fun j => nab (X i j)) = SM n m' (fun j => nab (X i j)) + nab (X i y) + nab (X i x) := fun i => by
          rw [SM_del _ hx mx, SM_del _ hy my']
        have e1 : DM n X m = SM n m' (fun i => SM n m fun j => nab (X i j)) + SM n m (fun j => nab (X y j)) + SM n m (fun j => nab (X x j)) := by
          unfold DM
          rw [SM_del _ hx mx, SM_del _ hy my']
        have e2 : SM n m' (fun i => SM n m fun j => nab (X i j)) = DM n X m' + SM n m' (fun i => nab (X i y)) + SM n m' (fun i => nab (X i x)) := by
          unfold DM
          rw [← SM_add, ← SM_add]
          exact SM_congr fun i _ _ => row i
        have e3 : SM n m' (fun i => nab (X i y)) = SM n m' (fun i => X i y) := SM_congr fun i hi mi => by
          have := (tc i hi mi).2.1
          unfold nab
          omega
        have e4 : SM n m' (fun i => nab (X i x)) = SM n m' (fun i => X x i) := SM_congr fun i hi mi => by
          have := (tc i hi mi).1
          have := s.anti x i hx hi
          unfold nab
          omega
        have e5 : SM n m' (fun j => nab (X y j)) = SM n m' (fun i => X i y) := SM_congr fun i hi mi => by
          have := (tc i hi mi).2.1
          have := s.anti i y hi hy
          unfold nab
          omega
        have e6 : SM n m' (fun j => nab (X x j)) = SM n m' (fun i => X x i) := SM_congr fun i hi mi => by
          have := (tc i hi mi).1
          unfold nab
          omega
        have e7 := row y
        have e8 := row x
        have e9 : vm n X m x = SM n m' (fun i => X x i) + X x y + X x x := v1 x
        have e10 : vm n X m' y = SM n m' (fun i => 0 - X i y) := SM_congr fun i hi mi => by
          have := s.anti i y hi hy
          omega
        rw [SM_sub] at e10
        have e11 : SM n m' (fun _ => (0 : Int)) = 0 := by
          rw [SM_const]; omega
        have e12 := v1 y
        have e13 := s.self hx
        have e14 := s.self hy
        have e15 := s.anti x y hx hy
        have e16 := gx y hy my
        unfold nab at *
        omega
      have le : vm n X m x - vm n X m y - X x y ≤ sz n m - 1 := by
        have := N x y hx hy mx my
        have := txy.1
        have p1 := txy.2.1
        have p2 := txy.2.2.1
        have p3 := txy.2.2.2.2
        have p4 := txy.2.2.2.1
        have := gx y hy my
        omega
      have e : sz n m * sz n m = sz n m' * sz n m' + 4 * sz n m' + 4 := by
        rw [z1, show sz n m' + 1 + 1 = sz n m' + 2 by omega, Int.add_mul, Int.mul_add]; omega
      omega
    · have e : DM n X m = 0 := by
        have e1 : DM n X m = SM n m fun _ => 0 := SM_congr fun i hi mi => by
          have e2 : (SM n m fun j => nab (X i j)) = SM n m fun _ => 0 := SM_congr fun j hj mj => by
            have e3 : i = j := by
              apply Classical.byContradiction
              intro q
              exact two ⟨i, j, hi, hj, mi, mj, q⟩
            subst e3
            rw [s.self hi]
            rfl
          rw [e2, SM_const]; omega
        rw [e1, SM_const]; omega
      have := mul_up z0 z0
      omega
/-- THE MOST: normal ways have no more passes than a quarter of n * n (NN counts each pair twice) -/
theorem normal_most (s : Sys n eP eF X) (EP : Eps n eP) (EF : Eps n eF) (N : Nrm n X) : 2 * NN n X ≤ (n : Int) * n := by
  have z : sz n (fun _ => true) = n := by
    unfold sz SM
    refine (S_congr (g := fun _ => 1) fun i _ => if_pos rfl).trans ?_
    rw [S_const]; omega
  have v : ∀ a, vm n X (fun _ => true) a = vv n X a := fun a => S_congr fun i _ => if_pos rfl
  have d : DM n X (fun _ => true) = NN n X := S_congr fun i _ => (if_pos rfl).trans (S_congr fun j _ => if_pos rfl)
  have := quarterM s EP EF n (fun _ => true) (by omega) (fun a b ha hb _ _ => by rw [v, v, z]; exact N a b ha hb)
  rw [d, z] at this
  exact this
end
end RS
namespace RS
set_option autoImplicit false
/-! ## floors by n -/
theorem fl_two {n : Int} (hn : 0 < n) (s t : Int) : 0 ≤ (s + t) / n - s / n - t / n ∧ (s + t) / n - s / n - t / n ≤ 1 := by
  have hs := Int.mul_ediv_add_emod s n
  have ht := Int.mul_ediv_add_emod t n
  have h1 := Int.emod_nonneg s (show n ≠ 0 by omega)
  have h2 := Int.emod_lt_of_pos s hn
  have h3 := Int.emod_nonneg t (show n ≠ 0 by omega)
  have h4 := Int.emod_lt_of_pos t hn
  have e : (s + t) / n = (s % n + t % n) / n + (s / n + t / n) := by
    have : s + t = (s % n + t % n) + n * (s / n + t / n) := by rw [Int.mul_add]; omega
    rw [this, Int.add_mul_ediv_left _ _ (show n ≠ 0 by omega)]
  have d : 0 ≤ (s % n + t % n) / n := Int.ediv_nonneg (by omega) (by omega)
  have d2 : (s % n + t % n) / n < 2 := Int.ediv_lt_of_lt_mul hn (by omega)
  omega
theorem fl_neg {n : Int} (hn : 0 < n) {s : Int} (h : s % n ≠ 0) : (-s) / n = - (s / n) - 1 := by
  have hs := Int.mul_ediv_add_emod s n
  have h1 := Int.emod_nonneg s (show n ≠ 0 by omega)
  have h2 := Int.emod_lt_of_pos s hn
  have : -s = (n - s % n) + n * (- (s / n) - 1) := by
    rw [Int.mul_sub, Int.mul_neg]; omega
  rw [this, Int.add_mul_ediv_left _ _ (show n ≠ 0 by omega), Int.ediv_eq_zero_of_lt (by omega) (by omega)]
  omega
theorem fl_add {n : Int} (hn : 0 < n) (s k : Int) : (s + n * k) / n = s / n + k := Int.add_mul_ediv_left _ _ (show n ≠ 0 by omega)
theorem fl_small {n s : Int} (h0 : 0 ≤ s) (h : s < n) : s / n = 0 := Int.ediv_eq_zero_of_lt h0 h
theorem fl_back {n s : Int} (h0 : s < 0) (h : -n ≤ s) : s / n = -1 := by
  have hn : 0 < n := by omega
  have : s = (s + n) + n * (-1) := by omega
  rw [this, fl_add hn, fl_small (by omega) (by omega)]; rfl
theorem md_add {n : Int} (s k : Int) : (s + n * k) % n = s % n := by simp
/-! ## ways of places: L p, how far the thing at p goes -/
def F (L : Nat → Int) (p : Nat) : Int := (p : Int) + L p
/-- no two end at one place -/
def Apart (n : Nat) (L : Nat → Int) : Prop := ∀ i j, i < n → j < n → i ≠ j → (F L j - F L i) % (n : Int) ≠ 0
def XC (n : Nat) (L : Nat → Int) (i j : Nat) : Int := ((j : Int) - i) / (n : Int) - (F L j - F L i) / (n : Int)
def eC (n : Nat) (G : Nat → Int) (a c b : Nat) : Int := (G b - G a) / (n : Int) - (G c - G a) / (n : Int) - (G b - G c) / (n : Int)
theorem eC_eps {n : Nat} (hn : 0 < n) (G : Nat → Int) : Eps n (eC n G) := by
  have h : ∀ a c b, 0 ≤ eC n G a c b ∧ eC n G a c b ≤ 1 := fun a c b => by
    have := fl_two (n := (n : Int)) (by omega) (G c - G a) (G b - G c)
    have e : G c - G a + (G b - G c) = G b - G a := by omega
    rw [e] at this
    exact this
  exact ⟨fun a c b => (h a c b).1, fun a c b => (h a c b).2⟩
theorem md_places {n i j : Nat} (hi : i < n) (hj : j < n) (ne : i ≠ j) : ((j : Int) - i) % (n : Int) ≠ 0 := by
  intro q
  obtain ⟨k, e⟩ := Int.dvd_of_emod_eq_zero q
  rcases Int.lt_trichotomy k 0 with h | h | h
  · have := Int.mul_le_mul_of_nonneg_left (show k ≤ -1 by omega) (show (0 : Int) ≤ n by omega)
    omega
  · subst h; omega
  · have := Int.mul_le_mul_of_nonneg_left (show 1 ≤ k by omega) (show (0 : Int) ≤ n by omega)
    omega
theorem XC_sys {n : Nat} (hn : 0 < n) {L : Nat → Int} (A : Apart n L) : Sys n (eC n fun i => (i : Int)) (eC n (F L)) (XC n L) := by
  refine ⟨fun a b ha hb => ?_, fun a c b _ _ _ _ _ _ => ?_⟩
  · by_cases e : a = b
    · subst e
      unfold XC
      simp
    · have h1 := fl_neg (n := (n : Int)) (by omega) (md_places ha hb e)
      have h2 := fl_neg (n := (n : Int)) (by omega) (A a b ha hb e)
      unfold XC
      have e1 : (a : Int) - b = -((b : Int) - a) := by omega
      have e2 : F L a - F L b = -(F L b - F L a) := by omega
      rw [e1, e2, h1, h2]
      omega
  · unfold XC eC
    try dsimp only
    omega
theorem S_mod {n : Nat} (hn : 0 < n) {G : Nat → Int} (A : ∀ i j, i < n → j < n → i ≠ j → (G j - G i) % (n : Int) ≠ 0) (k : Int) : S n (fun c => (G c - k) % (n : Int)) = S n fun c => (c : Int) := by
  have npos : (0 : Int) < n := by omega
  have h0 : ∀ c, 0 ≤ (G c - k) % (n : Int) := fun c => Int.emod_nonneg _ (by omega)
  have h1 : ∀ c, (G c - k) % (n : Int) < n := fun c => Int.emod_lt_of_pos _ npos
  have := S_perm (n := n) (fun c => ((G c - k) % (n : Int)).toNat) (fun i _ => by have := h1 i; have := h0 i; omega) (fun i j hi hj e => by
    apply Classical.byContradiction
    intro ne
    apply A i j hi hj ne
    have e2 : (G i - k) % (n : Int) = (G j - k) % (n : Int) := by have := h0 i; have := h0 j; omega
    have e3 : G j - G i = (G j - k) - (G i - k) := by omega
    rw [e3, Int.sub_emod, e2]
    simp) fun i => (i : Int)
  rw [← this]
  refine S_congr fun c _ => ?_
  have := h0 c
  try dsimp only
  omega
theorem vv_XC {n : Nat} (hn : 0 < n) {L : Nat → Int} (A : Apart n L) (z : S n L = 0) {a : Nat} (_ : a < n) : vv n (XC n L) a = L a := by
  have npos : (0 : Int) < n := by omega
  have h1 := S_mod hn (G := fun i => (i : Int)) (fun i j hi hj ne => md_places hi hj ne) (a : Int)
  have h2 := S_mod hn (G := F L) A (F L a)
  have h3 : (n : Int) * vv n (XC n L) a = S n fun c => (n : Int) * XC n L a c := (S_mul n n _).symm
  have h4 : (S n fun c => (n : Int) * XC n L a c) = S n fun c => (((L a - L c) - (((c : Int) - a) % (n : Int))) + ((F L c - F L a) % (n : Int))) := S_congr fun c _ => by
    unfold XC
    rw [Int.mul_sub]
    have e1 := Int.mul_ediv_add_emod ((c : Int) - a) (n : Int)
    have e2 := Int.mul_ediv_add_emod (F L c - F L a) (n : Int)
    unfold F at *
    omega
  rw [S_add n (fun c => (L a - L c) - (((c : Int) - a) % (n : Int))) fun c => (F L c - F L a) % (n : Int), S_sub n (fun c => L a - L c) fun c => ((c : Int) - a) % (n : Int), S_sub n (fun _ => L a) L, S_const, h1, h2, z] at h4
  rw [h4] at h3
  have : (n : Int) * vv n (XC n L) a = (n : Int) * L a := by omega
  exact Int.eq_of_mul_eq_mul_left (by omega) this
/-! ## the count of passes -/
def shi (n : Nat) (L : Nat → Int) : Int := S n fun j => S j fun i => nab (((j : Int) - i + L j - L i) / (n : Int))
theorem S_tri {h : Nat → Nat → Int} (n : Nat) (sym : ∀ i j, i < n → j < n → h i j = h j i) (dia : ∀ i, i < n → h i i = 0) : (S n fun i => S n fun j => h i j) = 2 * S n fun j => S j fun i => h i j := by
  induction n with
  | zero => rfl
  | succ n ih =>
    have ih := ih (fun i j hi hj => sym i j (by omega) (by omega)) fun i hi => dia i (by omega)
    show (S n fun i => S n (fun j => h i j) + h i n) + (S n (fun j => h n j) + h n n) = 2 * ((S n fun j => S j fun i => h i j) + S n fun i => h i n)
    rw [S_add n (fun i => S n fun j => h i j) fun i => h i n, ih, dia n (by omega)]
    have : S n (fun j => h n j) = S n fun i => h i n := S_congr fun j hj => sym n j (by omega) (by omega)
    rw [this]
    omega
theorem NN_shi {n : Nat} (hn : 0 < n) {L : Nat → Int} (A : Apart n L) : NN n (XC n L) = 2 * shi n L := by
  have s := XC_sys hn A
  have h1 := S_tri (h := fun i j => nab (XC n L i j)) n (fun i j hi hj => by
    have := s.anti i j hi hj
    try dsimp only
    unfold nab
    omega) fun i hi => by
    try dsimp only
    rw [s.self hi]; rfl
  refine Eq.trans h1 ?_
  unfold shi
  congr 1
  refine S_congr fun j hj => S_congr fun i hi => ?_
  unfold XC F
  have e1 : ((j : Int) - i) / (n : Int) = 0 := fl_small (by omega) (by omega)
  have e2 : ((j : Int) + L j - ((i : Int) + L i)) = (j : Int) - i + L j - L i := by omega
  rw [e1, e2]
  unfold nab
  omega
theorem shi_nonneg (n : Nat) (L : Nat → Int) : 0 ≤ shi n L := S_nonneg fun i _ => S_nonneg fun j _ => by unfold nab; omega
theorem shi_congr {n : Nat} {L M : Nat → Int} (h : ∀ i, i < n → L i = M i) : shi n L = shi n M := S_congr fun j hj => S_congr fun i hi => by
  rw [h j hj, h i (by omega)]
/-! ## ways of a row -/
structure Row (n : Nat) (r : Nat → Int) : Prop where
  pos : 0 < n
  lo : ∀ p, p < n → 0 ≤ r p
  hi : ∀ p, p < n → r p < n
  inj : ∀ p q, p < n → q < n → r p = r q → p = q
structure Val (n : Nat) (r L : Nat → Int) : Prop where
  cong : ∀ p, p < n → ((p : Int) + L p - r p) % (n : Int) = 0
  sum : S n L = 0
/-- none greater than another by more than there are places -/
def Nor (n : Nat) (L : Nat → Int) : Prop := ∀ i j, i < n → j < n → L i - L j ≤ (n : Int)
theorem md_small {n x : Int} (h : x % n = 0) (h1 : -n < x) (h2 : x < n) : x = 0 := by
  obtain ⟨k, e⟩ := Int.dvd_of_emod_eq_zero h
  rcases Int.lt_trichotomy k 0 with h | h | h
  · have := Int.mul_le_mul_of_nonneg_left (show k ≤ -1 by omega) (show (0 : Int) ≤ n by omega)
    omega
  · subst h; omega
  · have := Int.mul_le_mul_of_nonneg_left (show 1 ≤ k by omega) (show (0 : Int) ≤ n by omega)
    omega
theorem Val.apart {n : Nat} {r L : Nat → Int} (R : Row n r) (V : Val n r L) : Apart n L := by
  intro i j hi hj ne q
  have h1 := V.cong i hi
  have h2 := V.cong j hj
  have : (r j - r i) % (n : Int) = 0 := by
    have e : r j - r i = (F L j - F L i) - (((j : Int) + L j - r j) - ((i : Int) + L i - r i)) := by unfold F; omega
    rw [e, Int.sub_emod, q, Int.sub_emod ((j : Int) + L j - r j), h1, h2]
    simp
  have l1 := R.lo i hi
  have l2 := R.lo j hj
  have u1 := R.hi i hi
  have u2 := R.hi j hj
  have := md_small this (by omega) (by omega)
  exact ne (R.inj i j hi hj (by omega))
/-- two ways of one row differ by rounds, together none -/
theorem Val.rounds {n : Nat} {r L M : Nat → Int} (hn : 0 < n) (V : Val n r L) (W : Val n r M) : ∃ z, S n z = 0 ∧ ∀ p, p < n → M p = L p + (n : Int) * z p := by
  have e : ∀ p, p < n → M p = L p + (n : Int) * ((M p - L p) / (n : Int)) := fun p hp => by
    have h1 := V.cong p hp
    have h2 := W.cong p hp
    have h3 : (M p - L p) % (n : Int) = 0 := by
      have e : M p - L p = ((p : Int) + M p - r p) - ((p : Int) + L p - r p) := by omega
      rw [e, Int.sub_emod, h1, h2]
      simp
    have := Int.mul_ediv_add_emod (M p - L p) (n : Int)
    omega
  refine ⟨fun p => (M p - L p) / (n : Int), ?_, e⟩
  have h1 := S_mul n (n : Int) fun p => (M p - L p) / (n : Int)
  have h2 : S n (fun p => (n : Int) * ((M p - L p) / (n : Int))) = S n fun p => M p - L p := S_congr fun p hp => by have := e p hp; omega
  rw [h2, S_sub, V.sum, W.sum] at h1
  have : (n : Int) * S n (fun p => (M p - L p) / (n : Int)) = (n : Int) * 0 := by omega
  exact Int.eq_of_mul_eq_mul_left (by omega) this
theorem XC_z {n : Nat} (hn : 0 < n) {L M z : Nat → Int} (e : ∀ p, p < n → M p = L p + (n : Int) * z p) {i j : Nat} (hi : i < n) (hj : j < n) : XC n M i j = zX z (XC n L) i j := by
  unfold XC zX F
  have h : ((j : Int) + M j - ((i : Int) + M i)) = ((j : Int) + L j - ((i : Int) + L i)) + (n : Int) * (z j - z i) := by
    rw [e i hi, e j hj, Int.mul_sub]; omega
  rw [h, fl_add (by omega)]
  show _ = ((j : Int) - i) / (n : Int) - ((j : Int) + L j - ((i : Int) + L i)) / (n : Int) + z i - z j
  omega
theorem Nor.nrm {n : Nat} (hn : 0 < n) {L : Nat → Int} (A : Apart n L) (z : S n L = 0) (N : Nor n L) : Nrm n (XC n L) := fun a b ha hb => by
  rw [vv_XC hn A z ha, vv_XC hn A z hb]
  exact N a b ha hb
/-- THE LEAST -/
theorem shi_least {n : Nat} {r L M : Nat → Int} (R : Row n r) (V : Val n r L) (N : Nor n L) (W : Val n r M) : shi n L ≤ shi n M := by
  obtain ⟨z, z0, e⟩ := V.rounds R.pos W
  have A := V.apart R
  have h := normal_least (XC_sys R.pos A) (eC_eps R.pos _) (eC_eps R.pos _) (N.nrm R.pos A V.sum) z z0
  have h2 := NN_congr (n := n) fun i j hi hj => XC_z R.pos e hi hj
  rw [← h2, NN_shi R.pos A, NN_shi R.pos (W.apart R)] at h
  omega
theorem shi_same {n : Nat} {r L M : Nat → Int} (R : Row n r) (V : Val n r L) (N : Nor n L) (W : Val n r M) (N' : Nor n M) : shi n L = shi n M :=
  Int.le_antisymm (shi_least R V N W) (shi_least R W N' V)
/-- THE MOST -/
theorem shi_most {n : Nat} {r L : Nat → Int} (R : Row n r) (V : Val n r L) (N : Nor n L) : shi n L ≤ ((n : Int) * n) / 4 := by
  have A := V.apart R
  have h := normal_most (XC_sys R.pos A) (eC_eps R.pos _) (eC_eps R.pos _) (N.nrm R.pos A V.sum)
  rw [NN_shi R.pos A] at h
  omega
/-- any ways can be made normal -/
theorem nor_ex {n : Nat} {r L : Nat → Int} (R : Row n r) (V : Val n r L) : ∃ M, Val n r M ∧ Nor n M := by
  have A := V.apart R
  obtain ⟨z, z0, zN, _⟩ := normal_of (XC_sys R.pos A) (eC_eps R.pos _) (eC_eps R.pos _)
  have V' : Val n r fun p => L p + (n : Int) * z p := by
    refine ⟨fun p hp => ?_, ?_⟩
    · have e : (p : Int) + (L p + (n : Int) * z p) - r p = ((p : Int) + L p - r p) + (n : Int) * z p := by omega
      rw [e, md_add, V.cong p hp]
    · rw [S_add, V.sum, S_mul, z0]; simp
  refine ⟨_, V', fun i j hi hj => ?_⟩
  have h := zN i j hi hj
  have e : ∀ a, a < n → vv n (zX z (XC n L)) a = vv n (XC n fun p => L p + (n : Int) * z p) a := fun a ha => vv_congr (fun i j hi hj => (XC_z R.pos (fun p _ => rfl) hi hj).symm) ha
  rw [e i hi, e j hj, vv_XC R.pos (V'.apart R) V'.sum hi, vv_XC R.pos (V'.apart R) V'.sum hj] at h
  exact h
/-! ## odd and even -/
theorem S_even {n : Nat} {f g : Nat → Int} (h : ∀ i, i < n → (f i - g i) % 2 = 0) : (S n f - S n g) % 2 = 0 := by
  induction n with
  | zero => rfl
  | succ n ih =>
    have h1 := ih fun i hi => h i (by omega)
    have h2 := h n (by omega)
    show ((S n f + f n) - (S n g + g n)) % 2 = 0
    omega
theorem tri_even (z : Nat → Int) (n : Nat) : ((S n fun j => S j fun i => z j - z i) - ((n : Int) - 1) * S n z) % 2 = 0 := by
  induction n with
  | zero => simp [S]
  | succ n ih =>
    show (((S n fun j => S j fun i => z j - z i) + S n fun i => z n - z i) - (((n + 1 : Nat) : Int) - 1) * (S n z + z n)) % 2 = 0
    rw [S_sub n (fun _ => z n) z, S_const, Int.natCast_succ]
    have e : ((n : Int) + 1 - 1) * (S n z + z n) = ((n : Int) - 1) * S n z + S n z + (n : Int) * z n := by
      have : ((n : Int) + 1 - 1) = n := by omega
      rw [this, Int.mul_add, Int.sub_mul]; omega
    rw [e]
    omega
theorem shi_even {n : Nat} {r L M : Nat → Int} (R : Row n r) (V : Val n r L) (W : Val n r M) : (shi n M - shi n L) % 2 = 0 := by
  obtain ⟨z, z0, e⟩ := V.rounds R.pos W
  have h0 := tri_even z n
  rw [z0, Int.mul_zero] at h0
  have h1 : (shi n M - S n fun j => S j fun i => nab (((j : Int) - i + L j - L i) / (n : Int)) + (z j - z i)) % 2 = 0 := S_even fun j hj => S_even fun i hi => by
    have e1 : (j : Int) - i + M j - M i = ((j : Int) - i + L j - L i) + (n : Int) * (z j - z i) := by
      rw [e j hj, e i (by omega), Int.mul_sub]; omega
    have npos := R.pos
    rw [e1, fl_add (by omega)]
    unfold nab
    omega
  have h2 : (S n fun j => S j fun i => nab (((j : Int) - i + L j - L i) / (n : Int)) + (z j - z i)) = shi n L + S n fun j => S j fun i => z j - z i := by
    unfold shi
    rw [← S_add]
    exact S_congr fun j _ => S_add j _ _
  rw [h2] at h1
  omega
/-! ## an exchange -/
def nx (n p : Nat) : Nat := (p + 1) % n
theorem nx_lt {n p : Nat} (hp : p < n) : nx n p < n := Nat.mod_lt _ (by omega)
theorem nx_cases {n p : Nat} (hp : p < n) : (p + 1 < n ∧ nx n p = p + 1) ∨ (p + 1 = n ∧ nx n p = 0) := by
  unfold nx
  by_cases h : p + 1 < n
  · exact .inl ⟨h, Nat.mod_eq_of_lt h⟩
  · have e : p + 1 = n := by omega
    exact .inr ⟨e, by rw [e, Nat.mod_self]⟩
/-- the row behind an exchange at p, the ways behind it -/
def swR (n : Nat) (r : Nat → Int) (p : Nat) : Nat → Int := fun i => r (tr p (nx n p) i)
def swL (n : Nat) (L : Nat → Int) (p : Nat) : Nat → Int := fun i => if i = p then L (nx n p) + 1 else if i = nx n p then L p - 1 else L i
theorem tr_a {a b : Nat} : tr a b a = b := by unfold tr; rw [if_pos rfl]
theorem tr_b {a b : Nat} : tr a b b = a := by
  unfold tr
  by_cases h : b = a
  · rw [if_pos h, h]
  · rw [if_neg h, if_pos rfl]
theorem tr_o {a b i : Nat} (h : i ≠ a) (h' : i ≠ b) : tr a b i = i := by unfold tr; rw [if_neg h, if_neg h']
theorem tr_tr {a b i : Nat} : tr a b (tr a b i) = i := by
  by_cases h : i = a
  · rw [h, tr_a, tr_b]
  · by_cases h' : i = b
    · rw [h', tr_b, tr_a]
    · rw [tr_o h h', tr_o h h']
theorem Row.sw {n p : Nat} {r : Nat → Int} (R : Row n r) (hp : p < n) : Row n (swR n r p) := by
  have hq := nx_lt hp
  refine ⟨R.pos, fun i hi => R.lo _ (tr_lt hp hq hi), fun i hi => R.hi _ (tr_lt hp hq hi), fun i j hi hj e => ?_⟩
  have := R.inj _ _ (tr_lt hp hq hi) (tr_lt hp hq hj) e
  have h := congrArg (tr p (nx n p)) this
  rwa [tr_tr, tr_tr] at h
theorem swL_sum {n p : Nat} {L : Nat → Int} (two : 2 ≤ n) (hp : p < n) : S n (swL n L p) = S n L := by
  have hq := nx_lt hp
  have ne : p ≠ nx n p := by rcases nx_cases hp with h | h <;> omega
  have h1 := S_ex2 (swL n L p) hp hq ne
  have h2 := S_ex2 L hp hq ne
  have h3 : S n (ex2 p (nx n p) (swL n L p)) = S n (ex2 p (nx n p) L) := S_congr fun i _ => by
    unfold ex2
    by_cases e : i = p ∨ i = nx n p
    · rw [if_pos e, if_pos e]
    · rw [if_neg e, if_neg e]
      unfold swL
      rw [if_neg (by omega), if_neg (by omega)]
  have h4 : swL n L p p = L (nx n p) + 1 := by unfold swL; rw [if_pos rfl]
  have h5 : swL n L p (nx n p) = L p - 1 := by unfold swL; rw [if_neg (Ne.symm ne), if_pos rfl]
  omega
theorem Val.sw {n p : Nat} {r L : Nat → Int} (two : 2 ≤ n) (V : Val n r L) (hp : p < n) : Val n (swR n r p) (swL n L p) := by
  have hq := nx_lt hp
  refine ⟨fun i hi => ?_, (swL_sum two hp).trans V.sum⟩
  unfold swR swL
  by_cases e : i = p
  · rw [if_pos e, e, tr_a]
    have := V.cong _ hq
    rcases nx_cases hp with h | h
    · have e2 : (p : Int) + (L (nx n p) + 1) - r (nx n p) = ((nx n p : Nat) : Int) + L (nx n p) - r (nx n p) := by omega
      rw [e2]; exact this
    · have e2 : (p : Int) + (L (nx n p) + 1) - r (nx n p) = (((nx n p : Nat) : Int) + L (nx n p) - r (nx n p)) + (n : Int) * 1 := by omega
      rw [e2, md_add]; exact this
  · rw [if_neg e]
    by_cases e' : i = nx n p
    · rw [if_pos e', e', tr_b]
      have := V.cong _ hp
      rcases nx_cases hp with h | h
      · have e2 : ((nx n p : Nat) : Int) + (L p - 1) - r p = (p : Int) + L p - r p := by omega
        rw [e2]; exact this
      · have e2 : ((nx n p : Nat) : Int) + (L p - 1) - r p = ((p : Int) + L p - r p) + (n : Int) * (-1) := by omega
        rw [e2, md_add]; exact this
    · rw [if_neg e', tr_o e e']
      exact V.cong i hi
/-- one entry of an antisymmetric system raised -/
theorem NN_entry {n p q : Nat} {Y Z : Nat → Nat → Int} (hp : p < n) (hq : q < n) (ne : p ≠ q) (anti : Y q p = - Y p q) (h1 : Z p q = Y p q + 1) (h2 : Z q p = Y q p - 1)
    (h : ∀ i j, i < n → j < n → ¬ (i = p ∧ j = q) → ¬ (i = q ∧ j = p) → Z i j = Y i j) : NN n Z = NN n Y + 2 * (nab (Y p q + 1) - nab (Y p q)) := by
  have d : NN n Z - NN n Y = S n fun i => S n fun j => nab (Z i j) - nab (Y i j) := by
    unfold NN
    rw [← S_sub]
    exact S_congr fun i _ => (S_sub n _ _).symm
  have rest : ∀ i, i < n → i ≠ p → i ≠ q → (S n fun j => nab (Z i j) - nab (Y i j)) = 0 := fun i hi e e' => by
    refine (S_congr (g := fun _ => 0) fun j hj => ?_).trans (S_zero n)
    rw [h i j hi hj (fun z => e z.1) fun z => e' z.1]; omega
  have rp : (S n fun j => nab (Z p j) - nab (Y p j)) = nab (Y p q + 1) - nab (Y p q) := by
    have h3 := S_ex1 (fun j => nab (Z p j) - nab (Y p j)) hq
    have h4 : S n (ex1 q fun j => nab (Z p j) - nab (Y p j)) = 0 := by
      refine (S_congr (g := fun _ => 0) fun j hj => ?_).trans (S_zero n)
      unfold ex1
      by_cases e : j = q
      · rw [if_pos e]
      · rw [if_neg e]
        try dsimp only
        rw [h p j hp hj (fun z => e z.2) fun z => ne z.1]; omega
    try dsimp only at h3
    rw [h1] at h3
    omega
  have rq : (S n fun j => nab (Z q j) - nab (Y q j)) = nab (Y p q + 1) - nab (Y p q) := by
    have h3 := S_ex1 (fun j => nab (Z q j) - nab (Y q j)) hp
    have h4 : S n (ex1 p fun j => nab (Z q j) - nab (Y q j)) = 0 := by
      refine (S_congr (g := fun _ => 0) fun j hj => ?_).trans (S_zero n)
      unfold ex1
      by_cases e : j = p
      · rw [if_pos e]
      · rw [if_neg e]
        try dsimp only
        rw [h q j hq hj (fun z => ne z.1.symm) fun z => e z.2]; omega
    try dsimp only at h3
    rw [h2] at h3
    unfold nab at *
    omega
  have h5 := S_ex2 (fun i => S n fun j => nab (Z i j) - nab (Y i j)) hp hq ne
  have h6 : S n (ex2 p q fun i => S n fun j => nab (Z i j) - nab (Y i j)) = 0 := by
    refine (S_congr (g := fun _ => 0) fun i hi => ?_).trans (S_zero n)
    unfold ex2
    by_cases e : i = p ∨ i = q
    · rw [if_pos e]
    · rw [if_neg e]
      exact rest i hi (by omega) (by omega)
  try dsimp only at h5
  rw [rp, rq, h6] at h5
  omega
theorem NN_tr {n p q : Nat} (X : Nat → Nat → Int) (hp : p < n) (hq : q < n) : NN n (fun i j => X (tr p q i) (tr p q j)) = NN n X := by
  unfold NN
  have : (S n fun i => S n fun j => nab (X (tr p q i) (tr p q j))) = S n fun i => S n fun j => nab (X (tr p q i) j) := S_congr fun i _ => S_tr (fun j => nab (X (tr p q i) j)) hp hq
  rw [this]
  exact S_tr (fun i => S n fun j => nab (X i j)) hp hq
/-- THE STEP: an exchange changes the passes by one; by one fewer where the first one goes farther -/
theorem shi_step {n p : Nat} {r L : Nat → Int} (two : 2 ≤ n) (R : Row n r) (V : Val n r L) (hp : p < n) :
    (L (nx n p) < L p → shi n (swL n L p) = shi n L - 1) ∧ (L p ≤ L (nx n p) → shi n (swL n L p) = shi n L + 1) := by
  have hq := nx_lt hp
  have A := V.apart R
  have R' := R.sw hp
  have V' := V.sw two hp
  have A' := V'.apart R'
  have npos : (0 : Int) < n := by omega
  have ne : p ≠ nx n p := by rcases nx_cases hp with h | h <;> omega
  have s := XC_sys R.pos A
  have fp : F (swL n L p) p = (p : Int) + (L (nx n p) + 1) := by unfold F swL; rw [if_pos rfl]
  have fq : F (swL n L p) (nx n p) = ((nx n p : Nat) : Int) + (L p - 1) := by unfold F swL; rw [if_neg (Ne.symm ne), if_pos rfl]
  have fo : ∀ i, i ≠ p → i ≠ nx n p → F (swL n L p) i = F L i := fun i h h' => by unfold F swL; rw [if_neg h, if_neg h']
  have main : NN n (XC n (swL n L p)) = NN n (fun i j => XC n L (tr p (nx n p) i) (tr p (nx n p) j)) + 2 * (nab (XC n L (nx n p) p + 1) - nab (XC n L (nx n p) p)) := by
    have an := s.anti p (nx n p) hp hq
    have := NN_entry (n := n) (p := p) (q := nx n p) (Y := fun i j => XC n L (tr p (nx n p) i) (tr p (nx n p) j)) (Z := XC n (swL n L p)) hp hq ne
      (by rw [tr_a, tr_b]; omega) ?_ ?_ ?_
    · try dsimp only at this
      rw [tr_a, tr_b] at this
      exact this
    · try dsimp only
      rw [tr_a, tr_b]
      unfold XC
      rw [fp, fq]
      rcases nx_cases hp with ⟨h, e⟩ | ⟨h, e⟩
      · rw [e]
        have e1 : (((p + 1 : Nat) : Int) - p) / (n : Int) = 0 := fl_small (by omega) (by omega)
        have e2 : ((p : Int) - ((p + 1 : Nat) : Int)) / (n : Int) = -1 := fl_back (by omega) (by omega)
        have e3 : (((p + 1 : Nat) : Int) + (L p - 1) - ((p : Int) + (L (p + 1) + 1))) = F L p - F L (p + 1) := by unfold F; omega
        rw [e1, e2, e3]; omega
      · rw [e]
        have e1 : (((0 : Nat) : Int) - p) / (n : Int) = -1 := fl_back (by omega) (by omega)
        have e2 : ((p : Int) - ((0 : Nat) : Int)) / (n : Int) = 0 := fl_small (by omega) (by omega)
        have e3 : (((0 : Nat) : Int) + (L p - 1) - ((p : Int) + (L 0 + 1))) = (F L p - F L 0) + (n : Int) * (-2) := by unfold F; omega
        rw [e1, e2, e3, fl_add npos]; omega
    · try dsimp only
      rw [tr_a, tr_b]
      unfold XC
      rw [fp, fq]
      rcases nx_cases hp with ⟨h, e⟩ | ⟨h, e⟩
      · rw [e]
        have e1 : (((p + 1 : Nat) : Int) - p) / (n : Int) = 0 := fl_small (by omega) (by omega)
        have e2 : ((p : Int) - ((p + 1 : Nat) : Int)) / (n : Int) = -1 := fl_back (by omega) (by omega)
        have e3 : ((p : Int) + (L (p + 1) + 1) - (((p + 1 : Nat) : Int) + (L p - 1))) = F L (p + 1) - F L p := by unfold F; omega
        rw [e1, e2, e3]; omega
      · rw [e]
        have e1 : (((0 : Nat) : Int) - p) / (n : Int) = -1 := fl_back (by omega) (by omega)
        have e2 : ((p : Int) - ((0 : Nat) : Int)) / (n : Int) = 0 := fl_small (by omega) (by omega)
        have e3 : ((p : Int) + (L 0 + 1) - (((0 : Nat) : Int) + (L p - 1))) = (F L 0 - F L p) + (n : Int) * 2 := by unfold F; omega
        rw [e1, e2, e3, fl_add npos]; omega
    · intro i j hi hj no1 no2
      try dsimp only
      -- how far i, j and their exchanged places are; the wrap carries a round
      have key : ∀ k, k < n → k ≠ p → k ≠ nx n p → (((k : Int) - p) / (n : Int) - (F L k - F (swL n L p) p) / (n : Int) = ((k : Int) - ((nx n p : Nat) : Int)) / (n : Int) - (F L k - F L (nx n p)) / (n : Int)) ∧
          (((k : Int) - ((nx n p : Nat) : Int)) / (n : Int) - (F L k - F (swL n L p) (nx n p)) / (n : Int) = ((k : Int) - p) / (n : Int) - (F L k - F L p) / (n : Int)) ∧
          (((p : Int) - k) / (n : Int) - (F (swL n L p) p - F L k) / (n : Int) = (((nx n p : Nat) : Int) - k) / (n : Int) - (F L (nx n p) - F L k) / (n : Int)) ∧
          ((((nx n p : Nat) : Int) - k) / (n : Int) - (F (swL n L p) (nx n p) - F L k) / (n : Int) = ((p : Int) - k) / (n : Int) - (F L p - F L k) / (n : Int)) := by
        intro k hk kp kq
        rw [fp, fq]
        rcases nx_cases hp with ⟨h, e⟩ | ⟨h, e⟩
        · rw [e] at kq ⊢
          have e1 : (p : Int) + (L (p + 1) + 1) = F L (p + 1) := by unfold F; omega
          have e2 : ((p + 1 : Nat) : Int) + (L p - 1) = F L p := by unfold F; omega
          rw [e1, e2]
          by_cases lt : k < p
          · have d1 : ((k : Int) - p) / (n : Int) = -1 := fl_back (by omega) (by omega)
            have d2 : ((k : Int) - ((p + 1 : Nat) : Int)) / (n : Int) = -1 := fl_back (by omega) (by omega)
            have d3 : ((p : Int) - k) / (n : Int) = 0 := fl_small (by omega) (by omega)
            have d4 : (((p + 1 : Nat) : Int) - k) / (n : Int) = 0 := fl_small (by omega) (by omega)
            rw [d1, d2, d3, d4]
            exact ⟨rfl, rfl, rfl, rfl⟩
          · have d1 : ((k : Int) - p) / (n : Int) = 0 := fl_small (by omega) (by omega)
            have d2 : ((k : Int) - ((p + 1 : Nat) : Int)) / (n : Int) = 0 := fl_small (by omega) (by omega)
            have d3 : ((p : Int) - k) / (n : Int) = -1 := fl_back (by omega) (by omega)
            have d4 : (((p + 1 : Nat) : Int) - k) / (n : Int) = -1 := fl_back (by omega) (by omega)
            rw [d1, d2, d3, d4]
            exact ⟨rfl, rfl, rfl, rfl⟩
        · rw [e] at kq ⊢
          have d1 : ((k : Int) - p) / (n : Int) = -1 := fl_back (by omega) (by omega)
          have d2 : ((k : Int) - ((0 : Nat) : Int)) / (n : Int) = 0 := fl_small (by omega) (by omega)
          have d3 : ((p : Int) - k) / (n : Int) = 0 := fl_small (by omega) (by omega)
          have d4 : (((0 : Nat) : Int) - k) / (n : Int) = -1 := fl_back (by omega) (by omega)
          have f1 : F L k - ((p : Int) + (L 0 + 1)) = (F L k - F L 0) + (n : Int) * (-1) := by unfold F; omega
          have f2 : F L k - (((0 : Nat) : Int) + (L p - 1)) = (F L k - F L p) + (n : Int) * 1 := by unfold F; omega
          have f3 : ((p : Int) + (L 0 + 1)) - F L k = (F L 0 - F L k) + (n : Int) * 1 := by unfold F; omega
          have f4 : (((0 : Nat) : Int) + (L p - 1)) - F L k = (F L p - F L k) + (n : Int) * (-1) := by unfold F; omega
          rw [d1, d2, d3, d4, f1, f2, f3, f4, fl_add npos, fl_add npos, fl_add npos, fl_add npos]
          refine ⟨?_, ?_, ?_, ?_⟩ <;> omega
      by_cases ip : i = p
      · subst ip
        by_cases jp : j = i
        · subst jp
          unfold XC; simp
        · by_cases jq : j = nx n i
          · exact (no1 ⟨rfl, jq⟩).elim
          · rw [tr_a, tr_o jp jq]
            unfold XC
            rw [fo j jp jq]
            exact (key j hj jp jq).1
      · by_cases iq : i = nx n p
        · subst iq
          by_cases jp : j = p
          · exact (no2 ⟨rfl, jp⟩).elim
          · by_cases jq : j = nx n p
            · subst jq
              unfold XC; simp
            · rw [tr_b, tr_o jp jq]
              unfold XC
              rw [fo j jp jq]
              exact (key j hj jp jq).2.1
        · rw [tr_o ip iq]
          by_cases jp : j = p
          · subst jp
            rw [tr_a]
            unfold XC
            rw [fo i ip iq]
            exact (key i hi ip iq).2.2.1
          · by_cases jq : j = nx n p
            · subst jq
              rw [tr_b]
              unfold XC
              rw [fo i ip iq]
              exact (key i hi ip iq).2.2.2
            · rw [tr_o jp jq]
              unfold XC
              rw [fo i ip iq, fo j jp jq]
  rw [NN_tr _ hp hq, NN_shi R.pos A, NN_shi R.pos A'] at main
  -- which of the two passes
  have an := s.anti p (nx n p) hp hq
  have xe : XC n L p (nx n p) = - ((1 + L (nx n p) - L p) / (n : Int)) := by
    unfold XC F
    rcases nx_cases hp with ⟨h, e⟩ | ⟨h, e⟩
    · rw [e]
      have e1 : (((p + 1 : Nat) : Int) - p) / (n : Int) = 0 := fl_small (by omega) (by omega)
      have e2 : (((p + 1 : Nat) : Int) + L (p + 1) - ((p : Int) + L p)) = 1 + L (p + 1) - L p := by omega
      rw [e1, e2]; omega
    · rw [e]
      have e1 : (((0 : Nat) : Int) - p) / (n : Int) = -1 := fl_back (by omega) (by omega)
      have e2 : (((0 : Nat) : Int) + L 0 - ((p : Int) + L p)) = (1 + L 0 - L p) + (n : Int) * (-1) := by omega
      rw [e1, e2, fl_add npos]; omega
  constructor
  · intro h
    have d : (1 + L (nx n p) - L p) / (n : Int) ≤ -1 := by
      have ne0 : 1 + L (nx n p) - L p ≠ 0 := by
        intro z
        apply A p (nx n p) hp hq ne
        unfold F
        rcases nx_cases hp with ⟨h, e⟩ | ⟨h, e⟩
        · have : ((nx n p : Nat) : Int) + L (nx n p) - ((p : Int) + L p) = 0 := by omega
          rw [this]; simp
        · have : ((nx n p : Nat) : Int) + L (nx n p) - ((p : Int) + L p) = 0 + (n : Int) * (-1) := by omega
          rw [this, md_add]; simp
      have : (1 + L (nx n p) - L p) / (n : Int) < 0 := Int.ediv_neg_of_neg_of_pos (by omega) npos
      omega
    unfold nab at main
    omega
  · intro h
    have d : 0 ≤ (1 + L (nx n p) - L p) / (n : Int) := Int.ediv_nonneg (by omega) (by omega)
    unfold nab at main
    omega
/-- where none goes farther than the next one, all are at home -/
theorem home {n : Nat} {L : Nat → Int} (hn : 0 < n) (z : S n L = 0) (h : ∀ p, p < n → L p ≤ L (nx n p)) : ∀ p, p < n → L p = 0 := by
  have up : ∀ k, k < n → L 0 ≤ L k := fun k => by
    induction k with
    | zero => intro _; exact Int.le_refl _
    | succ k ih =>
      intro hk
      have h1 := ih (by omega)
      have h2 := h k (by omega)
      have e : nx n k = k + 1 := Nat.mod_eq_of_lt hk
      rw [e] at h2
      omega
  have down : ∀ d k, k + d + 1 = n → L k ≤ L 0 := fun d => by
    induction d with
    | zero =>
      intro k hk
      have h2 := h k (by omega)
      have e : nx n k = 0 := by unfold nx; rw [show k + 1 = n by omega, Nat.mod_self]
      rwa [e] at h2
    | succ d ih =>
      intro k hk
      have h1 := ih (k + 1) (by omega)
      have h2 := h k (by omega)
      have e : nx n k = k + 1 := Nat.mod_eq_of_lt (by omega)
      rw [e] at h2
      omega
  have eq : ∀ p, p < n → L p = L 0 := fun p hp => Int.le_antisymm (down (n - 1 - p) p (by omega)) (up p hp)
  have h1 : S n L = S n fun _ => L 0 := S_congr eq
  rw [S_const, z] at h1
  have h2 : L 0 = 0 := by
    have : (n : Int) * L 0 = (n : Int) * 0 := by omega
    exact Int.eq_of_mul_eq_mul_left (by omega) this
  intro p hp
  rw [eq p hp, h2]
theorem home_row {n : Nat} {r L : Nat → Int} (R : Row n r) (V : Val n r L) (h : ∀ p, p < n → L p = 0) : ∀ p, p < n → r p = p := fun p hp => by
  have h1 := V.cong p hp
  have h2 := R.lo p hp
  have h3 := R.hi p hp
  rw [h p hp] at h1
  have := md_small h1 (by omega) (by omega)
  omega
theorem shi_home {n : Nat} {L : Nat → Int} (h : ∀ p, p < n → L p = 0) : shi n L = 0 := by
  refine (S_congr (g := fun _ => 0) fun j hj => ?_).trans (S_zero n)
  refine (S_congr (g := fun _ => 0) fun i hi => ?_).trans (S_zero j)
  rw [h j hj, h i (by omega), fl_small (by omega) (by omega)]
  rfl
end RS
namespace RS
set_option autoImplicit false
/-! ## lists: a row, exchanges, ways -/
def fr (l : List Int) : Nat → Int := fun i => l.getD i 0
def ids (n : Nat) : List Int := (List.range n).map fun i : Nat => (i : Int)
/-- an exchange at p, as the program does it -/
def swp (l : List Int) (p : Int) : List Int := (l.set p.toNat (l.getD ((p + 1) % (l.length : Int)).toNat 0)).set ((p + 1) % (l.length : Int)).toNat (l.getD p.toNat 0)
def doneL (l : List Int) (s : List Int) : List Int := s.foldl swp l
def plOk (n : Int) (s : List Int) : Prop := ∀ p ∈ s, 0 ≤ p ∧ p < n
/-- the ways, place by place -/
def leftL (row ways : List Int) : List Int := row.map fun t => ways.getD t.toNat 0
/-- .. behind an exchange -/
def swpW (l : List Int) (p : Int) : List Int := (l.set p.toNat (l.getD ((p + 1) % (l.length : Int)).toNat 0 + 1)).set ((p + 1) % (l.length : Int)).toNat (l.getD p.toNat 0 - 1)
/-- what the program counts -/
def passesL (row ways : List Int) : Int := shi row.length (fr (leftL row ways))
structure IsRow (l : List Int) : Prop where
  three : 3 ≤ l.length
  row : Row l.length (fr l)
structure NorW (row ways : List Int) : Prop where
  len : ways.length = row.length
  val : Val row.length (fr row) (fr (leftL row ways))
  nor : Nor row.length (fr (leftL row ways))
theorem fr_eq {l : List Int} {i : Nat} (h : i < l.length) : fr l i = l[i] := by
  unfold fr
  rw [List.getD_eq_getElem?_getD, List.getElem?_eq_getElem h]; rfl
theorem fr_set {l : List Int} {i j : Nat} {v : Int} (h : i < l.length) : fr (l.set i v) j = if j = i then v else fr l j := by
  unfold fr
  rw [List.getD_eq_getElem?_getD, List.getD_eq_getElem?_getD, List.getElem?_set]
  by_cases e : i = j
  · subst e
    rw [if_pos rfl, if_pos h, if_pos rfl]; rfl
  · rw [if_neg e, if_neg (Ne.symm e)]
theorem swp_len (l : List Int) (p : Int) : (swp l p).length = l.length := by
  unfold swp
  rw [List.length_set, List.length_set]
theorem swpW_len (l : List Int) (p : Int) : (swpW l p).length = l.length := by
  unfold swpW
  rw [List.length_set, List.length_set]
theorem doneL_len (s : List Int) : ∀ l : List Int, (doneL l s).length = l.length := by
  induction s with
  | nil => intro l; rfl
  | cons p s ih => intro l; exact (ih (swp l p)).trans (swp_len l p)
theorem doneL_cons (l : List Int) (p : Int) (s : List Int) : doneL l (p :: s) = doneL (swp l p) s := rfl
theorem doneL_append (l s t : List Int) : doneL l (s ++ t) = doneL (doneL l s) t := List.foldl_append
theorem doneL_snoc (l s : List Int) (p : Int) : doneL l (s ++ [p]) = swp (doneL l s) p := by rw [doneL_append]; rfl
theorem nx_int {n : Nat} {p : Int} (h0 : 0 ≤ p) (h : p < n) : ((p + 1) % (n : Int)).toNat = nx n p.toNat ∧ 0 ≤ (p + 1) % (n : Int) ∧ (p + 1) % (n : Int) < n := by
  have e : p + 1 = ((p.toNat + 1 : Nat) : Int) := by omega
  have h2 : ((p.toNat + 1 : Nat) : Int) % (n : Int) = ((nx n p.toNat : Nat) : Int) := by
    unfold nx
    exact (Int.natCast_emod _ _).symm
  have h3 := nx_lt (n := n) (p := p.toNat) (by omega)
  rw [e, h2]
  refine ⟨by omega, by omega, by omega⟩
theorem fr_swp {l : List Int} {p : Int} (h0 : 0 ≤ p) (h : p < l.length) (i : Nat) : fr (swp l p) i = swR l.length (fr l) p.toNat i := by
  obtain ⟨e, _, _⟩ := nx_int h0 h
  unfold swp swR
  rw [e]
  have hq := nx_lt (n := l.length) (p := p.toNat) (by omega)
  rw [fr_set (by rw [List.length_set]; exact hq), fr_set (by omega)]
  unfold tr
  by_cases h1 : i = p.toNat
  · rw [if_pos h1]
    by_cases h2 : i = nx l.length p.toNat
    · rw [if_pos h2, ← h2, h1, if_pos rfl]; rfl
    · rw [if_neg h2, if_pos h1]; rfl
  · rw [if_neg h1, if_neg h1]
    by_cases h2 : i = nx l.length p.toNat
    · rw [if_pos h2, if_pos h2]; rfl
    · rw [if_neg h2, if_neg h2]
theorem fr_swpW {l : List Int} {p : Int} (two : 2 ≤ l.length) (h0 : 0 ≤ p) (h : p < l.length) (i : Nat) : fr (swpW l p) i = swL l.length (fr l) p.toNat i := by
  obtain ⟨e, _, _⟩ := nx_int h0 h
  unfold swpW swL
  rw [e]
  have hq := nx_lt (n := l.length) (p := p.toNat) (by omega)
  have ne : p.toNat ≠ nx l.length p.toNat := by rcases nx_cases (n := l.length) (p := p.toNat) (by omega) with h | h <;> omega
  rw [fr_set (by rw [List.length_set]; exact hq), fr_set (by omega)]
  by_cases h1 : i = p.toNat
  · rw [if_pos h1, if_neg (by omega), if_pos h1]; rfl
  · rw [if_neg h1, if_neg h1]
    by_cases h2 : i = nx l.length p.toNat
    · rw [if_pos h2, if_pos h2]; rfl
    · rw [if_neg h2, if_neg h2]
/-! ## functions that agree below n -/
theorem Row.congr {n : Nat} {r s : Nat → Int} (e : ∀ i, i < n → r i = s i) (R : Row n r) : Row n s :=
  ⟨R.pos, fun p hp => by rw [← e p hp]; exact R.lo p hp, fun p hp => by rw [← e p hp]; exact R.hi p hp, fun p q hp hq z => R.inj p q hp hq (by rw [e p hp, e q hq]; exact z)⟩
theorem Val.congr {n : Nat} {r s L M : Nat → Int} (e : ∀ i, i < n → r i = s i) (f : ∀ i, i < n → L i = M i) (V : Val n r L) : Val n s M :=
  ⟨fun p hp => by rw [← e p hp, ← f p hp]; exact V.cong p hp, (S_congr f).symm.trans V.sum⟩
theorem Nor.congr {n : Nat} {L M : Nat → Int} (f : ∀ i, i < n → L i = M i) (N : Nor n L) : Nor n M := fun i j hi hj => by
  rw [← f i hi, ← f j hj]
  exact N i j hi hj
theorem IsRow.swp {l : List Int} {p : Int} (R : IsRow l) (h0 : 0 ≤ p) (h : p < l.length) : IsRow (swp l p) := by
  refine ⟨by rw [swp_len]; exact R.three, ?_⟩
  rw [swp_len]
  exact (R.row.sw (p := p.toNat) (by omega)).congr fun i _ => (fr_swp h0 h i).symm
theorem IsRow.done {s : List Int} : ∀ {l : List Int}, IsRow l → plOk l.length s → IsRow (doneL l s) := by
  induction s with
  | nil => intro l R _; exact R
  | cons p s ih =>
    intro l R h
    have hp := h p List.mem_cons_self
    exact ih (R.swp hp.1 hp.2) fun q hq => by rw [swp_len]; exact h q (List.mem_cons_of_mem _ hq)
theorem ids_len (n : Nat) : (ids n).length = n := by unfold ids; rw [List.length_map, List.length_range]
theorem fr_ids {n i : Nat} (h : i < n) : fr (ids n) i = i := by
  have h' : i < (ids n).length := by rw [ids_len]; exact h
  rw [fr_eq h']
  exact (List.getElem_map _).trans (by rw [List.getElem_range])
theorem ext_fr {l m : List Int} (hl : l.length = m.length) (h : ∀ i, i < l.length → fr l i = fr m i) : l = m := by
  refine List.ext_getElem hl fun i h1 h2 => ?_
  have := h i h1
  rwa [fr_eq h1, fr_eq h2] at this
theorem eq_ids {l : List Int} (h : ∀ i, i < l.length → fr l i = i) : l = ids l.length :=
  ext_fr (ids_len _).symm fun i hi => by rw [h i hi, fr_ids hi]
theorem isRow_ids {n : Nat} (h : 3 ≤ n) : IsRow (ids n) := by
  have e := ids_len n
  refine ⟨by omega, ⟨by omega, fun p hp => ?_, fun p hp => ?_, fun p q hp hq z => ?_⟩⟩
  · rw [fr_ids (by omega)]; omega
  · rw [fr_ids (by omega)]; omega
  · rw [fr_ids (by omega), fr_ids (by omega)] at z; omega
theorem leftL_len (row ways : List Int) : (leftL row ways).length = row.length := List.length_map _
theorem fr_leftL {row ways : List Int} {i : Nat} (h : i < row.length) : fr (leftL row ways) i = ways.getD (fr row i).toNat 0 := by
  have h' : i < (leftL row ways).length := by rw [leftL_len]; exact h
  rw [fr_eq h', fr_eq h]
  exact List.getElem_map _
/-! ## the walk of swaps_by -/
/-- where the loop of the exchanges stands: left, found, waiting -/
structure Going (row ways left found waiting : List Int) : Prop where
  llen : left.length = row.length
  pl : plOk row.length found
  wt : plOk row.length waiting
  val : Val row.length (fr (doneL row found)) (fr left)
  sum : shi row.length (fr left) + (found.length : Int) = passesL row ways
  wlen : (waiting.length : Int) ≤ row.length + 2 * found.length
  down : ∀ p : Nat, p < row.length → fr left (nx row.length p) < fr left p → (p : Int) ∈ waiting
theorem going_start {row ways : List Int} (W : NorW row ways) : Going row ways (leftL row ways) [] (ids row.length) := by
  refine ⟨leftL_len _ _, (fun p h => nomatch h), fun p h => ?_, W.val, ?_, ?_, fun p hp _ => ?_⟩
  · unfold ids at h
    obtain ⟨i, hi, e⟩ := List.mem_map.mp h
    have := List.mem_range.mp hi
    omega
  · show _ + (0 : Int) = _
    unfold passesL
    omega
  · rw [ids_len]
    show (row.length : Int) ≤ _ + 2 * (0 : Int)
    omega
  · exact List.mem_map.mpr ⟨p, List.mem_range.mpr hp, rfl⟩
theorem Going.bound {row ways left found waiting : List Int} (G : Going row ways left found waiting) : (found.length : Int) ≤ passesL row ways := by
  have h1 := G.sum
  have h2 := shi_nonneg row.length (fr left)
  omega
/-- no exchange at the popped place -/
theorem Going.pass {row ways left found waiting : List Int} {p : Int} (G : Going row ways left found (waiting ++ [p])) (no : ¬ fr left (nx row.length p.toNat) < fr left p.toNat) : Going row ways left found waiting := by
  refine ⟨G.llen, G.pl, fun q h => G.wt q (List.mem_append_left _ h), G.val, G.sum, ?_, fun q hq hd => ?_⟩
  · have := G.wlen
    rw [List.length_append, List.length_singleton] at this
    omega
  · rcases List.mem_append.mp (G.down q hq hd) with h | h
    · exact h
    · have e := List.mem_singleton.mp h
      subst e
      exact (no (by rw [Int.toNat_natCast]; exact hd)).elim
/-- an exchange at the popped place -/
theorem Going.turn {row ways left found waiting : List Int} {p : Int} (R : IsRow row) (G : Going row ways left found (waiting ++ [p])) (d : fr left (nx row.length p.toNat) < fr left p.toNat) :
    Going row ways (swpW left p) (found ++ [p]) (waiting ++ [(p - 1) % (row.length : Int), (p + 1) % (row.length : Int), p]) := by
  have hp := G.wt p (List.mem_append_right _ List.mem_cons_self)
  have n3 := R.three
  have npos : (0 : Int) < row.length := by omega
  have Rd := R.done G.pl
  have dl := doneL_len found row
  have lp : p < (left.length : Int) := by rw [G.llen]; exact hp.2
  have two : 2 ≤ left.length := by rw [G.llen]; omega
  have pn : p.toNat < row.length := by omega
  have el : ∀ i, fr (swpW left p) i = swL row.length (fr left) p.toNat i := fun i => by rw [fr_swpW two hp.1 lp, G.llen]
  refine ⟨by rw [swpW_len]; exact G.llen, fun q h => ?_, fun q h => ?_, ?_, ?_, ?_, fun q hq hd => ?_⟩
  · rcases List.mem_append.mp h with h | h
    · exact G.pl q h
    · rw [List.mem_singleton.mp h]; exact hp
  · rcases List.mem_append.mp h with h | h
    · exact G.wt q (List.mem_append_left _ h)
    · rcases List.mem_cons.mp h with e | h
      · rw [e]; exact ⟨Int.emod_nonneg _ (by omega), Int.emod_lt_of_pos _ npos⟩
      · rcases List.mem_cons.mp h with e | h
        · rw [e]; exact ⟨Int.emod_nonneg _ (by omega), Int.emod_lt_of_pos _ npos⟩
        · rw [List.mem_singleton.mp h]; exact hp
  · rw [doneL_snoc]
    have := G.val.sw (by omega) pn
    refine this.congr (fun i _ => ?_) fun i _ => (el i).symm
    rw [fr_swp hp.1 (by rw [dl]; exact hp.2), dl]
  · have h1 := (shi_step (by omega) (by rw [← dl]; exact Rd.row) G.val pn).1 d
    rw [shi_congr fun i _ => el i, h1, List.length_append, List.length_singleton]
    have := G.sum
    omega
  · have := G.wlen
    rw [List.length_append, List.length_singleton] at this
    rw [List.length_append, List.length_append, List.length_singleton]
    simp only [List.length_cons, List.length_nil]
    omega
  · -- a descent behind the exchange: at p - 1, at p + 1, (not at p), or as it was
    rw [el, el] at hd
    by_cases e1 : (q : Int) = (p - 1) % (row.length : Int)
    · rw [e1]; exact List.mem_append_right _ List.mem_cons_self
    · by_cases e2 : (q : Int) = (p + 1) % (row.length : Int)
      · rw [e2]; exact List.mem_append_right _ (List.mem_cons_of_mem _ List.mem_cons_self)
      · by_cases e3 : (q : Int) = p
        · rw [e3]; exact List.mem_append_right _ (List.mem_cons_of_mem _ (List.mem_cons_of_mem _ List.mem_cons_self))
        · obtain ⟨e4, _, _⟩ := nx_int hp.1 hp.2
          have n1 : q ≠ p.toNat := by omega
          have n2 : q ≠ nx row.length p.toNat := by omega
          have n3' : nx row.length q ≠ p.toNat := by
            intro z
            apply e1
            rcases nx_cases hq with ⟨h, e⟩ | ⟨h, e⟩
            · have : p - 1 = (q : Int) := by omega
              rw [this, Int.emod_eq_of_lt (by omega) (by omega)]
            · have : p - 1 = (q : Int) + (row.length : Int) * (-1) := by omega
              rw [this, md_add, Int.emod_eq_of_lt (by omega) (by omega)]
          have n4 : nx row.length q ≠ nx row.length p.toNat := by
            intro z
            rcases nx_cases hq with ⟨h, e⟩ | ⟨h, e⟩ <;> rcases nx_cases pn with ⟨h', e'⟩ | ⟨h', e'⟩ <;> omega
          unfold swL at hd
          rw [if_neg n1, if_neg n2, if_neg n3', if_neg n4] at hd
          rcases List.mem_append.mp (G.down q hq hd) with h | h
          · exact List.mem_append_left _ h
          · exact (e3 (List.mem_singleton.mp h)).elim
/-- the size that falls -/
def goSize (n : Nat) (left waiting : List Int) : Nat := waiting.length + 3 * (shi n (fr left)).toNat
theorem going_less {row ways left found waiting : List Int} {p : Int} (R : IsRow row) (G : Going row ways left found (waiting ++ [p])) (d : fr left (nx row.length p.toNat) < fr left p.toNat) :
    goSize row.length (swpW left p) (waiting ++ [(p - 1) % (row.length : Int), (p + 1) % (row.length : Int), p]) < goSize row.length left (waiting ++ [p]) := by
  have hp := G.wt p (List.mem_append_right _ List.mem_cons_self)
  have n3 := R.three
  have Rd := R.done G.pl
  have dl := doneL_len found row
  have lp : p < (left.length : Int) := by rw [G.llen]; exact hp.2
  have el : ∀ i, fr (swpW left p) i = swL row.length (fr left) p.toNat i := fun i => by rw [fr_swpW (by rw [G.llen]; omega) hp.1 lp, G.llen]
  have h1 := (shi_step (by omega) (by rw [← dl]; exact Rd.row) G.val (show p.toNat < row.length by omega)).1 d
  have h2 := shi_nonneg row.length (swL row.length (fr left) p.toNat)
  unfold goSize
  rw [shi_congr fun i _ => el i]
  rw [h1] at h2 ⊢
  rw [List.length_append, List.length_append, List.length_singleton]
  simp only [List.length_cons, List.length_nil]
  omega
/-- what the exchanges found show -/
structure Found (row ways found : List Int) : Prop where
  pl : plOk row.length found
  home : doneL row found = ids row.length
  num : (found.length : Int) = passesL row ways
theorem Going.found {row ways left found : List Int} (R : IsRow row) (G : Going row ways left found []) : Found row ways found := by
  have hz := home R.row.pos G.val.sum fun p hp => by
    apply Classical.byContradiction
    intro q
    have := G.down p hp (by omega)
    cases this
  have Rd := R.done G.pl
  have dl := doneL_len found row
  refine ⟨G.pl, ?_, ?_⟩
  · have := home_row (by rw [← dl]; exact Rd.row) G.val hz
    have e := eq_ids (l := doneL row found) fun i hi => this i (by omega)
    rwa [dl] at e
  · have := G.sum
    rw [shi_home hz] at this
    omega
end RS
namespace RS
set_option autoImplicit false
/-! ## sums of lists, a row's things -/
theorem S_front (n : Nat) (f : Nat → Int) : S (n + 1) f = f 0 + S n fun i => f (i + 1) := by
  induction n with
  | zero => show (0 : Int) + f 0 = f 0 + 0; omega
  | succ n ih =>
    show S (n + 1) f + f (n + 1) = f 0 + (S n (fun i => f (i + 1)) + f (n + 1))
    rw [ih]; omega
theorem S_sum (l : List Int) : S l.length (fr l) = l.sum := by
  induction l with
  | nil => rfl
  | cons x l ih =>
    rw [List.sum_cons, ← ih, List.length_cons, S_front]
    rfl
theorem S_row {n : Nat} {r : Nat → Int} (R : Row n r) (h : Nat → Int) : S n (fun p => h (r p).toNat) = S n h :=
  S_perm (fun p => (r p).toNat) (fun i hi => by have := R.lo i hi; have := R.hi i hi; omega) (fun i j hi hj e => by
    have := R.lo i hi
    have := R.lo j hj
    exact R.inj i j hi hj (by omega)) h
theorem row_hits {n : Nat} {r : Nat → Int} (R : Row n r) {t : Nat} (ht : t < n) : ∃ p, p < n ∧ r p = t := by
  obtain ⟨i, hi, e⟩ := perm_hits (n := n) (fun p => (r p).toNat) (fun i hi => by have := R.lo i hi; have := R.hi i hi; omega) (fun i j hi hj e => by
    have := R.lo i hi
    have := R.lo j hj
    exact R.inj i j hi hj (by omega)) ht
  have := R.lo i hi
  exact ⟨i, hi, by omega⟩
/-- the ways, thing by thing -/
structure WInv (row ways : List Int) : Prop where
  len : ways.length = row.length
  cong : ∀ p, p < row.length → ((p : Int) + fr ways (fr row p).toNat - fr row p) % (row.length : Int) = 0
  sum : S row.length (fr ways) = 0
theorem winv_start {row ws : List Int} (R : IsRow row) (hl : ws.length = row.length) (h : ∀ j, j < row.length → fr ws (fr row j).toNat = fr row j - j) : WInv row ws := by
  refine ⟨hl, fun p hp => ?_, ?_⟩
  · rw [h p hp, show (p : Int) + (fr row p - p) - fr row p = 0 by omega]
    simp
  · rw [← S_row R.row (fr ws), S_congr h, S_sub]
    have h2 := S_row R.row fun i => (i : Int)
    have : S row.length (fun p => (((fr row p).toNat : Nat) : Int)) = S row.length (fr row) := S_congr fun p hp => by
      have := R.row.lo p hp
      omega
    rw [this] at h2
    have h3 : S row.length (fr row) = S row.length fun i => (i : Int) := h2
    rw [h3]
    exact Int.sub_self _
/-- one round back for the farthest, one round on for the nearest -/
def bal (n : Int) (ws : List Int) (f g : Nat) : List Int := (ws.set f (fr ws f - n)).set g (fr ws g + n)
theorem fr_bal {n : Int} {ws : List Int} {f g : Nat} (hf : f < ws.length) (hg : g < ws.length) (ne : f ≠ g) (i : Nat) : fr (bal n ws f g) i = if i = f then fr ws f - n else if i = g then fr ws g + n else fr ws i := by
  unfold bal
  rw [fr_set (by rw [List.length_set]; exact hg), fr_set hf]
  by_cases h1 : i = f
  · rw [if_neg (by omega), if_pos h1, if_pos h1]
  · rw [if_neg h1, if_neg h1]
theorem bal_len (n : Int) (ws : List Int) (f g : Nat) : (bal n ws f g).length = ws.length := by
  unfold bal
  rw [List.length_set, List.length_set]
theorem winv_step {row ws : List Int} {f g : Nat} (W : WInv row ws) (hf : f < row.length) (hg : g < row.length) (ne : f ≠ g) : WInv row (bal row.length ws f g) := by
  have hf' : f < ws.length := by rw [W.len]; exact hf
  have hg' : g < ws.length := by rw [W.len]; exact hg
  have e := fr_bal (n := row.length) hf' hg' ne
  refine ⟨by rw [bal_len]; exact W.len, fun p hp => ?_, ?_⟩
  · have h0 := W.cong p hp
    rw [e]
    by_cases h1 : (fr row p).toNat = f
    · rw [if_pos h1, ← h1]
      have : (p : Int) + (fr ws (fr row p).toNat - (row.length : Int)) - fr row p = ((p : Int) + fr ws (fr row p).toNat - fr row p) + (row.length : Int) * (-1) := by omega
      rw [this, md_add, h0]
    · rw [if_neg h1]
      by_cases h2 : (fr row p).toNat = g
      · rw [if_pos h2, ← h2]
        have : (p : Int) + (fr ws (fr row p).toNat + (row.length : Int)) - fr row p = ((p : Int) + fr ws (fr row p).toNat - fr row p) + (row.length : Int) * 1 := by omega
        rw [this, md_add, h0]
      · rw [if_neg h2, h0]
  · have h1 := S_ex2 (fr (bal row.length ws f g)) hf hg ne
    have h2 := S_ex2 (fr ws) hf hg ne
    have h3 : S row.length (ex2 f g (fr (bal row.length ws f g))) = S row.length (ex2 f g (fr ws)) := S_congr fun i _ => by
      unfold ex2
      by_cases q : i = f ∨ i = g
      · rw [if_pos q, if_pos q]
      · rw [if_neg q, if_neg q, e, if_neg (by omega), if_neg (by omega)]
    have h4 := W.sum
    rw [e f, e g, if_pos rfl, if_neg (Ne.symm ne), if_pos rfl] at h1
    omega
def wsize (ws : List Int) : Nat := (S ws.length fun i => fr ws i * fr ws i).toNat
theorem wsize_less {n : Int} {ws : List Int} {f g : Nat} (hn : 0 < n) (hf : f < ws.length) (hg : g < ws.length) (ne : f ≠ g) (h : n < fr ws f - fr ws g) : wsize (bal n ws f g) < wsize ws := by
  have e := fr_bal (n := n) hf hg ne
  have h1 := S_ex2 (fun i => fr (bal n ws f g) i * fr (bal n ws f g) i) hf hg ne
  have h2 := S_ex2 (fun i => fr ws i * fr ws i) hf hg ne
  have h3 : S ws.length (ex2 f g fun i => fr (bal n ws f g) i * fr (bal n ws f g) i) = S ws.length (ex2 f g fun i => fr ws i * fr ws i) := S_congr fun i _ => by
    unfold ex2
    by_cases q : i = f ∨ i = g
    · rw [if_pos q, if_pos q]
    · rw [if_neg q, if_neg q]
      dsimp only
      rw [e, if_neg (by omega), if_neg (by omega)]
  have h5 : ∀ l : List Int, 0 ≤ S l.length fun i => fr l i * fr l i := fun l => S_nonneg fun i _ => by
    rcases Int.le_total 0 (fr l i) with z | z
    · exact Int.mul_nonneg z z
    · exact Int.mul_nonneg_of_nonpos_of_nonpos z z
  have h6 := h5 (bal n ws f g)
  rw [e f, e g, if_pos rfl, if_neg (Ne.symm ne), if_pos rfl] at h1
  have e1 : (fr ws f - n) * (fr ws f - n) + (fr ws g + n) * (fr ws g + n) = fr ws f * fr ws f + fr ws g * fr ws g + 2 * (n * (n - (fr ws f - fr ws g))) := by
    simp only [Int.mul_sub, Int.sub_mul, Int.mul_add, Int.add_mul]
    have c1 := Int.mul_comm n (fr ws f)
    have c2 := Int.mul_comm n (fr ws g)
    omega
  have e2 : n * (n - (fr ws f - fr ws g)) ≤ n * (-1) := Int.mul_le_mul_of_nonneg_left (by omega) (by omega)
  unfold wsize
  rw [bal_len] at h6 ⊢
  omega
theorem winv_end {row ws : List Int} (R : IsRow row) (W : WInv row ws) (h : ∀ a b, a < row.length → b < row.length → fr ws a - fr ws b ≤ (row.length : Int)) : NorW row ws := by
  have lt : ∀ p, p < row.length → (fr row p).toNat < row.length := fun p hp => by have := R.row.lo p hp; have := R.row.hi p hp; omega
  refine ⟨W.len, ⟨fun p hp => ?_, ?_⟩, fun i j hi hj => ?_⟩
  · rw [fr_leftL hp]; exact W.cong p hp
  · have : S row.length (fr (leftL row ws)) = S row.length fun p => fr ws (fr row p).toNat := S_congr fun p hp => fr_leftL hp
    rw [this, S_row R.row (fr ws)]
    exact W.sum
  · rw [fr_leftL hi, fr_leftL hj]
    exact h _ _ (lt i hi) (lt j hj)
/-! ## what are_ways asks -/
structure AreWays (row ways : List Int) : Prop where
  len : ways.length = row.length
  sum : ways.sum = 0
  nor : ∀ a ∈ ways, ∀ b ∈ ways, a - b ≤ (row.length : Int)
  cong : ∀ p, p < row.length → ((p : Int) + fr ways (fr row p).toNat - fr row p) % (row.length : Int) = 0
theorem mem_fr {l : List Int} {a : Int} (h : a ∈ l) : ∃ i, i < l.length ∧ fr l i = a := by
  obtain ⟨i, hi, e⟩ := List.getElem_of_mem h
  exact ⟨i, hi, by rw [fr_eq hi]; exact e⟩
theorem fr_mem {l : List Int} {i : Nat} (h : i < l.length) : fr l i ∈ l := by
  rw [fr_eq h]; exact List.getElem_mem h
theorem areWays_nor {row ways : List Int} (R : IsRow row) (A : AreWays row ways) : NorW row ways :=
  winv_end R ⟨A.len, A.cong, by rw [← A.len, S_sum]; exact A.sum⟩ fun a b ha hb => A.nor _ (fr_mem (by rw [A.len]; exact ha)) _ (fr_mem (by rw [A.len]; exact hb))
theorem nor_areWays {row ways : List Int} (R : IsRow row) (W : NorW row ways) : AreWays row ways := by
  refine ⟨W.len, ?_, fun a ha b hb => ?_, fun p hp => ?_⟩
  · rw [← S_sum, W.len, ← S_row R.row (fr ways), ← W.val.sum]
    exact S_congr fun p hp => (fr_leftL hp).symm
  · obtain ⟨i, hi, e⟩ := mem_fr ha
    obtain ⟨j, hj, e'⟩ := mem_fr hb
    obtain ⟨p, hp, ep⟩ := row_hits R.row (t := i) (by rw [← W.len]; exact hi)
    obtain ⟨q, hq, eq⟩ := row_hits R.row (t := j) (by rw [← W.len]; exact hj)
    have := W.nor p q hp hq
    rw [fr_leftL hp, fr_leftL hq, ep, eq, Int.toNat_natCast, Int.toNat_natCast] at this
    have e2 : ways.getD i 0 = a := e
    have e3 : ways.getD j 0 = b := e'
    rw [e2, e3] at this
    exact this
  · have := W.val.cong p hp
    rw [fr_leftL hp] at this
    exact this
/-- a Brought that shows what it tells -/
structure Shows (row swaps ways : List Int) : Prop where
  pl : plOk row.length swaps
  are : AreWays row ways
  home : doneL row swaps = ids row.length
  num : (swaps.length : Int) = passesL row ways
/-- how many a thing's row is apart from order: told by any normal ways -/
def Dist (row : List Int) (k : Int) : Prop := ∃ ways, NorW row ways ∧ passesL row ways = k
theorem dist_same {row : List Int} {k m : Int} (R : IsRow row) (h : Dist row k) (h' : Dist row m) : k = m := by
  obtain ⟨w, W, rfl⟩ := h
  obtain ⟨u, U, rfl⟩ := h'
  exact shi_same R.row W.val W.nor U.val U.nor
theorem passes_same {row w u : List Int} (R : IsRow row) (W : NorW row w) (U : NorW row u) : passesL row w = passesL row u := shi_same R.row W.val W.nor U.val U.nor
theorem passes_most {row w : List Int} (R : IsRow row) (W : NorW row w) : passesL row w ≤ ((row.length : Int) * row.length) / 4 := shi_most R.row W.val W.nor
theorem passes_nonneg (row w : List Int) : 0 ≤ passesL row w := shi_nonneg _ _
theorem isRow_of_decide {l : List Int} (h : 3 ≤ l.length ∧ (∀ p, p < l.length → 0 ≤ fr l p ∧ fr l p < l.length) ∧ ∀ p, p < l.length → ∀ q, q < l.length → fr l p = fr l q → p = q) : IsRow l :=
  ⟨h.1, ⟨by omega, fun p hp => (h.2.1 p hp).1, fun p hp => (h.2.1 p hp).2, fun p q hp hq => h.2.2 p hp q hq⟩⟩
theorem areWays_of_decide {row ways : List Int} (h : ways.length = row.length ∧ ways.sum = 0 ∧ (∀ a ∈ ways, ∀ b ∈ ways, a - b ≤ (row.length : Int)) ∧ ∀ p, p < row.length → ((p : Int) + fr ways (fr row p).toNat - fr row p) % (row.length : Int) = 0) : AreWays row ways :=
  ⟨h.1, h.2.1, h.2.2.1, h.2.2.2⟩
end RS
namespace RS
set_option autoImplicit false
theorem ids_nodup (n : Nat) : (ids n).Nodup := by
  unfold ids
  refine List.Pairwise.map _ (fun a b h => ?_) List.nodup_range
  intro e
  exact h (by omega)
theorem ids_sorted (n : Nat) : (ids n).Pairwise (· ≤ ·) := by
  unfold ids
  refine List.Pairwise.map (R := fun a b : Nat => a < b) _ (fun a b h => ?_) List.pairwise_lt_range
  show (a : Int) ≤ b
  omega
theorem mem_ids {n : Nat} {x : Int} : x ∈ ids n ↔ 0 ≤ x ∧ x < n := by
  unfold ids
  constructor
  · intro h
    obtain ⟨i, hi, rfl⟩ := List.mem_map.mp h
    have := List.mem_range.mp hi
    omega
  · intro h
    exact List.mem_map.mpr ⟨x.toNat, List.mem_range.mpr (by omega), by omega⟩
theorem row_nodup {n : Nat} {l : List Int} (hn : n = l.length) (R : Row n (fr l)) : l.Nodup := by
  subst hn
  refine List.pairwise_iff_getElem.mpr fun i j hi hj lt e => ?_
  have := R.inj i j hi hj (by rw [fr_eq hi, fr_eq hj]; exact e)
  omega
theorem row_perm {l : List Int} (R : Row l.length (fr l)) : l.Perm (ids l.length) := by
  rw [List.perm_iff_count]
  intro a
  rw [(row_nodup rfl R).count, (ids_nodup _).count]
  have : a ∈ l ↔ a ∈ ids l.length := by
    rw [mem_ids]
    constructor
    · intro h
      obtain ⟨i, hi, rfl⟩ := mem_fr h
      exact ⟨R.lo i hi, R.hi i hi⟩
    · intro h
      obtain ⟨p, hp, e⟩ := row_hits R (t := a.toNat) (by omega)
      have : a = fr l p := by omega
      rw [this]
      exact fr_mem hp
  by_cases h : a ∈ l
  · rw [if_pos h, if_pos (this.mp h)]
  · rw [if_neg h, if_neg (fun z => h (this.mpr z))]
theorem perm_row {l : List Int} (hp : 0 < l.length) (h : l.Perm (ids l.length)) : Row l.length (fr l) := by
  have nd : l.Nodup := (h.symm).nodup (ids_nodup _)
  have m : ∀ p, p < l.length → 0 ≤ fr l p ∧ fr l p < l.length := fun p hp => mem_ids.mp (h.mem_iff.mp (fr_mem hp))
  refine ⟨hp, fun p hp => (m p hp).1, fun p hp => (m p hp).2, fun p q hp hq e => ?_⟩
  rw [fr_eq hp, fr_eq hq] at e
  exact (List.getElem_inj nd).mp e
/-- what sorted(row) == list(range(len(row))) tells -/
theorem sorted_row {l s : List Int} (hp : 0 < l.length) (h : s.Perm l) (hs : s.Pairwise (· ≤ ·)) : s = ids l.length ↔ Row l.length (fr l) := by
  constructor
  · intro e
    subst e
    exact perm_row hp h.symm
  · intro R
    exact (h.trans (row_perm R)).eq_of_pairwise (fun a b _ _ h1 h2 => Int.le_antisymm h1 h2) hs (ids_sorted _)

theorem isRow_perm {l : List Int} (h3 : 3 ≤ l.length) (h : l.Perm (ids l.length)) : IsRow l := ⟨h3, perm_row (by omega) h⟩
theorem IsRow.perm {l : List Int} (R : IsRow l) : l.Perm (ids l.length) := row_perm R.row
theorem IsRow.of_perm {l m : List Int} (R : IsRow l) (h : m.Perm l) : IsRow m := isRow_perm (by rw [h.length_eq]; exact R.three) (by rw [h.length_eq]; exact h.trans R.perm)
def rot (l : List Int) (k : Nat) : List Int := l.drop k ++ l.take k
theorem rot_perm (l : List Int) (k : Nat) : (rot l k).Perm l := by
  unfold rot
  refine List.perm_append_comm.trans ?_
  rw [List.take_append_drop]
theorem rot_len (l : List Int) (k : Nat) : (rot l k).length = l.length := (rot_perm l k).length_eq
theorem IsRow.rot {l : List Int} (R : IsRow l) (k : Nat) : IsRow (rot l k) := R.of_perm (rot_perm l k)
theorem IsRow.reverse {l : List Int} (R : IsRow l) : IsRow l.reverse := R.of_perm (List.reverse_perm l)
theorem ids_succ (n : Nat) : ids (n + 1) = ids n ++ [(n : Int)] := by
  unfold ids
  rw [List.range_succ, List.map_append]; rfl
theorem ins_perm {l : List Int} {i k : Nat} (h : l.Perm (ids i)) : (l.take k ++ [(i : Int)] ++ l.drop k).Perm (ids (i + 1)) := by
  rw [ids_succ]
  have h1 : (l.take k ++ [(i : Int)] ++ l.drop k).Perm ((l.take k ++ l.drop k) ++ [(i : Int)]) := by
    rw [List.append_assoc, List.append_assoc]
    exact List.Perm.append_left _ List.perm_append_comm
  rw [List.take_append_drop] at h1
  exact h1.trans (h.append_right _)
/-! ## great numbers: how many bits -/
def BB (n : Int) : Prop := ∃ m : Nat, m ≤ 2000000 ∧ n.natAbs < 2 ^ m
theorem BB.small {n : Int} (h : n.natAbs < 1048576) : BB n := ⟨20, by omega, by omega⟩
theorem BB.pair {a b : Int} (A : BB a) (B : BB b) : ∃ m k : Nat, m + k ≤ 100000000 ∧ a.natAbs < 2 ^ m ∧ b.natAbs < 2 ^ k := by
  obtain ⟨m, h1, h2⟩ := A
  obtain ⟨k, h3, h4⟩ := B
  exact ⟨m, k, by omega, h2, h4⟩
structure BM (M : Nat) (n : Int) : Prop where
  ex : ∃ m : Nat, m ≤ M ∧ n.natAbs < 2 ^ m
theorem BM.add {M : Nat} {a c : Int} (A : BM M a) (hM : M ≤ 1999999) (hc : c.natAbs < 1048576) : BB (a + c) := by
  obtain ⟨m, h1, h2⟩ := A.ex
  by_cases e : m ≤ 20
  · refine ⟨21, by omega, ?_⟩
    have : (2 : Nat) ^ m ≤ 2 ^ 20 := Nat.pow_le_pow_right (by omega) e
    have e2 : (2 : Nat) ^ 20 = 1048576 := by decide
    have e3 : (2 : Nat) ^ 21 = 2097152 := by decide
    omega
  · refine ⟨m + 1, by omega, ?_⟩
    have : (2 : Nat) ^ 20 ≤ 2 ^ m := Nat.pow_le_pow_right (by omega) (by omega)
    have e2 : (2 : Nat) ^ 20 = 1048576 := by decide
    rw [Nat.pow_succ]
    omega
end RS
namespace RS
set_option autoImplicit false
/-- a row in order: its normal ways are noughts -/
theorem nor_id {row ws : List Int} (R : IsRow row) (W : NorW row ws) (e : ∀ p, p < row.length → fr row p = p) : (∀ p, p < row.length → fr ws p = 0) ∧ passesL row ws = 0 := by
  have npos : (0 : Int) < row.length := by have := R.three; omega
  have z : ∀ p, p < row.length → fr (leftL row ws) p = (row.length : Int) * (fr (leftL row ws) p / (row.length : Int)) := fun p hp => by
    have h1 := W.val.cong p hp
    rw [e p hp] at h1
    have h2 : (p : Int) + fr (leftL row ws) p - p = fr (leftL row ws) p := by omega
    rw [h2] at h1
    have := Int.mul_ediv_add_emod (fr (leftL row ws) p) (row.length : Int)
    omega
  have mono : ∀ a b : Int, 1 ≤ a - b → (row.length : Int) ≤ (row.length : Int) * a - (row.length : Int) * b := fun a b h => by
    have := Int.mul_le_mul_of_nonneg_left h (show (0 : Int) ≤ row.length by omega)
    rw [Int.mul_sub] at this
    omega
  have zero : ∀ p, p < row.length → fr (leftL row ws) p = 0 := by
    intro p hp
    apply Classical.byContradiction
    intro ne
    rcases Int.lt_trichotomy (fr (leftL row ws) p) 0 with lt | eq | gt
    · have hz : fr (leftL row ws) p / (row.length : Int) ≤ -1 := by
        have := Int.ediv_neg_of_neg_of_pos lt npos
        omega
      have all : ∀ q, q < row.length → fr (leftL row ws) q ≤ 0 := fun q hq => by
        apply Classical.byContradiction
        intro h
        have h2 : 1 ≤ fr (leftL row ws) q / (row.length : Int) := by
          apply Classical.byContradiction
          intro h3
          have := Int.mul_le_mul_of_nonneg_left (show fr (leftL row ws) q / (row.length : Int) ≤ 0 by omega) (show (0 : Int) ≤ row.length by omega)
          have := z q hq
          omega
        have h4 := W.nor q p hq hp
        have h5 := mono (fr (leftL row ws) q / (row.length : Int) - 1) (fr (leftL row ws) p / (row.length : Int)) (by omega)
        rw [Int.mul_sub] at h5
        have := z p hp
        have := z q hq
        omega
      have := S_tight (f := fr (leftL row ws)) (g := fun _ => 0) all (by rw [S_zero, W.val.sum]; exact Int.le_refl _) p hp
      omega
    · exact ne eq
    · have hz : 1 ≤ fr (leftL row ws) p / (row.length : Int) := by
        apply Classical.byContradiction
        intro h3
        have := Int.mul_le_mul_of_nonneg_left (show fr (leftL row ws) p / (row.length : Int) ≤ 0 by omega) (show (0 : Int) ≤ row.length by omega)
        have := z p hp
        omega
      have all : ∀ q, q < row.length → 0 ≤ fr (leftL row ws) q := fun q hq => by
        apply Classical.byContradiction
        intro h
        have h2 : fr (leftL row ws) q / (row.length : Int) ≤ -1 := by
          have := Int.ediv_neg_of_neg_of_pos (show fr (leftL row ws) q < 0 by omega) npos
          omega
        have h4 := W.nor p q hp hq
        have h5 := mono (fr (leftL row ws) p / (row.length : Int) - 1) (fr (leftL row ws) q / (row.length : Int)) (by omega)
        rw [Int.mul_sub] at h5
        have := z p hp
        have := z q hq
        omega
      have := S_tight (f := fun _ => 0) (g := fr (leftL row ws)) all (by rw [S_zero, W.val.sum]; exact Int.le_refl _) p hp
      omega
  refine ⟨fun p hp => ?_, shi_home zero⟩
  have h := zero p hp
  rw [fr_leftL hp, e p hp] at h
  exact h
theorem isRow_4 : IsRow [0, 1, 2, 3] := isRow_of_decide (by decide)
theorem isRow_4' : IsRow [1, 2, 3, 0] := isRow_of_decide (by decide)
theorem told_4 {ws fs : List Int} (W : NorW [0, 1, 2, 3] ws) (F : Found [0, 1, 2, 3] ws fs) : fs = [] ∧ ws = [0, 0, 0, 0] := by
  obtain ⟨h1, h2⟩ := nor_id isRow_4 W (by decide)
  constructor
  · have := F.num
    rw [h2] at this
    exact List.length_eq_zero_iff.mp (by omega)
  · refine ext_fr W.len fun i hi => ?_
    have hl : ws.length = 4 := W.len
    rw [h1 i (by have := W.len; omega)]
    have : ∀ i, i < 4 → (0 : Int) = fr [0, 0, 0, 0] i := by decide
    exact this i (by omega)
theorem told_4' {ws fs : List Int} (W : NorW [1, 2, 3, 0] ws) (F : Found [1, 2, 3, 0] ws fs) : fs.length = 3 := by
  have h := passes_same isRow_4' W (areWays_nor isRow_4' (areWays_of_decide (ways := [-3, 1, 1, 1]) (by decide)))
  have e : passesL [1, 2, 3, 0] [-3, 1, 1, 1] = 3 := by decide
  have := F.num
  omega
end RS
namespace RS
set_option autoImplicit false
theorem isRow_102 : IsRow [1, 0, 2] := isRow_perm (by decide) (by decide)
theorem isRow_012 : IsRow [0, 1, 2] := isRow_perm (by decide) (by decide)
theorem isRow_210 : IsRow [2, 1, 0] := isRow_perm (by decide) (by decide)
theorem shows_g1 : Shows [1, 0, 2] [0] [-1, 1, 0] := ⟨by unfold plOk; decide, ⟨by decide, by decide, by decide, by decide⟩, by decide, by decide⟩
theorem shows_g2 : Shows [0, 1, 2] [] [0, 0, 0] := ⟨by unfold plOk; decide, ⟨by decide, by decide, by decide, by decide⟩, by decide, by decide⟩
theorem shows_g3 : Shows [2, 1, 0] [2] [1, 0, -1] := ⟨by unfold plOk; decide, ⟨by decide, by decide, by decide, by decide⟩, by decide, by decide⟩
theorem shows_b1 : ¬ Shows [1, 0, 2] [0, 1, 1] [-1, 1, 0] := fun h => absurd h.num (by decide)
theorem shows_b2 : ¬ Shows [1, 0, 2] [0] [1, -1, 0] := fun h => absurd h.are.cong (by decide)
theorem shows_b3 : ¬ Shows [0, 1, 2] [0, 0] [0, 0, 0] := fun h => absurd h.num (by decide)
theorem shows_b4 : ¬ Shows [0, 1, 2] [] [3, 0, -3] := fun h => absurd h.are.nor (by decide)
theorem shows_b5 : ¬ Shows [2, 1, 0] [0, 1, 0] [-2, 0, 2] := fun h => absurd h.are.nor (by decide)
end RS
set_option Elab.async false
set_option linter.all false
set_option maxRecDepth 100000
namespace Toy
open PySem L2
/-! ### the text by places -/
def top (i : Nat) : Stmt := PySem.Challenge.pw_ringswap_k04_answers_by_hand.main.body.getD i (.Pass ⟨0, 0, 0, 0⟩)
abbrev s_is_whole : Stmt := top 4
abbrev s_check_row : Stmt := top 5
abbrev s_are_places : Stmt := top 6
abbrev s_behind : Stmt := top 7
abbrev s_passes : Stmt := top 10
abbrev s_are_ways : Stmt := top 11
abbrev s_B_init : Stmt := inClass (top 12) 0
abbrev s_B_shows : Stmt := inClass (top 12) 1
abbrev s_ways_of : Stmt := top 14
abbrev s_swaps_by : Stmt := top 15
abbrev s_way_of : Stmt := top 16
abbrev s_brought : Stmt := top 17
abbrev s_l_cell_at : Stmt := top 19
abbrev s_l_draw : Stmt := top 20
abbrev s_l_number : Stmt := top 21
abbrev s_l_order : Stmt := top 22
abbrev s_l_turned : Stmt := top 23
abbrev s_l_done : Stmt := top 24
abbrev s_l_row : Stmt := top 25
abbrev s_l_passes : Stmt := top 26
abbrev s_l_whole : Stmt := top 27
abbrev s_l_due : Stmt := top 28
abbrev s_l_says : Stmt := top 29
abbrev s_l_bent : Stmt := top 30
abbrev s_l_around : Stmt := top 31
abbrev s_l_made_right : Stmt := top 32
abbrev s_law : Stmt := top 33
theorem sc_is_whole : FnScope ["thing"] ["thing"] (defScope s_is_whole) := ⟨rfl, rfl, rfl, by decide +kernel, rfl, by decide +kernel, by decide +kernel⟩
theorem sc_check_row : FnScope ["row", "thing"] ["row"] (defScope s_check_row) := ⟨rfl, rfl, rfl, by decide +kernel, rfl, by decide +kernel, by decide +kernel⟩
theorem sc_are_places : FnScope ["swaps", "many", "place"] ["swaps", "many"] (defScope s_are_places) := ⟨rfl, rfl, rfl, by decide +kernel, rfl, by decide +kernel, by decide +kernel⟩
theorem sc_behind : FnScope ["row", "swaps", "found", "place", "after"] ["row", "swaps"] (defScope s_behind) := ⟨rfl, rfl, rfl, by decide +kernel, rfl, by decide +kernel, by decide +kernel⟩
theorem sc_passes : FnScope ["row", "ways", "found", "later", "place"] ["row", "ways"] (defScope s_passes) := ⟨rfl, rfl, rfl, by decide +kernel, rfl, by decide +kernel, by decide +kernel⟩
theorem sc_are_ways : FnScope ["row", "ways", "place", "thing", "way"] ["row", "ways"] (defScope s_are_ways) := ⟨rfl, rfl, rfl, by decide +kernel, rfl, by decide +kernel, by decide +kernel⟩
theorem sc_B_init : FnScope ["self", "swaps", "ways"] ["self", "swaps", "ways"] (defScope s_B_init) := ⟨rfl, rfl, rfl, by decide +kernel, rfl, by decide +kernel, by decide +kernel⟩
theorem sc_B_shows : FnScope ["self", "row"] ["self", "row"] (defScope s_B_shows) := ⟨rfl, rfl, rfl, by decide +kernel, rfl, by decide +kernel, by decide +kernel⟩
theorem sc_ways_of : FnScope ["row", "many", "ways", "place", "thing", "far", "near"] ["row"] (defScope s_ways_of) := ⟨rfl, rfl, rfl, by decide +kernel, rfl, by decide +kernel, by decide +kernel⟩
theorem sc_swaps_by : FnScope ["row", "ways", "many", "left", "found", "waiting", "place", "after", "thing"] ["row", "ways"] (defScope s_swaps_by) := ⟨rfl, rfl, rfl, by decide +kernel, rfl, by decide +kernel, by decide +kernel⟩
theorem sc_way_of : FnScope ["row", "ways"] ["row"] (defScope s_way_of) := ⟨rfl, rfl, rfl, by decide +kernel, rfl, by decide +kernel, by decide +kernel⟩
theorem sc_brought : FnScope ["row", "swaps", "ways"] ["row"] (defScope s_brought) := ⟨rfl, rfl, rfl, by decide +kernel, rfl, by decide +kernel, by decide +kernel⟩
theorem sc_l_cell_at : FnScope ["_law_script", "_law_k"] ["_law_script", "_law_k"] (defScope s_l_cell_at) := ⟨rfl, rfl, rfl, by decide +kernel, rfl, by decide +kernel, by decide +kernel⟩
theorem sc_l_draw : FnScope ["_law_cell", "_law_k", "_law_many", "_law_primes"] ["_law_cell", "_law_k", "_law_many"] (defScope s_l_draw) := ⟨rfl, rfl, rfl, by decide +kernel, rfl, by decide +kernel, by decide +kernel⟩
theorem sc_l_number : FnScope ["_law_cell", "_law_k"] ["_law_cell", "_law_k"] (defScope s_l_number) := ⟨rfl, rfl, rfl, by decide +kernel, rfl, by decide +kernel, by decide +kernel⟩
theorem sc_l_order : FnScope ["_law_script", "_law_by", "_law_found", "_law_k"] ["_law_script", "_law_by"] (defScope s_l_order) := ⟨rfl, rfl, rfl, by decide +kernel, rfl, by decide +kernel, by decide +kernel⟩
theorem sc_l_turned : FnScope ["_law_row_here", "_law_by", "_law_at"] ["_law_row_here", "_law_by"] (defScope s_l_turned) := ⟨rfl, rfl, rfl, by decide +kernel, rfl, by decide +kernel, by decide +kernel⟩
theorem sc_l_done : FnScope ["_law_row_here", "_law_swaps", "_law_found", "_law_place", "_law_after"] ["_law_row_here", "_law_swaps"] (defScope s_l_done) := ⟨rfl, rfl, rfl, by decide +kernel, rfl, by decide +kernel, by decide +kernel⟩
theorem sc_l_row : FnScope ["_law_script", "_law_kind", "_law_row_here", "_law_size", "_law_by", "_law_k", "_law_cell"] ["_law_script"] (defScope s_l_row) := ⟨rfl, rfl, rfl, by decide +kernel, rfl, by decide +kernel, by decide +kernel⟩
theorem sc_l_passes : FnScope ["_law_row_here", "_law_ways", "_law_size", "_law_found", "_law_later", "_law_place", "_law_more"] ["_law_row_here", "_law_ways"] (defScope s_l_passes) := ⟨rfl, rfl, rfl, by decide +kernel, rfl, by decide +kernel, by decide +kernel⟩
theorem sc_l_whole : FnScope ["_law_number_here"] ["_law_number_here"] (defScope s_l_whole) := ⟨rfl, rfl, rfl, by decide +kernel, rfl, by decide +kernel, by decide +kernel⟩
theorem sc_l_due : FnScope ["_law_row_here", "_law_swaps", "_law_ways", "_law_size", "_law_place", "_law_thing", "_law_way"] ["_law_row_here", "_law_swaps", "_law_ways"] (defScope s_l_due) := ⟨rfl, rfl, rfl, by decide +kernel, rfl, by decide +kernel, by decide +kernel⟩
theorem sc_l_says : FnScope ["_law_said", "_law_due_here"] ["_law_said", "_law_due_here"] (defScope s_l_says) := ⟨rfl, rfl, rfl, by decide +kernel, rfl, by decide +kernel, by decide +kernel⟩
theorem sc_l_bent : FnScope ["_law_some", "_law_cell", "_law_strange", "_law_kind", "_law_found", "_law_at", "_law_other"] ["_law_some", "_law_cell", "_law_strange"] (defScope s_l_bent) := ⟨rfl, rfl, rfl, by decide +kernel, rfl, by decide +kernel, by decide +kernel⟩
theorem sc_l_around : FnScope ["_law_ways", "_law_size", "_law_cell", "_law_found"] ["_law_ways", "_law_size", "_law_cell"] (defScope s_l_around) := ⟨rfl, rfl, rfl, by decide +kernel, rfl, by decide +kernel, by decide +kernel⟩
theorem sc_l_made_right : FnScope ["_law_row_here", "_law_swaps", "_law_ways", "_law_handed", "_law_made"] ["_law_row_here", "_law_swaps", "_law_ways"] (defScope s_l_made_right) := ⟨rfl, rfl, rfl, by decide +kernel, rfl, by decide +kernel, by decide +kernel⟩
theorem sc_law : FnScope ["_law_script", "_law_row_here", "_law_size", "_law_found", "_law_ways", "_law_k", "_law_cell", "_law_strange", "_law_some", "_law_swaps", "_law_bent_here", "_law_rounds", "_law_told", "_law_good", "_law_bad", "_law_place", "_law_thing", "_law_way"] ["_law_script"] (defScope s_law) := ⟨rfl, rfl, rfl, by decide +kernel, rfl, by decide +kernel, by decide +kernel⟩
/-- a def of the text as the top has left it -/
structure At (K : PySem.W.Frag) (mg : Str → Option Value) (x : Str) (ps : List Str) (st : Stmt) (f : Addr) (fd : FuncData) : Prop where
  F : Fun K x x st f fd
  b : Binds K fd ps []
  g : mg x = some (.ref f)
structure AtM (K : PySem.W.Frag) (C : Addr) (x qual : Str) (ps : List Str) (st : Stmt) (f : Addr) (fd : FuncData) : Prop where
  F : Fun K x qual st f fd
  b : Binds K fd ps []
  m : PySem.W.findIn K (.ref C) x = some (some (.ref f))
  i : PySem.W.isFn K (.ref f) = true
structure Txt (K : PySem.W.Frag) (mg : Str → Option Value) where
  f_is_whole : Addr
  d_is_whole : FuncData
  f_check_row : Addr
  d_check_row : FuncData
  f_are_places : Addr
  d_are_places : FuncData
  f_behind : Addr
  d_behind : FuncData
  f_passes : Addr
  d_passes : FuncData
  f_are_ways : Addr
  d_are_ways : FuncData
  f_B_init : Addr
  d_B_init : FuncData
  f_B_shows : Addr
  d_B_shows : FuncData
  f_ways_of : Addr
  d_ways_of : FuncData
  f_swaps_by : Addr
  d_swaps_by : FuncData
  f_way_of : Addr
  d_way_of : FuncData
  f_brought : Addr
  d_brought : FuncData
  f_l_cell_at : Addr
  d_l_cell_at : FuncData
  f_l_draw : Addr
  d_l_draw : FuncData
  f_l_number : Addr
  d_l_number : FuncData
  f_l_order : Addr
  d_l_order : FuncData
  f_l_turned : Addr
  d_l_turned : FuncData
  f_l_done : Addr
  d_l_done : FuncData
  f_l_row : Addr
  d_l_row : FuncData
  f_l_passes : Addr
  d_l_passes : FuncData
  f_l_whole : Addr
  d_l_whole : FuncData
  f_l_due : Addr
  d_l_due : FuncData
  f_l_says : Addr
  d_l_says : FuncData
  f_l_bent : Addr
  d_l_bent : FuncData
  f_l_around : Addr
  d_l_around : FuncData
  f_l_made_right : Addr
  d_l_made_right : FuncData
  f_law : Addr
  d_law : FuncData
  C : Addr
  cl : Cls K C
  mkC : PySem.W.makesIn K C = true
  kC : PySem.W.keepIn K (.ref C) = true
  gC : mg "Brought" = some (.ref C)
  nS : NoAttr K C "swaps"
  nW : NoAttr K C "ways"
  a_is_whole : At K mg "is_whole" ["thing"] s_is_whole f_is_whole d_is_whole
  a_check_row : At K mg "check_row" ["row"] s_check_row f_check_row d_check_row
  a_are_places : At K mg "are_places" ["swaps", "many"] s_are_places f_are_places d_are_places
  a_behind : At K mg "behind" ["row", "swaps"] s_behind f_behind d_behind
  a_passes : At K mg "passes" ["row", "ways"] s_passes f_passes d_passes
  a_are_ways : At K mg "are_ways" ["row", "ways"] s_are_ways f_are_ways d_are_ways
  a_B_init : AtM K C "__init__" "Brought.__init__" ["self", "swaps", "ways"] s_B_init f_B_init d_B_init
  a_B_shows : AtM K C "shows" "Brought.shows" ["self", "row"] s_B_shows f_B_shows d_B_shows
  a_ways_of : At K mg "ways_of" ["row"] s_ways_of f_ways_of d_ways_of
  a_swaps_by : At K mg "swaps_by" ["row", "ways"] s_swaps_by f_swaps_by d_swaps_by
  a_way_of : At K mg "way_of" ["row"] s_way_of f_way_of d_way_of
  a_brought : At K mg "brought" ["row"] s_brought f_brought d_brought
  a_l_cell_at : At K mg "_law_cell_at" ["_law_script", "_law_k"] s_l_cell_at f_l_cell_at d_l_cell_at
  a_l_draw : At K mg "_law_draw" ["_law_cell", "_law_k", "_law_many"] s_l_draw f_l_draw d_l_draw
  a_l_number : At K mg "_law_number" ["_law_cell", "_law_k"] s_l_number f_l_number d_l_number
  a_l_order : At K mg "_law_order" ["_law_script", "_law_by"] s_l_order f_l_order d_l_order
  a_l_turned : At K mg "_law_turned" ["_law_row_here", "_law_by"] s_l_turned f_l_turned d_l_turned
  a_l_done : At K mg "_law_done" ["_law_row_here", "_law_swaps"] s_l_done f_l_done d_l_done
  a_l_row : At K mg "_law_row" ["_law_script"] s_l_row f_l_row d_l_row
  a_l_passes : At K mg "_law_passes" ["_law_row_here", "_law_ways"] s_l_passes f_l_passes d_l_passes
  a_l_whole : At K mg "_law_whole" ["_law_number_here"] s_l_whole f_l_whole d_l_whole
  a_l_due : At K mg "_law_due" ["_law_row_here", "_law_swaps", "_law_ways"] s_l_due f_l_due d_l_due
  a_l_says : At K mg "_law_says" ["_law_said", "_law_due_here"] s_l_says f_l_says d_l_says
  a_l_bent : At K mg "_law_bent" ["_law_some", "_law_cell", "_law_strange"] s_l_bent f_l_bent d_l_bent
  a_l_around : At K mg "_law_around" ["_law_ways", "_law_size", "_law_cell"] s_l_around f_l_around d_l_around
  a_l_made_right : At K mg "_law_made_right" ["_law_row_here", "_law_swaps", "_law_ways"] s_l_made_right f_l_made_right d_l_made_right
  a_law : At K mg "law" ["_law_script"] s_law f_law d_law
  z_isinstance : mg "isinstance" = none
  z_int : mg "int" = none
  z_bool : mg "bool" = none
  z_sorted : mg "sorted" = none
  z_list : mg "list" = none
  z_len : mg "len" = none
  z_all : mg "all" = none
  z_range : mg "range" = none
  z_abs : mg "abs" = none
  z_sum : mg "sum" = none
  z_max : mg "max" = none
  z_min : mg "min" = none
  z_enumerate : mg "enumerate" = none
end Toy
set_option Elab.async false
set_option linter.all false
set_option maxRecDepth 100000
set_option maxHeartbeats 4000000
namespace Toy
open PySem L2
/-! ## small words for the walk -/
abbrev vi (l : List Int) : List V := l.map V.int
theorem vi_get {l : List Int} {i : Nat} {z : V} (h : (vi l)[i]? = some z) : i < l.length ∧ z = V.int (RS.fr l i) := by
  rw [List.getElem?_map] at h
  cases e : l[i]? with
  | none =>
    rw [e] at h
    cases h
  | some x =>
    rw [e] at h
    have hi := (List.getElem?_eq_some_iff.mp e).1
    refine ⟨hi, ?_⟩
    have e2 : l[i] = x := (List.getElem?_eq_some_iff.mp e).2
    rw [RS.fr_eq hi, e2]
    exact (Option.some.inj h).symm
theorem vi_some {l : List Int} {i : Nat} (h : i < l.length) : (vi l)[i]? = some (V.int (RS.fr l i)) := by
  rw [List.getElem?_map, List.getElem?_eq_getElem h, RS.fr_eq h]; rfl
theorem vi_len (l : List Int) : (vi l).length = l.length := List.length_map _
theorem vi_set (l : List Int) (j : Nat) (x : Int) : (vi l).set j (.int x) = vi (l.set j x) := List.map_set.symm
theorem vi_app (l m : List Int) : vi l ++ vi m = vi (l ++ m) := List.map_append.symm
theorem vi_snoc (l : List Int) (x : Int) : vi l ++ [V.int x] = vi (l ++ [x]) := vi_app l [x]
theorem at_vi {l : List Int} {i : Int} (h0 : 0 ≤ i) (h : i < l.length) : atI (vi l) i = some (V.int (RS.fr l i.toNat)) := by
  have e : i = ((i.toNat : Nat) : Int) := by omega
  rw [e, Int.toNat_natCast]
  exact atI_nat (vi_some (by omega))
theorem ix_vi {l : List Int} {i : Int} (h0 : 0 ≤ i) (h : i < l.length) : ixN (vi l).length i = some i.toNat := by
  rw [vi_len]
  unfold ixN
  rw [if_pos h0, if_pos h]
theorem same_new {H H' : Hp} {p : Addr} {o : HO} (s : Same H H') (h : H' p = none) : Same H (upd H' p o) := fun b u e => by
  rw [upd_ne (ne_of_none (s b u e) h)]
  exact s b u e
theorem same_mut {H H' : Hp} {p : Addr} {o : HO} (s : Same H H') (h : H p = none) : Same H (upd H' p o) := fun b u e => by
  rw [upd_ne (ne_of_none e h)]
  exact s b u e
theorem same_lst {H H' : Hp} {p : Addr} {o : HO} (s : Same H H') (h : H p = some o) : H' p = some o := s p o h
theorem size_le {n : Nat} (h : n ≤ 100000) : n ≤ sizeLine := Nat.le_trans h (by decide)
theorem size_lt {n : Nat} (h : n < 100000) : n < sizeLine := Nat.lt_of_lt_of_le h (by decide)
/-- a list's item, to be stored back -/
theorem get_list {X : Cx} : PGet X (rIxL X.K) := by
  intro pins s σ H o i ov iv Q I ro ri h
  obtain ⟨p, xs, k, z, rfl, rfl, hq, he, q⟩ := h
  cases ro
  obtain ⟨t, rfl⟩ := ri
  obtain ⟨its, r, pl, hz⟩ := I.list hq
  obtain ⟨j, h1, h2, h3, h4, h5⟩ := atI_get he
  obtain ⟨w, ew, rw'⟩ := r.get h2
  have hl := r.length
  have hn := line63
  have fin : EP X pins σ Q w s := ⟨z, H, I, rw', q⟩
  by_cases h0 : 0 ≤ k
  · have hj : k.toNat = j := by
      rw [seqIndex_of h0 h5] at h1
      exact Option.some.inj h1
    exact wpAny_getItem_list pl.isList h0 (by omega) (by rw [hj]; simpa using ew) fin
  · have hj : (k + (its.toArray.size : Int)).toNat = j := by
      rw [seqIndex_neg (by omega) h4] at h1
      rw [List.size_toArray, ← hl]
      exact Option.some.inj h1
    exact wpAny_getItem_list_neg pl.isList (by omega) (by rw [List.size_toArray] <;> omega) (by omega) (by rw [hj]; simpa using ew) fin
theorem fmod_pos {a n : Int} (h : 0 < n) : a.fmod n = a % n := Int.fmod_eq_emod_of_nonneg a (by omega)
theorem fdiv_pos {a n : Int} (h : 0 < n) : a.fdiv n = a / n := Int.fdiv_eq_ediv_of_nonneg a (by omega)
theorem rgV_ids {n : Nat} : rgV 0 (n : Int) = vi (RS.ids n) := by
  unfold rgV vi RS.ids
  rw [List.map_map]
  have : ((n : Int) - 0).toNat = n := by omega
  rw [this]
  refine List.map_congr_left fun i _ => ?_
  show V.int (0 + (i : Int)) = V.int (i : Int)
  rw [Int.zero_add]
theorem rgOk_n {n : Nat} (h : n ≤ 100000) : RgOk 0 (n : Int) := RgOk.of_le (by omega) (by omega) (by omega) (by omega)

/-! ## the rules again, over lists of ints, the answer by an equation -/
section
variable {X : Cx}
theorem OpR.imp {f : Value → Value → Sem Value} {r r' : R2} (h : OpR X f r) (k : ∀ x y H Q, r' x y H Q → r x y H Q) : OpR X f r' := fun pins s σ H x y v u Q I rx ry q => h pins s σ H x y v u Q I rx ry (k x y H Q q)
theorem IxR.imp {r r' : R2} (h : IxR X r) (k : ∀ x y H Q, r' x y H Q → r x y H Q) : IxR X r' := fun value slice pins s σ H x y v u Q I rx ry q hs => h value slice pins s σ H x y v u Q I rx ry (k x y H Q q) hs
theorem CallR.imp {f : Value} {r r' : List V → Hp → VK → Prop} (h : CallR X f r) (k : ∀ xs H Q, r' xs H Q → r xs H Q) : CallR X f r' := fun pins s σ H xs us Q I rs q => h pins s σ H xs us Q I rs (k xs H Q q)
theorem MtM.imp {id : String} {r r' : V → List V → Hp → VK → Prop} (h : MtM X id r) (k : ∀ x xs H Q, r' x xs H Q → r x xs H Q) : MtM X id r' := fun pins s σ H x xs v us Q I rx rs q => h pins s σ H x xs v us Q I rx rs (k x xs H Q q)
theorem PGet.imp {r r' : R2} (h : PGet X r) (k : ∀ x y H Q, r' x y H Q → r x y H Q) : PGet X r' := fun pins s σ H o i ov iv Q I ro ri q => h pins s σ H o i ov iv Q I ro ri (k o i H Q q)
theorem PSet.imp {r r' : TSet} (h : PSet X r) (k : ∀ o i v H Q, r' o i v H Q → r o i v H Q) : PSet X r' := fun pins s σ H o i v ov iv u Q I ro ri rv q => h pins s σ H o i v ov iv u Q I ro ri rv (k o i v H Q q)
def rModZ : R2 := fun x y H Q => ∃ i j k : Int, x = .int i ∧ y = .int j ∧ 0 < j ∧ i % j = k ∧ Q (.int k) H
theorem op_modZ : OpR X (binaryOp .Mod) rModZ := OpR.imp op_mod fun x y H Q h => by
  obtain ⟨i, j, k, e1, e2, h0, rfl, q⟩ := h
  exact ⟨i, j, e1, e2, h0, q⟩
def rDivZ : R2 := fun x y H Q => ∃ i j k : Int, x = .int i ∧ y = .int j ∧ 0 < j ∧ j ≤ 100000 ∧ i / j = k ∧ Q (.int k) H
theorem op_divZ : OpR X (binaryOp .FloorDiv) rDivZ := OpR.imp op_fdiv fun x y H Q h => by
  obtain ⟨i, j, k, e1, e2, h0, h1, rfl, q⟩ := h
  exact ⟨i, j, e1, e2, ⟨h0, by omega⟩, q⟩
def rMulZ : R2 := fun x y H Q => ∃ i j k : Int, x = .int i ∧ y = .int j ∧ ((-1000000 ≤ i ∧ i ≤ 1000000) ∨ (-1000000 ≤ j ∧ j ≤ 1000000)) ∧ i * j = k ∧ Q (.int k) H
theorem op_mulZ : OpR X (binaryOp .Mult) rMulZ := OpR.imp op_mul fun x y H Q h => by
  obtain ⟨i, j, k, e1, e2, h0, rfl, q⟩ := h
  refine ⟨i, j, e1, e2, ?_, q⟩
  rcases h0 with h0 | h0
  · exact .inl ⟨by omega, by omega⟩
  · exact .inr ⟨by omega, by omega⟩
def rLenZ (K : PySem.W.Frag) : List V → Hp → VK → Prop := fun xs H Q => ∃ (p : Addr) (l : List Int) (n : Int), xs = [.ref p] ∧ SqL K H p (vi l) ∧ (l.length : Int) = n ∧ Q (.int n) H
theorem lenZ : CallR X (.builtin "len") (rLenZ X.K) := CallR.imp call_len_seq fun xs H Q h => by
  obtain ⟨p, l, n, e, hs, rfl, q⟩ := h
  exact ⟨p, vi l, e, .inl hs, by rw [vi_len]; exact q⟩
def rIxZ (K : PySem.W.Frag) : R2 := fun x y H Q => ∃ (p : Addr) (l : List Int) (i v : Int), x = .ref p ∧ y = .int i ∧ SqL K H p (vi l) ∧ 0 ≤ i ∧ i < l.length ∧ RS.fr l i.toNat = v ∧ Q (.int v) H
theorem rIxZ_imp {K : PySem.W.Frag} (x y : V) (H : Hp) (Q : VK) (h : rIxZ K x y H Q) : rIxL K x y H Q := by
  obtain ⟨p, l, i, v, e1, e2, hs, h0, h1, rfl, q⟩ := h
  exact ⟨p, vi l, i, _, e1, e2, hs, at_vi h0 h1, q⟩
theorem ixZ : IxR X (rIxZ X.K) := IxR.imp ix_list rIxZ_imp
theorem getZ : PGet X (rIxZ X.K) := PGet.imp get_list rIxZ_imp
def rSetZ : TSet := fun o i v H Q => ∃ (p : Addr) (l : List Int) (k x : Int), o = .ref p ∧ i = .int k ∧ v = .int x ∧ H p = some (.lst (vi l)) ∧ 0 ≤ k ∧ k < l.length ∧ Q (upd H p (.lst (vi (l.set k.toNat x))))
theorem setZ : PSet X rSetZ := PSet.imp set_list fun o i v H Q h => by
  obtain ⟨p, l, k, x, e1, e2, rfl, hp, h0, h1, q⟩ := h
  exact ⟨p, vi l, k, k.toNat, e1, e2, hp, ix_vi h0 h1, by rw [vi_set]; exact q⟩
def rAppZ : V → List V → Hp → VK → Prop := fun x vs H Q => ∃ (l : Addr) (xs : List Int) (y : Int), x = .ref l ∧ vs = [.int y] ∧ H l = some (.lst (vi xs)) ∧ xs.length < 100000 ∧ Q .non (upd H l (.lst (vi (xs ++ [y]))))
theorem appZ : MtM X "list.append" rAppZ := MtM.imp mt_append fun x vs H Q h => by
  obtain ⟨l, xs, y, e1, e2, hp, h0, q⟩ := h
  exact ⟨l, vi xs, .int y, e1, e2, hp, by rw [vi_len]; exact size_lt h0, by rw [vi_snoc]; exact q⟩
def rExtZ : V → List V → Hp → VK → Prop := fun x vs H Q => ∃ (l b : Addr) (xs zs : List Int), x = .ref l ∧ vs = [.ref b] ∧ H l = some (.lst (vi xs)) ∧ H b = some (.lst (vi zs)) ∧ xs.length + zs.length ≤ 100000 ∧ Q .non (upd H l (.lst (vi (xs ++ zs))))
theorem extZ : MtM X "list.extend" rExtZ := MtM.imp mt_extend fun x vs H Q h => by
  obtain ⟨l, b, xs, zs, e1, e2, hp, hb, h0, q⟩ := h
  exact ⟨l, b, vi xs, vi zs, e1, e2, hp, hb, by rw [vi_len, vi_len]; exact size_le h0, by rw [vi_app]; exact q⟩
def rPopZ : V → List V → Hp → VK → Prop := fun x vs H Q => ∃ (l : Addr) (xs : List Int) (y : Int), x = .ref l ∧ vs = [] ∧ H l = some (.lst (vi (xs ++ [y]))) ∧ Q (.int y) (upd H l (.lst (vi xs)))
theorem popZ : MtM X "list.pop" rPopZ := MtM.imp mt_pop fun x vs H Q h => by
  obtain ⟨l, xs, y, e1, e2, hp, q⟩ := h
  refine ⟨l, vi (xs ++ [y]), .int y, e1, e2, hp, ?_, ?_⟩
  · rw [vi_len, List.length_append, List.length_singleton, ← vi_snoc]
    have : xs.length + 1 - 1 = (vi xs).length := by rw [vi_len]; omega
    rw [this]
    simp
  · have : (vi (xs ++ [y])).dropLast = vi xs := by rw [← vi_snoc, List.dropLast_concat]
    rw [this]
    exact q
def rInsZ : V → List V → Hp → VK → Prop := fun x vs H Q => ∃ (l : Addr) (xs : List Int) (i y : Int), x = .ref l ∧ vs = [.int i, .int y] ∧ H l = some (.lst (vi xs)) ∧ xs.length < 100000 ∧ 0 ≤ i ∧ i < 100000 ∧
  Q .non (upd H l (.lst (vi (xs.take i.toNat ++ [y] ++ xs.drop i.toNat))))
theorem insZ : MtR X "list.insert" rInsZ := fun pins s σ H x vs v us Q I rx rv h => by
  obtain ⟨l, xs, i, y, e1, e2, hp, h0, h1, h2, q⟩ := h
  refine mt_insert pins s σ H x vs v us Q I rx rv ⟨l, vi xs, i, .int y, e1, e2, hp, by rw [vi_len]; exact size_lt h0, h1, by omega, ?_⟩
  have : (vi xs).take i.toNat ++ [V.int y] ++ (vi xs).drop i.toNat = vi (xs.take i.toNat ++ [y] ++ xs.drop i.toNat) := by
    unfold vi
    rw [List.map_append, List.map_append, List.map_take, List.map_drop]; rfl
  rw [this]
  exact q
/-- a slice of ints -/
def cutI (xs : List Int) (lo hi : Option Int) : List Int := (xs.drop (HT.sIx xs.length 0 lo)).take (HT.sIx xs.length xs.length hi - HT.sIx xs.length 0 lo)
theorem cut_vi (l : List Int) (lo hi : Option Int) : cutV (vi l) lo hi = vi (cutI l lo hi) := by
  unfold cutV cutI vi
  rw [List.length_map, List.map_take, List.map_drop]
def rSlZ (K : PySem.W.Frag) : V → Option Int → Option Int → Hp → VK → Prop := fun x lo hi H Q => ∃ (a : Addr) (l m : List Int), x = .ref a ∧ SqL K H a (vi l) ∧ cutI l lo hi = m ∧ ∀ p, H p = none → Q (.ref p) (upd H p (.lst (vi m)))
theorem slZ : SlR X (rSlZ X.K) := fun pins s σ H x v vl vu lo hi sl Q I rx hs pl pu h => by
  obtain ⟨a, l, m, e, ha, rfl, q⟩ := h
  exact sl_list pins s σ H x v vl vu lo hi sl Q I rx hs pl pu ⟨a, vi l, e, ha, fun p hp => by rw [cut_vi]; exact q p hp⟩
def rCatZ : R2 := fun x y H Q => ∃ (l b : Addr) (xs zs : List Int), x = .ref l ∧ y = .ref b ∧ H l = some (.lst (vi xs)) ∧ H b = some (.lst (vi zs)) ∧ xs.length + zs.length ≤ 100000 ∧ ∀ p, H p = none → Q (.ref p) (upd H p (.lst (vi (xs ++ zs))))
theorem op_catZ : OpR X (binaryOp .Add) rCatZ := OpR.imp op_cat fun x y H Q h => by
  obtain ⟨l, b, xs, zs, e1, e2, hl, hb, h0, q⟩ := h
  exact ⟨l, b, vi xs, vi zs, e1, e2, hl, hb, by rw [vi_len, vi_len]; exact size_le h0, fun p hp => by rw [vi_app]; exact q p hp⟩
def rRepZ : R2 := fun x y H Q => ∃ (l : Addr) (k v : Int), x = .ref l ∧ y = .int k ∧ H l = some (.lst [.int v]) ∧ 0 ≤ k ∧ k ≤ 100000 ∧ ∀ p, H p = none → Q (.ref p) (upd H p (.lst (vi (List.replicate k.toNat v))))
theorem op_repZ : OpR X (binaryOp .Mult) rRepZ := OpR.imp op_rep fun x y H Q h => by
  obtain ⟨l, k, v, e1, e2, hl, h0, h1, q⟩ := h
  refine ⟨l, k, [.int v], e1, e2, hl, by omega, by omega, ?_, fun p hp => ?_⟩
  · rw [List.length_singleton, Nat.one_mul]
    exact size_le (by omega)
  · have : (List.replicate k.toNat [V.int v]).flatten = vi (List.replicate k.toNat v) := by
      have h2 : ∀ n : Nat, (List.replicate n [V.int v]).flatten = vi (List.replicate n v) := fun n => by
        induction n with
        | zero => rfl
        | succ n ih =>
          rw [List.replicate_succ, List.replicate_succ, List.flatten_cons, ih]; rfl
      exact h2 _
    rw [this]
    exact q p hp
def rLstZ (K : PySem.W.Frag) : List V → Hp → VK → Prop := fun xs H Q => ∃ (p : Addr) (l : List Int), xs = [.ref p] ∧ SqL K H p (vi l) ∧ ∀ q, H q = none → Q (.ref q) (upd H q (.lst (vi l)))
theorem lstZ : CallR X (.type "list") (rLstZ X.K) := CallR.imp call_list_of fun xs H Q h => by
  obtain ⟨p, l, e, hs, q⟩ := h
  exact ⟨p, vi l, e, .inl hs, q⟩
def rAbsZ : List V → Hp → VK → Prop := fun xs H Q => ∃ i k : Int, xs = [.int i] ∧ (i.natAbs : Int) = k ∧ Q (.int k) H
theorem absZ : CallR X (.builtin "abs") rAbsZ := CallR.imp call_abs fun xs H Q h => by
  obtain ⟨i, k, e, rfl, q⟩ := h
  refine ⟨i, e, ?_⟩
  have : (if i < 0 then -i else i) = (i.natAbs : Int) := by
    split <;> omega
  rw [this]
  exact q
/-- all of a list of truths -/
def rAllZ (K : PySem.W.Frag) : List V → Hp → VK → Prop := fun vs H Q => ∃ (a : Addr) (bs : List Bool), vs = [V.ref a] ∧ SqL K H a (bs.map V.bl) ∧ ∀ c : Bool, (c = true ↔ ∀ b ∈ bs, b = true) → Q (.bl c) H
theorem allZ (hc : X.calm = true) : CallR X (.builtin "all") (rAllZ X.K) := CallR.imp (cr_all hc) fun xs H Q h => by
  obtain ⟨a, bs, e, hs, q⟩ := h
  exact ⟨a, bs, e, hs, q _ (by simp [List.all_eq_true])⟩
/-- the first place of a number that is there -/
def rIndZ (K : PySem.W.Frag) : V → List V → Hp → VK → Prop := fun x vs H Q => ∃ (a : Addr) (l : List Int) (v : Int), x = .ref a ∧ vs = [.int v] ∧ SqL K H a (vi l) ∧ v ∈ l ∧ ∀ j : Nat, j < l.length → RS.fr l j = v → Q (.int (j : Int)) H
theorem indZ : MtR X "list.index" (rIndZ X.K) := fun pins s σ H x vs w us Q I rx rv h => by
  obtain ⟨a, l, v, e1, e2, hs, hm, q⟩ := h
  have first : ∀ (k : Nat) (l : List Int), l.length ≤ k → v ∈ l → ∃ j, j < l.length ∧ RS.fr l j = v ∧ ∀ m, m < j → RS.fr l m ≠ v := by
    intro k
    induction k with
    | zero =>
      intro l hk hm
      have : l = [] := List.length_eq_zero_iff.mp (by omega)
      rw [this] at hm
      cases hm
    | succ k ih =>
      intro l hk hm
      cases l with
      | nil => cases hm
      | cons y r =>
        by_cases e : y = v
        · exact ⟨0, Nat.succ_pos _, e, fun m hm => absurd hm (Nat.not_lt_zero _)⟩
        · have hr : v ∈ r := by
            rcases List.mem_cons.mp hm with z | z
            · exact (e z.symm).elim
            · exact z
          obtain ⟨j, h1, h2, h3⟩ := ih r (by rw [List.length_cons] at hk; omega) hr
          refine ⟨j + 1, by rw [List.length_cons]; omega, h2, fun m hm => ?_⟩
          cases m with
          | zero => exact e
          | succ m => exact h3 m (by omega)
  obtain ⟨j, h1, h2, h3⟩ := first _ l (Nat.le_refl _) hm
  refine mt_index pins s σ H x vs w us Q I rx rv ⟨a, vi l, .int v, j, .int v, e1, e2, hs, rfl, ?_, ?_, ?_, fun m z' hm hz => ?_, q j h1 h2⟩
  · rw [List.all_eq_true]
    intro y hy
    obtain ⟨n, _, rfl⟩ := List.mem_map.mp hy
    rfl
  · rw [vi_some h1, h2]
  · show (v == v) = true
    exact beq_self_eq_true v
  · obtain ⟨_, rfl⟩ := vi_get hz
    show (RS.fr l m == v) = false
    exact beq_eq_false_iff_ne.mpr (h3 m hm)
/-- == of two lists of ints -/
theorem dp_vi (K : PySem.W.Frag) (H : Hp) : ∀ l : List Int, DpAll K H (vi l) (l.map PyData.int)
  | [] => .nil
  | n :: r => .cons (.int n) (dp_vi K H r)
theorem eqv_vi : ∀ l m : List Int, PyData.eqvAll (l.map PyData.int) (m.map PyData.int) = true ↔ l = m
  | [], [] => by simp [PyData.eqvAll]
  | [], _ :: _ => by simp [PyData.eqvAll]
  | _ :: _, [] => by simp [PyData.eqvAll]
  | a :: l, b :: m => by
    have ih := eqv_vi l m
    rw [List.map_cons, List.map_cons]
    unfold PyData.eqvAll
    rw [Bool.and_eq_true, ih, List.cons.injEq]
    have : PyData.eqv (.int a) (.int b) = true ↔ a = b := by
      unfold PyData.eqv
      exact beq_iff_eq
    rw [this]
theorem shaped_vi (l : List Int) : SeqAt.shaped (.list (l.map PyData.int)) = true := by
  have h1 : ∀ l : List Int, PyData.canLayAll0 (l.map PyData.int) = true := fun l => by
    induction l with
    | nil => simp [PyData.canLayAll0]
    | cons a l ih =>
      rw [List.map_cons]
      unfold PyData.canLayAll0
      rw [ih]
      simp [PyData.canLay0]
  have h2 : ∀ l : List Int, PyData.depthAll (l.map PyData.int) ≤ 1 := fun l => by
    induction l with
    | nil => simp [PyData.depthAll]
    | cons a l ih =>
      rw [List.map_cons]
      unfold PyData.depthAll
      have : PyData.depth (.int a) ≤ 1 := by simp [PyData.depth]
      omega
  unfold SeqAt.shaped
  rw [Bool.and_eq_true]
  refine ⟨?_, decide_eq_true ?_⟩
  · unfold PyData.canLay0
    exact h1 l
  · have := h2 l
    unfold PyData.depth
    omega
def rEqZ (K : PySem.W.Frag) (neg : Bool) : R2 := fun x y H Q => ∃ (a b : Addr) (l m : List Int), x = .ref a ∧ y = .ref b ∧ SqL K H a (vi l) ∧ SqL K H b (vi m) ∧ ∀ c : Bool, (c = true ↔ l = m) → Q (.bl (if neg then !c else c)) H
theorem op_eqZ (hu : X.A.units + 64 < cLine) : OpR X (compareOp .Eq) (rEqZ X.K false) := OpR.imp (op_eqD hu) fun x y H Q h => by
  obtain ⟨a, b, l, m, rfl, rfl, ha, hb, q⟩ := h
  exact ⟨.list (l.map PyData.int), .list (m.map PyData.int), .lst ha (dp_vi _ _ l), .lst hb (dp_vi _ _ m), shaped_vi l, shaped_vi m, q _ (eqv_vi l m)⟩
theorem op_neZ (hu : X.A.units + 64 < cLine) : OpR X (compareOp .NotEq) (rEqZ X.K true) := OpR.imp (op_neD hu) fun x y H Q h => by
  obtain ⟨a, b, l, m, rfl, rfl, ha, hb, q⟩ := h
  exact ⟨.list (l.map PyData.int), .list (m.map PyData.int), .lst ha (dp_vi _ _ l), .lst hb (dp_vi _ _ m), shaped_vi l, shaped_vi m, q _ (eqv_vi l m)⟩
end

/-! ## loops -/
/-- range(n), the turn's number as it is -/
theorem for_range0 {n : Nat} {g : TG} {tb : TS} {D : Ends} {σ : St} {H : Hp} (Pv : Nat → St → Hp → Prop) (h0 : Pv 0 σ H)
    (hs : ∀ i σ H, i < n → Pv i σ H → g (.int (i : Int)) σ H fun σ2 H2 => tb { D with nx := Pv (i + 1), ct := Pv (i + 1), bk := D.nx } σ2 H2) (hd : ∀ σ H, Pv n σ H → D.nx σ H) :
    ∃ W : Nat → Nat → St → Hp → Prop, (∃ m, W 0 m σ H) ∧ ∀ i m σ H, W i m σ H →
      ((Itr 0 n).stop i H ∧ D.nx σ H) ∨ ((Itr 0 n).go i H ∧ ∃ N : St → Hp → Prop, (∀ σ' H', N σ' H' → ∃ m', m' < m ∧ W (i + 1) m' σ' H') ∧ ∀ x H', (Itr 0 n).yld i H x H' → g x σ H' fun σ2 H2 => tb { D with nx := N, ct := N, bk := D.nx } σ2 H2) :=
  for_range (lo := 0) (n := n) Pv h0 (fun i σ H hi p => by
    have e : (0 : Int) + (i : Int) = (i : Int) := Int.zero_add _
    rw [e]
    exact hs i σ H hi p) hd
/-- a comprehension's new list at D: its items so far -/
structure LI (H : Hp) (D : Addr) (F : Nat → V) (i : Nat) (H2 : Hp) : Prop where
  s : Same H H2
  d : H2 D = some (.lst ((List.range i).map F))
theorem li_start {H H1 : Hp} {D : Addr} {F : Nat → V} (s : Same H H1) (hD : H1 D = none) : LI H D F 0 (upd H1 D (.lst [])) := ⟨same_new s hD, upd_same⟩
theorem li_step {H H2 H3 : Hp} {D : Addr} {F : Nat → V} {i : Nat} {v : V} (L : LI H D F i H2) (s : Same H2 H3) (hD : H D = none) (hi : i < 100000) (hv : F i = v) :
    ∃ acc, H3 D = some (.lst acc) ∧ acc.length < sizeLine ∧ LI H D F (i + 1) (upd H3 D (.lst (acc ++ [v]))) := by
  refine ⟨_, s _ _ L.d, ?_, same_mut (Same.trans L.s s) hD, ?_⟩
  · rw [List.length_map, List.length_range]
    exact size_lt hi
  · rw [upd_same, List.range_succ, List.map_append, ← hv]; rfl
theorem li_bls {H H2 : Hp} {D : Addr} {f : Nat → Bool} {n : Nat} (L : LI H D (fun i => .bl (f i)) n H2) : H2 D = some (.lst (((List.range n).map f).map V.bl)) := by
  rw [L.d, List.map_map]; rfl
theorem li_ints {H H2 : Hp} {D : Addr} {f : Nat → Int} {n : Nat} (L : LI H D (fun i => .int (f i)) n H2) : H2 D = some (.lst (vi ((List.range n).map f))) := by
  rw [L.d]
  unfold vi
  rw [List.map_map]; rfl
theorem all_range {n : Nat} {f : Nat → Bool} {c : Bool} {p : Prop} (hc : c = true ↔ ∀ b ∈ (List.range n).map f, b = true) (h : (∀ i, i < n → f i = true) ↔ p) : c = true ↔ p := by
  refine hc.trans (Iff.trans ?_ h)
  constructor
  · intro q i hi
    exact q _ (List.mem_map.mpr ⟨i, List.mem_range.mpr hi, rfl⟩)
  · intro q b hb
    obtain ⟨i, hi, rfl⟩ := List.mem_map.mp hb
    exact q i (List.mem_range.mp hi)

/-! ## tests -/
theorem ite_ne {x y : Int} {A B : Prop} (h1 : x ≠ y → A) (h2 : x = y → B) : if (!decide (V.int x = V.int y)) = true then A else B := by
  by_cases e : x = y
  · have : decide (V.int x = V.int y) = true := decide_eq_true (by rw [e])
    rw [this]
    exact iteF (h2 e)
  · have : decide (V.int x = V.int y) = false := decide_eq_false (fun z => e (V.int.inj z))
    rw [this]
    exact iteT (h1 e)
theorem ite_eq {x y : Int} {A B : Prop} (h1 : x = y → A) (h2 : x ≠ y → B) : if decide (V.int x = V.int y) = true then A else B := by
  by_cases e : x = y
  · have : decide (V.int x = V.int y) = true := decide_eq_true (by rw [e])
    rw [this]
    exact iteT (h1 e)
  · have : decide (V.int x = V.int y) = false := decide_eq_false (fun z => e (V.int.inj z))
    rw [this]
    exact iteF (h2 e)
theorem ite_d {c A B : Prop} [Decidable c] (h1 : c → A) (h2 : ¬ c → B) : if decide c = true then A else B := by
  by_cases e : c
  · rw [decide_eq_true e]
    exact iteT (h1 e)
  · rw [decide_eq_false e]
    exact iteF (h2 e)
theorem ite_not {c : Bool} {A B : Prop} (h1 : c = false → A) (h2 : c = true → B) : if (!c) = true then A else B := by
  cases c with
  | true => exact iteF (h2 rfl)
  | false => exact iteT (h1 rfl)
theorem ite_b {c : Bool} {A B : Prop} (h1 : c = true → A) (h2 : c = false → B) : if c = true then A else B := by
  cases c with
  | true => exact iteT (h1 rfl)
  | false => exact iteF (h2 rfl)
theorem ff_iff {p : Prop} (h : ¬ p) : (false = true) ↔ p := ⟨(fun z => nomatch z), fun z => (h z).elim⟩
theorem tt_iff {p : Prop} (h : p) : (true = true) ↔ p := ⟨fun _ => h, fun _ => rfl⟩
theorem dv_iff {x y : Int} : decide (V.int x = V.int y) = true ↔ x = y := by
  rw [decide_eq_true_iff, V.int.injEq]
end Toy
set_option Elab.async false
set_option linter.all false
set_option maxRecDepth 100000
set_option maxHeartbeats 4000000
namespace Toy
open PySem L2
/-! ## great numbers -/
def rMulB : R2 := fun x y H Q => ∃ i j : Int, x = .int i ∧ y = .int j ∧ (∃ m k : Nat, m + k ≤ 100000000 ∧ i.natAbs < 2 ^ m ∧ j.natAbs < 2 ^ k) ∧ Q (.int (i * j)) H
theorem op_mulB {X : Cx} : OpR X (binaryOp .Mult) rMulB := fun pins s σ H x y v u Q I rx ry h => by
  obtain ⟨i, j, rfl, rfl, ⟨m, k, hmk, h1, h2⟩, q⟩ := h
  obtain ⟨t, rfl⟩ := rx
  obtain ⟨t', rfl⟩ := ry
  refine PyProof.Rows.mul_int ⟨.int (i * j), H, I.tok _, ⟨_, rfl⟩, q⟩ ?_
  unfold IntMulOk
  intro z
  rw [Bool.and_eq_true] at z
  have z2 := z.2
  unfold Builtin.Int.intTooBig at z2
  have z3 := of_decide_eq_true z2
  have b1 := PyProof.Rows.intBits_le h1
  have b2 := PyProof.Rows.intBits_le h2
  have e : bitsLine = 134217728 := by decide
  rw [e] at z3
  omega
theorem bm_of_bits {n : Int} {M : Nat} (h : Builtin.Int.intBits n ≤ M) : RS.BM M n := by
  unfold Builtin.Int.intBits at h
  by_cases e : (n == 0) = true
  · have : n = 0 := by simpa using e
    subst this
    exact ⟨0, Nat.zero_le _, by decide⟩
  · rw [if_neg e] at h
    exact ⟨n.natAbs.log2 + 1, h, Nat.lt_log2_self⟩
theorem cut_from {l : List Int} {k : Nat} (h : k ≤ l.length) : cutI l (some (k : Int)) none = l.drop k := by
  unfold cutI
  rw [HT.sIx_none, HT.sIx_nat, Nat.min_eq_left h]
  exact List.take_of_length_le (by rw [List.length_drop]; omega)
theorem cut_to {l : List Int} {k : Nat} (h : k ≤ l.length) : cutI l none (some (k : Int)) = l.take k := by
  unfold cutI
  rw [HT.sIx_none, HT.sIx_nat, Nat.min_eq_left h, List.drop_zero, Nat.sub_zero]
theorem cut_take (l : List Int) (k : Nat) : cutI l none (some (k : Int)) = l.take k := by
  unfold cutI
  rw [HT.sIx_none, HT.sIx_nat, List.drop_zero, Nat.sub_zero]
  by_cases h : k ≤ l.length
  · rw [Nat.min_eq_left h]
  · rw [Nat.min_eq_right (by omega), List.take_of_length_le (by omega), List.take_of_length_le (by omega)]
end Toy
set_option Elab.async false
set_option linter.all false
set_option maxRecDepth 100000
set_option maxHeartbeats 4000000
namespace Toy
open PySem L2
theorem ite_isnot {a b : Bool} {A B : Prop} (h : a = b) (k : B) : if (!decide (a = b)) = true then A else B := by
  subst h
  have : decide (a = a) = true := decide_eq_true rfl
  rw [this]
  exact iteF k
theorem cut_last (l : List Int) (x : Int) : cutI (l ++ [x]) none (some (-1)) = l := by
  unfold cutI
  have e : HT.sIx (l ++ [x]).length (l ++ [x]).length (some (-1)) = l.length := by
    rw [List.length_append, List.length_singleton]
    unfold HT.sIx
    simp
    try omega
  rw [HT.sIx_none, e, List.drop_zero, Nat.sub_zero]
  exact List.take_left' rfl
theorem not_iff_false {c : Bool} {p : Prop} (h : c = true ↔ p) (n : ¬ p) : c = false := by
  cases c with
  | false => rfl
  | true => exact (n (h.mp rfl)).elim
theorem rs_get {rs : List (Addr × List Int)} {i : Nat} {y : V} (h : (rs.map fun p => V.ref p.1)[i]? = some y) : ∃ p ∈ rs, y = .ref p.1 := by
  rw [List.getElem?_map] at h
  cases e : rs[i]? with
  | none =>
    rw [e] at h
    cases h
  | some p =>
    rw [e] at h
    exact ⟨p, List.mem_of_getElem? e, (Option.some.inj h).symm⟩

theorem kit_self (K : PySem.W.Frag) (C : Addr) : PySem.W.kitOne K (.ref C) (.ref C) = some true := if_pos (beq_self_eq_true _)
theorem kit_sub {K : PySem.W.Frag} {C A : Addr} (h2 : PySem.W.isClsIn K A = true) (h3 : PySem.W.typeIn K (.ref A) = some (.type "type")) (h4 : PySem.W.subIn K (.ref C) (.ref A) = some true) : PySem.W.kitOne K (.ref C) (.ref A) = some true := by
  unfold PySem.W.kitOne
  by_cases e : ((Value.ref C) == (Value.ref A)) = true
  · rw [if_pos e]
  · rw [if_neg e]
    have e2 : ((PySem.W.clsIn K A).isSome && PySem.W.typeIn K (.ref A) == some (.type "type")) = true := by
      have h2' : (PySem.W.clsIn K A).isSome = true := h2
      rw [h2', h3] <;> rfl
    show (if ((PySem.W.clsIn K A).isSome && PySem.W.typeIn K (.ref A) == some (.type "type")) = true then PySem.W.subIn K (.ref C) (.ref A) else none) = some true
    rw [if_pos e2]
    exact h4
end Toy
set_option Elab.async false
set_option linter.all false
set_option maxRecDepth 100000
set_option maxHeartbeats 4000000
namespace Toy
open PySem L2
section
variable {P : Program} {w : World} {K : PySem.W.Frag} {mg : Str → Option Value} {base : Heap}
/-! ## is_whole of an int -/
def sp_is_whole : Sp := fun vs H Q _ => ∃ n : Int, vs = [.int n] ∧ Q (.bl true) H
theorem ok_is_whole (T : Txt K mg) : FnOk P w K mg base CX0 1 T.f_is_whole T.d_is_whole ["thing"] sp_is_whole := by
  refine T.a_is_whole.F.ok sc_is_whole (fun vs H Q E h => ?_) (fun cdv A outer s H vs Q E hr h => ?_)
  · obtain ⟨n, rfl, _⟩ := h
    rfl
  · obtain ⟨n, rfl, k⟩ := h
    refine ⟨_, (pss_one (ps_ret (pe_and (pe_callB call_isi (by rfl) T.z_isinstance (by decide +kernel) (pa_cons (pv 0) (pa_cons (pe_bltn (v := .ty "int") (by rfl) T.z_int (by decide +kernel) rfl) pa_nil))) (pe_one (pe_not (pe_callB call_isi (by rfl) T.z_isinstance (by decide +kernel) (pa_cons (pv 0) (pa_cons (pe_bltn (v := .ty "bool") (by rfl) T.z_bool (by decide +kernel) rfl) pa_nil)))))))), ?_⟩
    refine ⟨_, rfl, _, _, _, _, true, rfl, ClsV.ty _, TyX.base (.int n), kit_ty (by decide +kernel), _, rfl, iteT ?_⟩
    exact ⟨_, rfl, _, _, _, _, false, rfl, ClsV.ty _, TyX.base (.int n), kit_ty (by decide +kernel), _, rfl, k⟩
/-! ## are_places -/
def sp_are_places (K : PySem.W.Frag) : Sp := fun vs H Q _ => ∃ (a : Addr) (sw : List Int) (n : Int), vs = [.ref a, .int n] ∧ SqL K H a (vi sw) ∧ sw.length ≤ 10000 ∧
  ∀ H' (c : Bool), Same H H' → (c = true ↔ RS.plOk n sw) → Q (.bl c) H'
theorem ok_are_places (T : Txt K mg) : FnOk P w K mg base CX0 2 T.f_are_places T.d_are_places ["swaps", "many"] (sp_are_places K) := by
  have G_is_whole : FnOk P w K mg base CX0 1 T.f_is_whole T.d_is_whole ["thing"] sp_is_whole := ok_is_whole T
  refine T.a_are_places.F.ok sc_are_places (fun vs H Q E h => ?_) (fun cdv A outer s H vs Q E hr h => ?_)
  · obtain ⟨a, sw, n, rfl, _⟩ := h
    rfl
  · obtain ⟨a, sw, n, rfl, ha, hl, k⟩ := h
    refine ⟨_, (pss_one (ps_ret (pe_callB (allZ rfl) (by rfl) T.z_all (by decide +kernel) (pa_cons (pe_lc (own := [("place", 2)]) (g := gName 2) (tt := tYes) rfl sc_are_places.nd (pi_list (pv 0)) (blkOk_by (N := ["swaps", "many", "place"]) (sc := defScope s_are_places) (by decide +kernel)) (fun _ _ _ _ _ => pg_name (i := 2) sc_are_places.nd rfl (Or.inl rfl)) (fun _ _ _ _ _ => pts_nil) (fun _ _ _ _ _ => (pe_and (pe_call G_is_whole hr rfl T.a_is_whole.g T.a_is_whole.F.kp T.a_is_whole.b .nil pass0 (pa_cons (pv 2) pa_nil)) (pe_one (pe_chain op_le op_lt pe_int (pv 2) (pv 1)))))) pa_nil)))), ?_⟩
    refine ⟨_, rfl, a, rfl, ⟨_, ha⟩, fun D hD => lc_list (K := K) (a := a) (xs := vi sw) (fun i H2 => Same H H2 ∧ H2 D = some (.lst (((sw.take i).map fun p => decide (0 ≤ p ∧ p < n)).map V.bl)))
      ⟨same_new (Same.refl H) hD, upd_same⟩ (fun i H2 _ ⟨s2, _⟩ => s2.seq ha) ?_ ?_⟩
    · rintro i x H2 hi ⟨s2, hL⟩
      obtain ⟨hi', rfl⟩ := vi_get hi
      have step : ∀ c : Bool, c = decide (0 ≤ RS.fr sw i ∧ RS.fr sw i < n) → ∃ acc, H2 D = some (.lst acc) ∧ acc.length < sizeLine ∧ (Same H (upd H2 D (.lst (acc ++ [V.bl c]))) ∧ (upd H2 D (.lst (acc ++ [V.bl c]))) D = some (.lst (((sw.take (i + 1)).map fun p => decide (0 ≤ p ∧ p < n)).map V.bl))) := fun c hc => by
        refine ⟨_, hL, ?_, same_mut s2 hD, ?_⟩
        · rw [List.length_map, List.length_map, List.length_take]
          exact size_lt (by omega)
        · rw [upd_same, List.take_succ_eq_append_getElem hi', List.map_append, List.map_append, hc, RS.fr_eq hi']
          rfl
      refine ⟨rfl, _, rfl, _, rfl, _, rfl, iteT ?_⟩
      refine ⟨_, rfl, _, _, rfl, rfl, _, rfl, ?_⟩
      refine ite2 (fun h0 => ?_) (fun h0 => ?_)
      · have h0' := of_decide_eq_true h0
        refine ⟨_, rfl, _, _, rfl, rfl, step _ ?_⟩
        by_cases h1 : RS.fr sw i < n
        · rw [decide_eq_true h1, decide_eq_true (show 0 ≤ RS.fr sw i ∧ RS.fr sw i < n from ⟨h0', h1⟩)]
        · rw [decide_eq_false h1, decide_eq_false (fun z => h1 z.2)]
      · have h0' : ¬ 0 ≤ RS.fr sw i := fun z => h0 (decide_eq_true z)
        refine step false ?_
        rw [decide_eq_false (fun z => h0' z.1)]
    · rintro H2 ⟨s2, hL⟩
      rw [vi_len, List.take_length] at hL
      refine ⟨D, _, rfl, SqL.of hL, fun c hc => k H2 c s2 (hc.trans ?_)⟩
      constructor
      · intro h p hp
        have := h _ (List.mem_map.mpr ⟨p, hp, rfl⟩)
        exact of_decide_eq_true this
      · intro h b hb
        obtain ⟨p, hp, rfl⟩ := List.mem_map.mp hb
        exact decide_eq_true (h p hp)
/-! ## behind, done -/
def sp_behind (K : PySem.W.Frag) : Sp := fun vs H Q _ => ∃ (a b : Addr) (row sw : List Int), vs = [.ref a, .ref b] ∧ SqL K H a (vi row) ∧ SqL K H b (vi sw) ∧ RS.plOk row.length sw ∧
  ∀ H' p, Same H H' → H p = none → H' p = some (.lst (vi (RS.doneL row sw))) → Q (.ref p) H'
theorem ok_behind (T : Txt K mg) : FnOk P w K mg base CX0 1 T.f_behind T.d_behind ["row", "swaps"] (sp_behind K) := by
  refine T.a_behind.F.ok sc_behind (fun vs H Q E h => ?_) (fun cdv A outer s H vs Q E hr h => ?_)
  · obtain ⟨a, b, row, sw, rfl, _⟩ := h
    rfl
  · obtain ⟨a, b, row, sw, rfl, ha, hb, pl, k⟩ := h
    refine ⟨_, (pss_cons (ps_set (i := 2) sc_behind.nd rfl (Or.inl rfl) (pe_callTy lstZ (by rfl) T.z_list (by decide +kernel) (pa_cons (pv 0) pa_nil)))
    (pss_cons (ps_for PassesOwn.never rfl (pi_list (pv 1)) (pg_name (i := 3) sc_behind.nd rfl (Or.inl rfl))
    (pss_cons (ps_set (i := 4) sc_behind.nd rfl (Or.inl rfl) (pe_op op_modZ (pe_op op_add (pv 3) pe_int) (pe_callB lenZ (by rfl) T.z_len (by decide +kernel) (pa_cons (pv 2) pa_nil))))
      (pss_one (ps_asg (pe_tup (pa_cons (pe_ix ixZ (pv 2) (pv 4) (fun _ _ => rfl)) (pa_cons (pe_ix ixZ (pv 2) (pv 3) (fun _ _ => rfl)) pa_nil))) (pg_tup (by rfl) (pgs_cons (pg_sub (pv 2) (pv 3) setZ) (pgs_cons (pg_sub (pv 2) (pv 4) setZ) pgs_nil)))))))
    (pss_one (ps_ret (pv 2))))), ?_⟩
    refine ⟨_, rfl, a, _, rfl, ha, fun l hl0 => ?_⟩
    refine ⟨_, rfl, b, rfl, ⟨_, (same_new (Same.refl H) hl0).seq hb⟩, for_list (K := K) (a := b) (xs := vi sw) (fun i σ H2 => ∃ (v u : Option V), σ = [some (.ref a), some (.ref b), some (.ref l), v, u] ∧ Same H H2 ∧ H2 l = some (.lst (vi (RS.doneL row (sw.take i)))))
      ⟨none, none, rfl, same_new (Same.refl H) hl0, upd_same⟩ (fun i σ H2 _ ⟨_, _, _, s2, _⟩ => s2.seq hb) ?_ ?_⟩
    · rintro i y σ H2 hi ⟨v, u, rfl, s2, hL⟩
      obtain ⟨hi', rfl⟩ := vi_get hi
      have hp := pl _ (RS.fr_mem hi')
      have el : (RS.doneL row (sw.take i)).length = row.length := RS.doneL_len _ _
      have npos : (0 : Int) < ((RS.doneL row (sw.take i)).length : Nat) := by rw [el]; omega
      have hp2 : RS.fr sw i < ((RS.doneL row (sw.take i)).length : Nat) := by rw [el]; exact hp.2
      obtain ⟨e1, e2, e3⟩ := RS.nx_int (n := (RS.doneL row (sw.take i)).length) hp.1 hp2
      refine ⟨_, rfl, _, _, rfl, rfl, _, rfl, l, _, _, rfl, SqL.of hL, rfl, _, _, _, rfl, rfl, npos, rfl, ?_⟩
      refine ⟨_, rfl, _, rfl, l, _, _, _, rfl, rfl, SqL.of hL, e2, e3, rfl, _, rfl, _, rfl, l, _, _, _, rfl, rfl, SqL.of hL, hp.1, hp2, rfl, (by show 2 ≤ sizeLine; decide), fun t ht => ?_⟩
      have ntl : l ≠ t := ne_of_none hL ht
      have hL2 : ∀ o, (upd H2 t o) l = some (.lst (vi (RS.doneL row (sw.take i)))) := fun o => by rw [upd_ne ntl]; exact hL
      refine ⟨t, _, rfl, .inl (Rd.of upd_same), rfl, _, _, rfl, _, rfl, _, rfl, l, _, _, _, rfl, rfl, rfl, hL2 _, hp.1, hp2, ?_⟩
      refine ⟨_, _, rfl, _, rfl, _, rfl, l, _, _, _, rfl, rfl, rfl, upd_same, e2, (by rw [List.length_set]; exact e3), ?_⟩
      refine ⟨rfl, _, _, rfl, same_mut (same_mut (same_new s2 ht) hl0) hl0, ?_⟩
      rw [upd_same, List.take_succ_eq_append_getElem hi', ← RS.fr_eq hi', RS.doneL_snoc]
      rfl
    · rintro σ H2 ⟨v, u, rfl, s2, hL⟩
      rw [vi_len, List.take_length] at hL
      exact ⟨_, rfl, k H2 l s2 hl0 hL⟩
end
end Toy
set_option Elab.async false
set_option linter.all false
set_option maxRecDepth 100000
set_option maxHeartbeats 4000000
namespace Toy
open PySem L2
section
variable {P : Program} {w : World} {K : PySem.W.Frag} {mg : Str → Option Value} {base : Heap}
theorem ok_l_done (T : Txt K mg) : FnOk P w K mg base CX0 1 T.f_l_done T.d_l_done ["_law_row_here", "_law_swaps"] (sp_behind K) := by
  refine T.a_l_done.F.ok sc_l_done (fun vs H Q E h => ?_) (fun cdv A outer s H vs Q E hr h => ?_)
  · obtain ⟨a, b, row, sw, rfl, _⟩ := h
    rfl
  · obtain ⟨a, b, row, sw, rfl, ha, hb, pl, k⟩ := h
    refine ⟨_, (pss_cons (ps_set (i := 2) sc_l_done.nd rfl (Or.inl rfl) (pe_callTy lstZ (by rfl) T.z_list (by decide +kernel) (pa_cons (pv 0) pa_nil)))
    (pss_cons (ps_for PassesOwn.never rfl (pi_list (pv 1)) (pg_name (i := 3) sc_l_done.nd rfl (Or.inl rfl))
    (pss_cons (ps_set (i := 4) sc_l_done.nd rfl (Or.inl rfl) (pe_op op_modZ (pe_op op_add (pv 3) pe_int) (pe_callB lenZ (by rfl) T.z_len (by decide +kernel) (pa_cons (pv 2) pa_nil))))
      (pss_one (ps_asg (pe_tup (pa_cons (pe_ix ixZ (pv 2) (pv 4) (fun _ _ => rfl)) (pa_cons (pe_ix ixZ (pv 2) (pv 3) (fun _ _ => rfl)) pa_nil))) (pg_tup (by rfl) (pgs_cons (pg_sub (pv 2) (pv 3) setZ) (pgs_cons (pg_sub (pv 2) (pv 4) setZ) pgs_nil)))))))
    (pss_one (ps_ret (pv 2))))), ?_⟩
    refine ⟨_, rfl, a, _, rfl, ha, fun l hl0 => ?_⟩
    refine ⟨_, rfl, b, rfl, ⟨_, (same_new (Same.refl H) hl0).seq hb⟩, for_list (K := K) (a := b) (xs := vi sw) (fun i σ H2 => ∃ (v u : Option V), σ = [some (.ref a), some (.ref b), some (.ref l), v, u] ∧ Same H H2 ∧ H2 l = some (.lst (vi (RS.doneL row (sw.take i)))))
      ⟨none, none, rfl, same_new (Same.refl H) hl0, upd_same⟩ (fun i σ H2 _ ⟨_, _, _, s2, _⟩ => s2.seq hb) ?_ ?_⟩
    · rintro i y σ H2 hi ⟨v, u, rfl, s2, hL⟩
      obtain ⟨hi', rfl⟩ := vi_get hi
      have hp := pl _ (RS.fr_mem hi')
      have el : (RS.doneL row (sw.take i)).length = row.length := RS.doneL_len _ _
      have npos : (0 : Int) < ((RS.doneL row (sw.take i)).length : Nat) := by rw [el]; omega
      have hp2 : RS.fr sw i < ((RS.doneL row (sw.take i)).length : Nat) := by rw [el]; exact hp.2
      obtain ⟨e1, e2, e3⟩ := RS.nx_int (n := (RS.doneL row (sw.take i)).length) hp.1 hp2
      refine ⟨_, rfl, _, _, rfl, rfl, _, rfl, l, _, _, rfl, SqL.of hL, rfl, _, _, _, rfl, rfl, npos, rfl, ?_⟩
      refine ⟨_, rfl, _, rfl, l, _, _, _, rfl, rfl, SqL.of hL, e2, e3, rfl, _, rfl, _, rfl, l, _, _, _, rfl, rfl, SqL.of hL, hp.1, hp2, rfl, (by show 2 ≤ sizeLine; decide), fun t ht => ?_⟩
      have ntl : l ≠ t := ne_of_none hL ht
      have hL2 : ∀ o, (upd H2 t o) l = some (.lst (vi (RS.doneL row (sw.take i)))) := fun o => by rw [upd_ne ntl]; exact hL
      refine ⟨t, _, rfl, .inl (Rd.of upd_same), rfl, _, _, rfl, _, rfl, _, rfl, l, _, _, _, rfl, rfl, rfl, hL2 _, hp.1, hp2, ?_⟩
      refine ⟨_, _, rfl, _, rfl, _, rfl, l, _, _, _, rfl, rfl, rfl, upd_same, e2, (by rw [List.length_set]; exact e3), ?_⟩
      refine ⟨rfl, _, _, rfl, same_mut (same_mut (same_new s2 ht) hl0) hl0, ?_⟩
      rw [upd_same, List.take_succ_eq_append_getElem hi', ← RS.fr_eq hi', RS.doneL_snoc]
      rfl
    · rintro σ H2 ⟨v, u, rfl, s2, hL⟩
      rw [vi_len, List.take_length] at hL
      exact ⟨_, rfl, k H2 l s2 hl0 hL⟩
theorem ok_l_whole (T : Txt K mg) : FnOk P w K mg base CX0 1 T.f_l_whole T.d_l_whole ["_law_number_here"] sp_is_whole := by
  refine T.a_l_whole.F.ok sc_l_whole (fun vs H Q E h => ?_) (fun cdv A outer s H vs Q E hr h => ?_)
  · obtain ⟨n, rfl, _⟩ := h
    rfl
  · obtain ⟨n, rfl, k⟩ := h
    refine ⟨_, (pss_one (ps_ret (pe_and (pe_callB call_isi (by rfl) T.z_isinstance (by decide +kernel) (pa_cons (pv 0) (pa_cons (pe_bltn (v := .ty "int") (by rfl) T.z_int (by decide +kernel) rfl) pa_nil))) (pe_one (pe_not (pe_callB call_isi (by rfl) T.z_isinstance (by decide +kernel) (pa_cons (pv 0) (pa_cons (pe_bltn (v := .ty "bool") (by rfl) T.z_bool (by decide +kernel) rfl) pa_nil)))))))), ?_⟩
    refine ⟨_, rfl, _, _, _, _, true, rfl, ClsV.ty _, TyX.base (.int n), kit_ty (by decide +kernel), _, rfl, iteT ?_⟩
    exact ⟨_, rfl, _, _, _, _, false, rfl, ClsV.ty _, TyX.base (.int n), kit_ty (by decide +kernel), _, rfl, k⟩
/-! ## passes -/
def sp_passes (K : PySem.W.Frag) : Sp := fun vs H Q _ => ∃ (a b : Addr) (row ways : List Int), vs = [.ref a, .ref b] ∧ SqL K H a (vi row) ∧ SqL K H b (vi ways) ∧ RS.IsRow row ∧ ways.length = row.length ∧ row.length ≤ 1000 ∧ Q (.int (RS.passesL row ways)) H
/-- one pair -/
def pr (row ways : List Int) (j i : Nat) : Int := RS.nab (((j : Int) - i + RS.fr (RS.leftL row ways) j - RS.fr (RS.leftL row ways) i) / (row.length : Int))
theorem pr_eq {row ways : List Int} {j i : Nat} (hj : j < row.length) (hi : i < row.length) : pr row ways j i = RS.nab (((j : Int) - i + RS.fr ways (RS.fr row j).toNat - RS.fr ways (RS.fr row i).toNat) / (row.length : Int)) := by
  unfold pr
  rw [RS.fr_leftL hj, RS.fr_leftL hi]
  rfl
theorem ok_passes (T : Txt K mg) : FnOk P w K mg base CX0 1 T.f_passes T.d_passes ["row", "ways"] (sp_passes K) := by
  refine T.a_passes.F.ok sc_passes (fun vs H Q E h => ?_) (fun cdv A outer s H vs Q E hr h => ?_)
  · obtain ⟨a, b, row, ways, rfl, _⟩ := h
    rfl
  · obtain ⟨a, b, row, ways, rfl, ha, hb, R, wl, hl, k⟩ := h
    refine ⟨_, (pss_cons (ps_set (i := 2) sc_passes.nd rfl (Or.inl rfl) pe_int)
    (pss_cons (ps_for PassesOwn.never rfl (pi_range1 rfl T.z_range (pa_cons (pe_callB lenZ (by rfl) T.z_len (by decide +kernel) (pa_cons (pv 0) pa_nil)) pa_nil)) (pg_name (i := 3) sc_passes.nd rfl (Or.inl rfl))
    (pss_one (ps_for PassesOwn.never rfl (pi_range1 rfl T.z_range (pa_cons (pv 3) pa_nil)) (pg_name (i := 4) sc_passes.nd rfl (Or.inl rfl))
      (pss_one (ps_aug (i := 2) sc_passes.nd rfl (.inl rfl) (pe_callB absZ (by rfl) T.z_abs (by decide +kernel) (pa_cons (pe_op op_divZ (pe_op op_sub (pe_op op_add (pe_op op_sub (pv 3) (pv 4)) (pe_ix ixZ (pv 1) (pe_ix ixZ (pv 0) (pv 3) (fun _ _ => rfl)) (fun _ _ => rfl))) (pe_ix ixZ (pv 1) (pe_ix ixZ (pv 0) (pv 4) (fun _ _ => rfl)) (fun _ _ => rfl))) (pe_callB lenZ (by rfl) T.z_len (by decide +kernel) (pa_cons (pv 0) pa_nil))) pa_nil)) ip_add)))))
    (pss_one (ps_ret (pv 2))))), ?_⟩
    refine ⟨_, rfl, a, row, _, rfl, ha, rfl, (row.length : Int), rfl, by omega, by omega, for_range0 (n := row.length) (fun j σ H2 => ∃ (z : Int) (v u : Option V), σ = [some (.ref a), some (.ref b), some (.int z), v, u] ∧ z = RS.S j (fun j => RS.S j fun i => pr row ways j i) ∧ H2 = H)
      ⟨0, none, none, rfl, rfl, rfl⟩ ?_ ?_⟩
    · rintro j σ H2 hj ⟨z, v, u, rfl, rfl, rfl⟩
      refine ⟨_, rfl, (j : Int), rfl, by omega, by omega, for_range0 (n := j) (fun i σ H3 => ∃ (z : Int) (u : Option V), σ = [some (.ref a), some (.ref b), some (.int z), some (.int (j : Int)), u] ∧ z = RS.S j (fun j => RS.S j fun i => pr row ways j i) + RS.S i (fun i => pr row ways j i) ∧ H3 = H2)
        ⟨_, u, rfl, by show _ = _ + (0 : Int); omega, rfl⟩ ?_ ?_⟩
      · rintro i σ H2 hi ⟨z, u, rfl, ez, rfl⟩
        have lo := R.row.lo
        have hi' := R.row.hi
        have l1 := lo j hj
        have l2 := hi' j hj
        have l3 := lo i (by omega)
        have l4 := hi' i (by omega)
        refine ⟨_, rfl, _, rfl, _, rfl, _, _, rfl, rfl, _, rfl, _, rfl, _, rfl, a, row, _, _, rfl, rfl, ha, by omega, by omega, rfl, b, ways, _, _, rfl, rfl, hb, l1, by rw [wl]; exact l2, rfl, _, _, rfl, rfl, ?_⟩
        refine ⟨_, rfl, _, rfl, _, rfl, a, row, _, _, rfl, rfl, ha, by omega, by omega, rfl, b, ways, _, _, rfl, rfl, hb, l3, by rw [wl]; exact l4, rfl, _, _, rfl, rfl, ?_⟩
        refine ⟨_, rfl, a, row, _, rfl, ha, rfl, _, _, _, rfl, rfl, by omega, by omega, rfl, _, _, rfl, rfl, _, _, rfl, rfl, _, _, rfl, ?_, rfl⟩
        show z + _ = _ + (RS.S i _ + pr row ways j i)
        rw [ez, pr_eq hj (by omega)]
        show _ + RS.nab _ = _
        rw [Int.add_assoc]
        rfl
      · rintro σ H2 ⟨z, u, rfl, ez, rfl⟩
        exact ⟨_, _, _, rfl, ez, rfl⟩
    · rintro σ H2 ⟨z, v, u, rfl, ez, rfl⟩
      refine ⟨_, rfl, ?_⟩
      have : RS.passesL row ways = z := ez.symm
      rw [← this]
      exact k
theorem ok_l_passes (T : Txt K mg) : FnOk P w K mg base CX0 1 T.f_l_passes T.d_l_passes ["_law_row_here", "_law_ways"] (sp_passes K) := by
  refine T.a_l_passes.F.ok sc_l_passes (fun vs H Q E h => ?_) (fun cdv A outer s H vs Q E hr h => ?_)
  · obtain ⟨a, b, row, ways, rfl, _⟩ := h
    rfl
  · obtain ⟨a, b, row, ways, rfl, ha, hb, R, wl, hl, k⟩ := h
    refine ⟨_, (pss_cons (ps_par (by rfl) sc_l_passes.nd (i := 2) (j := 3) rfl rfl (by decide) rfl rfl (pa_cons (pe_callB lenZ (by rfl) T.z_len (by decide +kernel) (pa_cons (pv 0) pa_nil)) (pa_cons pe_int pa_nil)) (by rfl))
    (pss_cons (ps_for PassesOwn.never rfl (pi_range1 rfl T.z_range (pa_cons (pv 2) pa_nil)) (pg_name (i := 4) sc_l_passes.nd rfl (Or.inl rfl))
    (pss_one (ps_for PassesOwn.never rfl (pi_range1 rfl T.z_range (pa_cons (pv 4) pa_nil)) (pg_name (i := 5) sc_l_passes.nd rfl (Or.inl rfl))
      (pss_cons (ps_set (i := 6) sc_l_passes.nd rfl (Or.inl rfl) (pe_op op_sub (pe_ix ixZ (pv 1) (pe_ix ixZ (pv 0) (pv 4) (fun _ _ => rfl)) (fun _ _ => rfl)) (pe_ix ixZ (pv 1) (pe_ix ixZ (pv 0) (pv 5) (fun _ _ => rfl)) (fun _ _ => rfl))))
        (pss_one (ps_set (i := 3) sc_l_passes.nd rfl (Or.inl rfl) (pe_op op_add (pv 3) (pe_callB absZ (by rfl) T.z_abs (by decide +kernel) (pa_cons (pe_op op_divZ (pe_op op_add (pe_op op_sub (pv 4) (pv 5)) (pv 6)) (pv 2)) pa_nil)))))))))
    (pss_one (ps_ret (pv 3))))), ?_⟩
    refine ⟨_, rfl, a, row, _, rfl, ha, rfl, _, _, rfl, ?_⟩
    refine ⟨_, rfl, (row.length : Int), rfl, by omega, by omega, for_range0 (n := row.length) (fun j σ H2 => ∃ (z : Int) (v u t : Option V), σ = [some (.ref a), some (.ref b), some (.int (row.length : Int)), some (.int z), v, u, t] ∧ z = RS.S j (fun j => RS.S j fun i => pr row ways j i) ∧ H2 = H)
      ⟨0, none, none, none, rfl, rfl, rfl⟩ ?_ ?_⟩
    · rintro j σ H2 hj ⟨z, v, u, t, rfl, rfl, rfl⟩
      refine ⟨_, rfl, (j : Int), rfl, by omega, by omega, for_range0 (n := j) (fun i σ H3 => ∃ (z : Int) (u t : Option V), σ = [some (.ref a), some (.ref b), some (.int (row.length : Int)), some (.int z), some (.int (j : Int)), u, t] ∧ z = RS.S j (fun j => RS.S j fun i => pr row ways j i) + RS.S i (fun i => pr row ways j i) ∧ H3 = H2)
        ⟨_, u, t, rfl, by show _ = _ + (0 : Int); omega, rfl⟩ ?_ ?_⟩
      · rintro i σ H2 hi ⟨z, u, t, rfl, ez, rfl⟩
        have lo := R.row.lo
        have hi' := R.row.hi
        have l1 := lo j hj
        have l2 := hi' j hj
        have l3 := lo i (by omega)
        have l4 := hi' i (by omega)
        refine ⟨_, rfl, _, rfl, _, rfl, a, row, _, _, rfl, rfl, ha, by omega, by omega, rfl, b, ways, _, _, rfl, rfl, hb, l1, by rw [wl]; exact l2, rfl, ?_⟩
        refine ⟨_, rfl, _, rfl, _, rfl, a, row, _, _, rfl, rfl, ha, by omega, by omega, rfl, b, ways, _, _, rfl, rfl, hb, l3, by rw [wl]; exact l4, rfl, _, _, rfl, rfl, ?_⟩
        refine ⟨_, rfl, _, rfl, _, rfl, _, _, rfl, rfl, _, rfl, _, _, rfl, rfl, _, rfl, _, _, _, rfl, rfl, by omega, by omega, rfl, _, _, rfl, rfl, _, _, rfl, rfl, ?_⟩
        refine ⟨_, _, _, rfl, ?_, rfl⟩
        show z + _ = _ + (RS.S i _ + pr row ways j i)
        rw [ez, pr_eq hj (by omega)]
        show _ + RS.nab _ = _
        rw [Int.add_assoc, Int.add_sub_assoc]
        rfl
      · rintro σ H2 ⟨z, u, t, rfl, ez, rfl⟩
        exact ⟨_, _, _, _, rfl, ez, rfl⟩
    · rintro σ H2 ⟨z, v, u, t, rfl, ez, rfl⟩
      refine ⟨_, rfl, ?_⟩
      have : RS.passesL row ways = z := ez.symm
      rw [← this]
      exact k
end
end Toy
set_option Elab.async false
set_option linter.all false
set_option maxRecDepth 100000
set_option maxHeartbeats 4000000
namespace Toy
open PySem L2
section
variable {P : Program} {w : World} {K : PySem.W.Frag} {mg : Str → Option Value} {base : Heap}
/-- whether the thing at i goes home -/
def cg (row ways : List Int) (i : Nat) : Bool := decide (V.int (((i : Int) + RS.fr ways (RS.fr row i).toNat - RS.fr row i) % (row.length : Int)) = V.int 0)
/-! ## are_ways -/
def sp_are_ways (K : PySem.W.Frag) : Sp := fun vs H Q _ => ∃ (a b : Addr) (row ways : List Int), vs = [.ref a, .ref b] ∧ SqL K H a (vi row) ∧ SqL K H b (vi ways) ∧ RS.IsRow row ∧ row.length ≤ 1000 ∧
  ∀ H' (c : Bool), Same H H' → (c = true ↔ RS.AreWays row ways) → Q (.bl c) H'
theorem ok_are_ways (T : Txt K mg) : FnOk P w K mg base CX0 2 T.f_are_ways T.d_are_ways ["row", "ways"] (sp_are_ways K) := by
  have G_is_whole : FnOk P w K mg base CX0 1 T.f_is_whole T.d_is_whole ["thing"] sp_is_whole := ok_is_whole T
  refine T.a_are_ways.F.ok sc_are_ways (fun vs H Q E h => ?_) (fun cdv A outer s H vs Q E hr h => ?_)
  · obtain ⟨a, b, row, ways, rfl, _⟩ := h
    rfl
  · obtain ⟨a, b, row, ways, rfl, ha, hb, R, hl, k⟩ := h
    have n3 := R.three
    refine ⟨_, (pss_cons (ps_if (PW.pt (pw_or (pt_cmpR op_ne (pe_callB lenZ (by rfl) T.z_len (by decide +kernel) (pa_cons (pv 1) pa_nil)) (pe_callB lenZ (by rfl) T.z_len (by decide +kernel) (pa_cons (pv 0) pa_nil)) (nomark _)) (pw_or (pt_not (pt_val (pe_callB (allZ rfl) (by rfl) T.z_all (by decide +kernel) (pa_cons (pe_lc (own := [("way", 4)]) (g := gName 4) (tt := tYes) rfl sc_are_ways.nd (pi_list (pv 1)) (blkOk_by (N := ["row", "ways", "place", "thing", "way"]) (sc := defScope s_are_ways) (by decide +kernel)) (fun _ _ _ _ _ => pg_name (i := 4) sc_are_ways.nd rfl (Or.inl rfl)) (fun _ _ _ _ _ => pts_nil) (fun _ _ _ _ _ => (pe_call G_is_whole hr rfl T.a_is_whole.g T.a_is_whole.F.kp T.a_is_whole.b .nil pass0 (pa_cons (pv 4) pa_nil)))) pa_nil)))) (pw_or1 (pt_cmpR op_ne (pe_callB (cr_sum rfl) (by rfl) T.z_sum (by decide +kernel) (pa_cons (pv 1) pa_nil)) pe_int (nomark _))))))
    (pss_one (ps_ret pe_bl))
    pss_nil)
    (pss_cons (ps_if (pt_cmpR op_gt (pe_op op_sub (pe_callB (cr_max rfl) (by rfl) T.z_max (by decide +kernel) (pa_cons (pv 1) pa_nil)) (pe_callB (cr_min rfl) (by rfl) T.z_min (by decide +kernel) (pa_cons (pv 1) pa_nil))) (pe_callB lenZ (by rfl) T.z_len (by decide +kernel) (pa_cons (pv 0) pa_nil)) (nomark _))
    (pss_one (ps_ret pe_bl))
    pss_nil)
    (pss_one (ps_ret (pe_callB (allZ rfl) (by rfl) T.z_all (by decide +kernel) (pa_cons (pe_lc (own := [("place", 2), ("thing", 3)]) (g := (gTup K 2 (gCons (gName 2) (gCons (gName 3) gNil)))) (tt := tYes) rfl sc_are_ways.nd (pi_enum (by rfl) T.z_enumerate (pa_cons (pv 0) pa_nil)) (blkOk_by (N := ["row", "ways", "place", "thing", "way"]) (sc := defScope s_are_ways) (by decide +kernel)) (fun _ _ _ _ _ => pg_tup rfl (pgs_cons (pg_name (i := 2) sc_are_ways.nd rfl (Or.inl rfl)) (pgs_cons (pg_name (i := 3) sc_are_ways.nd rfl (Or.inl rfl)) pgs_nil))) (fun _ _ _ _ _ => pts_nil) (fun _ _ _ _ _ => (pe_cmpR op_eq (pe_op op_modZ (pe_op op_sub (pe_op op_add (pv 2) (pe_ix (r := rIxZ K) ixZ (pv 1) (pv 3) (fun _ _ => rfl))) (pv 3)) (pe_callB (id := "len") (r := rLenZ K) lenZ (by rfl) T.z_len (by decide +kernel) (pa_cons (pv 0) pa_nil))) pe_int (nomark _)))) pa_nil)))))), ?_⟩
    refine ⟨_, rfl, b, ways, _, rfl, hb, rfl, _, rfl, a, row, _, rfl, ha, rfl, rfl, _, rfl, ?_⟩
    refine ite_ne (fun hne => iteT (k H false (Same.refl H) (ff_iff fun A => hne (by rw [A.len])))) fun he => ?_
    have wl : ways.length = row.length := by omega
    refine ⟨_, rfl, b, rfl, ⟨_, hb⟩, fun D hD => lc_list (K := K) (a := b) (xs := vi ways) (fun i H2 => LI H D (fun _ => .bl true) i H2) (li_start (Same.refl H) hD) (fun i H2 _ L => L.s.seq hb) ?_ ?_⟩
    · rintro i x H2 hi L
      obtain ⟨hi', rfl⟩ := vi_get hi
      exact ⟨rfl, _, rfl, _, rfl, li_step L (Same.refl _) hD (by omega) rfl⟩
    · intro H2 L
      refine ⟨D, _, rfl, SqL.of (li_bls L), fun c hc => ⟨_, rfl, ?_⟩⟩
      have ec : c = true := hc.mpr fun b hb => by
        obtain ⟨_, _, rfl⟩ := List.mem_map.mp hb
        rfl
      subst ec
      refine ite_not (fun z => nomatch z) fun _ => ?_
      have ha2 := L.s.seq ha
      have hb2 := L.s.seq hb
      refine ⟨_, rfl, b, ways, rfl, hb2, rfl, _, rfl, ?_⟩
      refine ite_ne (fun hne => k H2 false L.s (ff_iff fun A => hne A.sum)) fun hsum => ?_
      refine ⟨_, rfl, b, ways, rfl, hb2, by omega, fun M hM hM2 => ⟨_, rfl, b, ways, rfl, hb2, by omega, fun m hm hm2 => ⟨_, _, rfl, rfl, _, rfl, a, row, _, rfl, ha2, rfl, _, _, rfl, rfl, _, rfl, ?_⟩⟩⟩
      refine ite_d (fun hgt => k H2 false L.s (ff_iff fun A => ?_)) fun hle => ?_
      · have := A.nor M hM m hm
        omega
      · refine ⟨_, rfl, a, _, rfl, ha2, fun D2 hD2 => lc_it (walk_enum (K := K) (a := a) (xs := vi row)) (fun i H3 => LI H2 D2 (fun i => .bl (cg row ways i)) i H3) (li_start (Same.refl H2) hD2) (fun i H3 _ L3 => L3.s.seq ha2) ?_ ?_⟩
        · rintro i x H3 H4 hi L3 ⟨t, u, v, rfl, ht, rfl, e1, e2⟩
          cases e1
          obtain ⟨hi', rfl⟩ := vi_get e2
          have s3 := same_new L3.s ht (o := .tup [V.int (i : Int), V.int (RS.fr row i)])
          have l1 := R.row.lo i hi'
          have l2 := R.row.hi i hi'
          refine ⟨t, _, rfl, .inl (Rd.of upd_same), rfl, _, _, rfl, _, _, rfl, rfl, rfl, ?_⟩
          refine ⟨_, rfl, _, rfl, _, rfl, b, ways, _, _, rfl, rfl, s3.seq hb2, l1, by rw [wl]; exact l2, rfl, _, _, rfl, rfl, _, rfl, _, _, rfl, rfl, _, rfl, a, row, _, rfl, s3.seq ha2, rfl, _, _, _, rfl, rfl, by omega, rfl, rfl, ?_⟩
          exact li_step L3 (same_new (Same.refl H3) ht) hD2 (by omega) rfl
        · intro H3 L3
          rw [vi_len] at L3
          refine ⟨D2, _, rfl, SqL.of (li_bls L3), fun c hc => k H3 c (Same.trans L.s L3.s) (all_range hc ?_)⟩
          constructor
          · intro h
            refine ⟨wl, hsum, fun x hx y hy => ?_, fun p hp => dv_iff.mp (h p hp)⟩
            have := hM2 x hx
            have := hm2 y hy
            omega
          · intro A i hi
            exact dv_iff.mpr (A.cong i hi)
end
end Toy
set_option Elab.async false
set_option linter.all false
set_option maxRecDepth 100000
set_option maxHeartbeats 4000000
namespace Toy
open PySem L2
theorem pl_dec {x n : Int} (h0 : 0 ≤ x) : V.bl (decide (0 ≤ x ∧ x < n)) = V.bl (decide (x < n)) := by
  by_cases h1 : x < n
  · rw [decide_eq_true h1, decide_eq_true (show 0 ≤ x ∧ x < n from ⟨h0, h1⟩)]
  · rw [decide_eq_false h1, decide_eq_false (fun z => h1 z.2)]
/-! ## the answer's object -/
theorem k_sw : ¬ (("swaps" : Str) = "ways") := by decide +kernel
def bf (l1 l2 : Addr) : List (Str × V) := putF "ways" (.ref l2) (putF "swaps" (.ref l1) [])
theorem bf_eq (l1 l2 : Addr) : bf l1 l2 = ([("swaps", V.ref l1), ("ways", V.ref l2)] : List (Str × V)) := by
  show (if ("swaps" : Str) = "ways" then [(("swaps" : Str), V.ref l2)] else (("swaps" : Str), V.ref l1) :: putF "ways" (V.ref l2) []) = ([("swaps", V.ref l1), ("ways", V.ref l2)] : List (Str × V))
  rw [if_neg k_sw]
  all_goals rfl
theorem bf_swaps (l1 l2 : Addr) : (bf l1 l2).lookup ("swaps" : Str) = some (.ref l1) := by
  unfold bf
  rw [lookup_putF, if_neg k_sw, lookup_putF, if_pos rfl]
theorem bf_ways (l1 l2 : Addr) : (bf l1 l2).lookup ("ways" : Str) = some (.ref l2) := by
  unfold bf
  rw [lookup_putF, if_pos rfl]
theorem bf_no (l1 l2 : Addr) {m : Str} (h1 : ¬ m = "ways") (h2 : ¬ m = "swaps") : (bf l1 l2).lookup m = none := by
  unfold bf
  rw [lookup_putF, if_neg h1, lookup_putF, if_neg h2]
  all_goals rfl
/-- a Brought stands at x, its exchanges at l1, its ways at l2 -/
structure BrAt (C : Addr) (H : Hp) (x l1 l2 : Addr) (swaps ways : List Int) : Prop where
  ob : ∃ dx, H x = some (.ins C dx (bf l1 l2))
  h1 : H l1 = some (.lst (vi swaps))
  h2 : H l2 = some (.lst (vi ways))
theorem BrAt.same {C : Addr} {H H' : Hp} {x l1 l2 : Addr} {swaps ways : List Int} (B : BrAt C H x l1 l2 swaps ways) (s : Same H H') : BrAt C H' x l1 l2 swaps ways :=
  ⟨let ⟨dx, h⟩ := B.ob; ⟨dx, s _ _ h⟩, s _ _ B.h1, s _ _ B.h2⟩
section
variable {P : Program} {w : World} {K : PySem.W.Frag} {mg : Str → Option Value} {base : Heap}
def sp_B_init (C : Addr) (K : PySem.W.Frag) : Sp := fun vs H Q _ => ∃ (x dx a b : Addr) (sw wy : List Int), vs = [.ref x, .ref a, .ref b] ∧ H x = some (.ins C dx []) ∧ SqL K H a (vi sw) ∧ SqL K H b (vi wy) ∧
  ∀ H' l1 l2, (∀ b o, H b = some o → b ≠ x → H' b = some o) → H l1 = none → H l2 = none → l1 ≠ l2 → BrAt C H' x l1 l2 sw wy → Q .non H'
theorem sq_out {K : PySem.W.Frag} {H H' : Hp} {x a C dx : Addr} {fs : List (Str × V)} {xs : List V} (hx : H x = some (.ins C dx fs)) (ha : SqL K H a xs) (s : ∀ b o, H b = some o → b ≠ x → H' b = some o) : SqL K H' a xs := by
  rcases ha with (h | ⟨o, h⟩) | h
  · exact .inl (.inl (s _ _ h (ne_of h hx (by intro z; cases z))))
  · exact .inl (.inr ⟨o, s _ _ h (ne_of h hx (by intro z; cases z))⟩)
  · exact .inr h
theorem ok_B_init (T : Txt K mg) : FnOk P w K mg base CX0 1 T.f_B_init T.d_B_init ["self", "swaps", "ways"] (sp_B_init T.C K) := by
  refine T.a_B_init.F.ok sc_B_init (fun vs H Q E h => ?_) (fun cdv A outer s H vs Q E hr h => ?_)
  · obtain ⟨x, dx, a, b, sw, wy, rfl, _⟩ := h
    rfl
  · obtain ⟨x, dx, a, b, sw, wy, rfl, hx, ha, hb, k⟩ := h
    refine ⟨_, (pss_cons (ps_fld (pv 0) (pe_callTy lstZ (by rfl) T.z_list (by decide +kernel) (pa_cons (pv 1) pa_nil)) rfl)
    (pss_one (ps_fld (pv 0) (pe_callTy lstZ (by rfl) T.z_list (by decide +kernel) (pa_cons (pv 2) pa_nil)) rfl))), ?_⟩
    refine ⟨_, rfl, a, sw, rfl, ha, fun l1 hl1 => ?_⟩
    have n1 : x ≠ l1 := ne_of_none hx hl1
    refine ⟨_, rfl, x, T.C, dx, [], rfl, (by rw [upd_ne n1]; exact hx), T.cl, T.nS, (by show 0 < 1000; decide), ?_⟩
    have s1 : ∀ c o, H c = some o → c ≠ x → (upd (upd H l1 (.lst (vi sw))) x (.ins T.C dx (putF "swaps" (.ref l1) []))) c = some o := fun c o e ne => by
      rw [upd_ne ne, upd_ne (ne_of_none e hl1)]
      exact e
    refine ⟨_, rfl, b, wy, rfl, sq_out hx hb s1, fun l2 hl2 => ?_⟩
    have n2 : x ≠ l2 := fun z => by
      rw [z, upd_same] at hl2
      cases hl2
    have n3 : l1 ≠ l2 := fun z => by
      rw [← z, upd_ne (Ne.symm n1), upd_same] at hl2
      cases hl2
    have hl2' : H l2 = none := by
      rw [upd_ne (Ne.symm n2), upd_ne (Ne.symm n3)] at hl2
      exact hl2
    refine ⟨_, rfl, x, T.C, dx, _, rfl, (by rw [upd_ne n2]; exact upd_same), T.cl, T.nW, (by show 1 < 1000; decide), ?_⟩
    refine k _ l1 l2 (fun c o e ne => ?_) hl1 hl2' n3 ⟨⟨dx, upd_same⟩, ?_, ?_⟩
    · rw [upd_ne ne, upd_ne (ne_of_none e hl2')]
      exact s1 c o e ne
    · rw [upd_ne (Ne.symm n1), upd_ne n3, upd_ne (Ne.symm n1), upd_same]
    · rw [upd_ne (Ne.symm n2), upd_same]
def sp_B_shows (C : Addr) (K : PySem.W.Frag) : Sp := fun vs H Q _ => ∃ (x l1 l2 r : Addr) (sw wy row : List Int), vs = [.ref x, .ref r] ∧ BrAt C H x l1 l2 sw wy ∧ SqL K H r (vi row) ∧ RS.IsRow row ∧ row.length ≤ 1000 ∧ sw.length ≤ 10000 ∧
  ∀ H' (c : Bool), Same H H' → (c = true ↔ RS.Shows row sw wy) → Q (.bl c) H'
theorem ok_B_shows (T : Txt K mg) : FnOk P w K mg base CX0 3 T.f_B_shows T.d_B_shows ["self", "row"] (sp_B_shows T.C K) := by
  have G_are_places : FnOk P w K mg base CX0 2 T.f_are_places T.d_are_places ["swaps", "many"] (sp_are_places K) := ok_are_places T
  have G_are_ways : FnOk P w K mg base CX0 2 T.f_are_ways T.d_are_ways ["row", "ways"] (sp_are_ways K) := ok_are_ways T
  have G_behind : FnOk P w K mg base CX0 1 T.f_behind T.d_behind ["row", "swaps"] (sp_behind K) := ok_behind T
  have G_passes : FnOk P w K mg base CX0 1 T.f_passes T.d_passes ["row", "ways"] (sp_passes K) := ok_passes T
  refine T.a_B_shows.F.ok sc_B_shows (fun vs H Q E h => ?_) (fun cdv A outer s H vs Q E hr h => ?_)
  · obtain ⟨x, l1, l2, r, sw, wy, row, rfl, _⟩ := h
    rfl
  · obtain ⟨x, l1, l2, r, sw, wy, row, rfl, B, hrow, R, hl, hsw, k⟩ := h
    obtain ⟨dx, hx⟩ := B.ob
    refine ⟨_, (pss_cons (ps_if (PW.pt (pw_or (pt_not (pt_val (pe_call G_are_places hr rfl T.a_are_places.g T.a_are_places.F.kp T.a_are_places.b .nil pass0 (pa_cons (pe_fld (pv 0) rfl) (pa_cons (pe_callB lenZ (by rfl) T.z_len (by decide +kernel) (pa_cons (pv 1) pa_nil)) pa_nil))))) (pw_or1 (pt_not (pt_val (pe_call G_are_ways hr rfl T.a_are_ways.g T.a_are_ways.F.kp T.a_are_ways.b .nil pass0 (pa_cons (pv 1) (pa_cons (pe_fld (pv 0) rfl) pa_nil))))))))
    (pss_one (ps_ret pe_bl))
    pss_nil)
    (pss_one (ps_ret (pe_and (pe_cmpR (op_eqZ hr.units) (pe_call G_behind (hr.mono (by decide)) rfl T.a_behind.g T.a_behind.F.kp T.a_behind.b .nil pass0 (pa_cons (pv 1) (pa_cons (pe_fld (pv 0) rfl) pa_nil))) (pe_listRg rfl (by rfl) T.z_list (prg_1 (by rfl) T.z_range (pe_callB lenZ (by rfl) T.z_len (by decide +kernel) (pa_cons (pv 1) pa_nil)))) (nomark _)) (pe_one (pe_cmpR op_eq (pe_callB lenZ (by rfl) T.z_len (by decide +kernel) (pa_cons (pe_fld (pv 0) rfl) pa_nil)) (pe_call G_passes (hr.mono (by decide)) rfl T.a_passes.g T.a_passes.F.kp T.a_passes.b .nil pass0 (pa_cons (pv 1) (pa_cons (pe_fld (pv 0) rfl) pa_nil))) (nomark _))))))), ?_⟩
    refine ⟨_, rfl, x, T.C, dx, _, _, rfl, hx, T.cl, T.nS, bf_swaps _ _, _, rfl, r, row, _, rfl, hrow, rfl, l1, sw, _, rfl, SqL.of B.h1, hsw, fun H1 c1 s1 hc1 => ⟨_, rfl, ?_⟩⟩
    refine ite_not (fun e => iteT (k H1 false s1 (ff_iff fun S => ?_))) fun e => ?_
    · have := hc1.mpr S.pl
      rw [e] at this
      cases this
    have pl := hc1.mp e
    have B1 := B.same s1
    refine ⟨_, rfl, _, rfl, x, T.C, dx, _, _, rfl, s1 _ _ hx, T.cl, T.nW, bf_ways _ _, r, l2, row, wy, rfl, s1.seq hrow, SqL.of B1.h2, R, hl, fun H2 c2 s2 hc2 => ⟨_, rfl, ?_⟩⟩
    have s12 := Same.trans s1 s2
    refine ite_not (fun e => k H2 false s12 (ff_iff fun S => ?_)) fun e => ?_
    · have := hc2.mpr S.are
      rw [e] at this
      cases this
    have are := hc2.mp e
    have B2 := B.same s12
    refine ⟨_, rfl, _, rfl, x, T.C, dx, _, _, rfl, s12 _ _ hx, T.cl, T.nS, bf_swaps _ _, r, l1, row, sw, rfl, s12.seq hrow, SqL.of B2.h1, pl, fun H3 p s3 hp0 hp => ?_⟩
    have s13 := Same.trans s12 s3
    refine ⟨_, rfl, r, row, _, rfl, s13.seq hrow, rfl, _, rfl, rgOk_n (by omega), fun q hq => ?_⟩
    have npq : p ≠ q := ne_of_none hp hq
    refine ⟨p, q, RS.doneL row sw, RS.ids row.length, rfl, rfl, SqL.of (by rw [upd_ne npq]; exact hp), SqL.of (by rw [upd_same, rgV_ids]), fun c3 hc3 => ?_⟩
    have s4 := same_new s13 hq (o := .lst (rgV 0 (row.length : Int)))
    have B4 := B.same s4
    refine ⟨_, rfl, ?_⟩
    refine ite_b (fun e => ?_) fun e => ?_
    · have hm := hc3.mp e
      refine ⟨_, rfl, x, T.C, dx, _, _, rfl, s4 _ _ hx, T.cl, T.nS, bf_swaps _ _, l1, sw, _, rfl, SqL.of B4.h1, rfl, ?_⟩
      refine ⟨_, rfl, _, rfl, x, T.C, dx, _, _, rfl, s4 _ _ hx, T.cl, T.nW, bf_ways _ _, r, l2, row, wy, rfl, s4.seq hrow, SqL.of B4.h2, R, are.len, hl, rfl, ?_⟩
      refine k _ _ s4 (dv_iff.trans ⟨fun h => ⟨pl, are, hm, h⟩, fun S => S.num⟩)
    · refine k _ false s4 (ff_iff fun S => ?_)
      have := hc3.mpr S.home
      have e' : c3 = false := e
      rw [e'] at this
      cases this
def sp_l_due (K : PySem.W.Frag) : Sp := fun vs H Q _ => ∃ (r l1 l2 : Addr) (sw wy row : List Int), vs = [.ref r, .ref l1, .ref l2] ∧ SqL K H r (vi row) ∧ SqL K H l1 (vi sw) ∧ SqL K H l2 (vi wy) ∧ RS.IsRow row ∧ row.length ≤ 1000 ∧ sw.length ≤ 10000 ∧ wy.length ≤ 10000 ∧
  ∀ H' (c : Bool), Same H H' → (c = true ↔ RS.Shows row sw wy) → Q (.bl c) H'
theorem ok_l_due (T : Txt K mg) : FnOk P w K mg base CX0 2 T.f_l_due T.d_l_due ["_law_row_here", "_law_swaps", "_law_ways"] (sp_l_due K) := by
  have G_l_whole : FnOk P w K mg base CX0 1 T.f_l_whole T.d_l_whole ["_law_number_here"] sp_is_whole := ok_l_whole T
  have G_l_done : FnOk P w K mg base CX0 1 T.f_l_done T.d_l_done ["_law_row_here", "_law_swaps"] (sp_behind K) := ok_l_done T
  have G_l_passes : FnOk P w K mg base CX0 1 T.f_l_passes T.d_l_passes ["_law_row_here", "_law_ways"] (sp_passes K) := ok_l_passes T
  refine T.a_l_due.F.ok sc_l_due (fun vs H Q E h => ?_) (fun cdv A outer s H vs Q E hr h => ?_)
  · obtain ⟨r, l1, l2, sw, wy, row, rfl, _⟩ := h
    rfl
  · obtain ⟨r, l1, l2, sw, wy, row, rfl, ha, hs, hb, R, hl, hsw, hwy, k⟩ := h
    have n3 := R.three
    refine ⟨_, (pss_cons (ps_set (i := 3) sc_l_due.nd rfl (Or.inr rfl) (pe_callB lenZ (by rfl) T.z_len (by decide +kernel) (pa_cons (pv 0) pa_nil)))
    (pss_cons (ps_if (pt_not (pt_val (pe_callB (allZ rfl) (by rfl) T.z_all (by decide +kernel) (pa_cons (pe_lc (own := [("_law_place", 4)]) (g := gName 4) (tt := tYes) rfl sc_l_due.nd (pi_list (pv 1)) (blkOk_by (N := ["_law_row_here", "_law_swaps", "_law_ways", "_law_size", "_law_place", "_law_thing", "_law_way"]) (sc := defScope s_l_due) (by decide +kernel)) (fun _ _ _ _ _ => pg_name (i := 4) sc_l_due.nd rfl (Or.inl rfl)) (fun _ _ _ _ _ => pts_nil) (fun _ _ _ _ _ => (pe_and (pe_call G_l_whole hr rfl T.a_l_whole.g T.a_l_whole.F.kp T.a_l_whole.b .nil pass0 (pa_cons (pv 4) pa_nil)) (pe_one (pe_chain op_le op_lt pe_int (pv 4) (pv 3)))))) pa_nil))))
    (pss_one (ps_ret pe_bl))
    pss_nil)
    (pss_cons (ps_if (PW.pt (pw_or (pt_cmpR op_ne (pe_callB lenZ (by rfl) T.z_len (by decide +kernel) (pa_cons (pv 2) pa_nil)) (pv 3) (nomark _)) (pw_or (pt_not (pt_val (pe_callB (allZ rfl) (by rfl) T.z_all (by decide +kernel) (pa_cons (pe_lc (own := [("_law_way", 6)]) (g := gName 6) (tt := tYes) rfl sc_l_due.nd (pi_list (pv 2)) (blkOk_by (N := ["_law_row_here", "_law_swaps", "_law_ways", "_law_size", "_law_place", "_law_thing", "_law_way"]) (sc := defScope s_l_due) (by decide +kernel)) (fun _ _ _ _ _ => pg_name (i := 6) sc_l_due.nd rfl (Or.inl rfl)) (fun _ _ _ _ _ => pts_nil) (fun _ _ _ _ _ => (pe_call G_l_whole hr rfl T.a_l_whole.g T.a_l_whole.F.kp T.a_l_whole.b .nil pass0 (pa_cons (pv 6) pa_nil)))) pa_nil)))) (pw_or1 (pt_cmpR op_ne (pe_callB (cr_sum rfl) (by rfl) T.z_sum (by decide +kernel) (pa_cons (pv 2) pa_nil)) pe_int (nomark _))))))
    (pss_one (ps_ret pe_bl))
    pss_nil)
    (pss_cons (ps_if (PW.pt (pw_or (pt_cmpR op_gt (pe_op op_sub (pe_callB (cr_max rfl) (by rfl) T.z_max (by decide +kernel) (pa_cons (pv 2) pa_nil)) (pe_callB (cr_min rfl) (by rfl) T.z_min (by decide +kernel) (pa_cons (pv 2) pa_nil))) (pv 3) (nomark _)) (pw_or1 (pt_cmpR (op_neZ hr.units) (pe_call G_l_done hr rfl T.a_l_done.g T.a_l_done.F.kp T.a_l_done.b .nil pass0 (pa_cons (pv 0) (pa_cons (pv 1) pa_nil))) (pe_listRg rfl (by rfl) T.z_list (prg_1 (by rfl) T.z_range (pv 3))) (nomark _)))))
    (pss_one (ps_ret pe_bl))
    pss_nil)
    (pss_cons (ps_if (pt_not (pt_val (pe_callB (allZ rfl) (by rfl) T.z_all (by decide +kernel) (pa_cons (pe_lc (own := [("_law_place", 4), ("_law_thing", 5)]) (g := (gTup K 2 (gCons (gName 4) (gCons (gName 5) gNil)))) (tt := tYes) rfl sc_l_due.nd (pi_enum (by rfl) T.z_enumerate (pa_cons (pv 0) pa_nil)) (blkOk_by (N := ["_law_row_here", "_law_swaps", "_law_ways", "_law_size", "_law_place", "_law_thing", "_law_way"]) (sc := defScope s_l_due) (by decide +kernel)) (fun _ _ _ _ _ => pg_tup rfl (pgs_cons (pg_name (i := 4) sc_l_due.nd rfl (Or.inl rfl)) (pgs_cons (pg_name (i := 5) sc_l_due.nd rfl (Or.inl rfl)) pgs_nil))) (fun _ _ _ _ _ => pts_nil) (fun _ _ _ _ _ => (pe_cmpR op_eq (pe_op op_modZ (pe_op op_sub (pe_op op_add (pv 4) (pe_ix (r := rIxZ K) ixZ (pv 2) (pv 5) (fun _ _ => rfl))) (pv 5)) (pv 3)) pe_int (nomark _)))) pa_nil))))
    (pss_one (ps_ret pe_bl))
    pss_nil)
    (pss_one (ps_ret (pe_cmpR op_eq (pe_callB lenZ (by rfl) T.z_len (by decide +kernel) (pa_cons (pv 1) pa_nil)) (pe_call G_l_passes hr rfl T.a_l_passes.g T.a_l_passes.F.kp T.a_l_passes.b .nil pass0 (pa_cons (pv 0) (pa_cons (pv 2) pa_nil))) (nomark _))))))))), ?_⟩
    refine ⟨_, rfl, r, row, _, rfl, ha, rfl, ?_⟩
    -- all places
    refine ⟨_, rfl, l1, rfl, ⟨_, hs⟩, fun D hD => lc_list (K := K) (a := l1) (xs := vi sw) (fun i H2 => LI H D (fun i => .bl (decide (0 ≤ RS.fr sw i ∧ RS.fr sw i < row.length))) i H2) (li_start (Same.refl H) hD) (fun i H2 _ L => L.s.seq hs) ?_ ?_⟩
    · rintro i x H2 hi L
      obtain ⟨hi', rfl⟩ := vi_get hi
      refine ⟨rfl, _, rfl, _, rfl, _, rfl, iteT ?_⟩
      refine ⟨_, rfl, _, _, rfl, rfl, _, rfl, ?_⟩
      refine ite_d (fun h0 => ?_) (fun h0 => ?_)
      · refine ⟨_, rfl, _, _, rfl, rfl, li_step L (Same.refl _) hD (by omega) (pl_dec h0)⟩
      · exact li_step L (Same.refl _) hD (by omega) (by rw [decide_eq_false (fun z => h0 z.1)])
    intro H1 L1
    rw [vi_len] at L1
    have s1 := L1.s
    refine ⟨D, _, rfl, SqL.of (li_bls L1), fun c1 hc1' => ⟨_, rfl, ?_⟩⟩
    have hc1 : c1 = true ↔ RS.plOk row.length sw := all_range hc1' ⟨fun h p hp => by
      obtain ⟨i, hi, e⟩ := RS.mem_fr hp
      have := of_decide_eq_true (h i hi)
      rw [e] at this
      exact this, fun h i hi => decide_eq_true (h _ (RS.fr_mem hi))⟩
    refine ite_not (fun e => k H1 false s1 (ff_iff fun S => ?_)) fun e => ?_
    · have := hc1.mpr S.pl
      rw [e] at this
      cases this
    have pl := hc1.mp e
    have ha1 := s1.seq ha
    have hs1 := s1.seq hs
    have hb1 := s1.seq hb
    refine ⟨_, rfl, l2, wy, _, rfl, hb1, rfl, _, rfl, rfl, _, rfl, ?_⟩
    refine ite_ne (fun hne => iteT (k H1 false s1 (ff_iff fun S => hne (by rw [S.are.len])))) fun he => ?_
    have wl : wy.length = row.length := by omega
    refine ⟨_, rfl, l2, rfl, ⟨_, hb1⟩, fun D2 hD2 => lc_list (K := K) (a := l2) (xs := vi wy) (fun i H2 => LI H1 D2 (fun _ => .bl true) i H2) (li_start (Same.refl H1) hD2) (fun i H2 _ L => L.s.seq hb1) ?_ ?_⟩
    · rintro i x H2 hi L
      obtain ⟨hi', rfl⟩ := vi_get hi
      exact ⟨rfl, _, rfl, _, rfl, li_step L (Same.refl _) hD2 (by omega) rfl⟩
    intro H2 L2
    have s2 := Same.trans s1 L2.s
    refine ⟨D2, _, rfl, SqL.of (li_bls L2), fun c hc => ⟨_, rfl, ?_⟩⟩
    have ec : c = true := hc.mpr fun b hb => by
      obtain ⟨_, _, rfl⟩ := List.mem_map.mp hb
      rfl
    subst ec
    refine ite_not (fun z => nomatch z) fun _ => ?_
    have hb2 := s2.seq hb
    refine ⟨_, rfl, l2, wy, rfl, hb2, rfl, _, rfl, ?_⟩
    refine ite_ne (fun hne => k H2 false s2 (ff_iff fun S => hne S.are.sum)) fun hsum => ?_
    refine ⟨_, rfl, l2, wy, rfl, hb2, by omega, fun M hM hM2 => ⟨_, rfl, l2, wy, rfl, hb2, by omega, fun m hm hm2 => ⟨_, _, rfl, rfl, _, rfl, _, _, rfl, rfl, _, rfl, ?_⟩⟩⟩
    refine ite_d (fun hgt => iteT (k H2 false s2 (ff_iff fun S => ?_))) fun hle => ?_
    · have := S.are.nor M hM m hm
      omega
    refine ⟨_, rfl, _, rfl, r, l1, row, sw, rfl, s2.seq ha, s2.seq hs, pl, fun H3 p s3' hp0 hp => ?_⟩
    have s3 := Same.trans s2 s3'
    refine ⟨_, rfl, _, rfl, rgOk_n (by omega), fun q hq => ?_⟩
    have npq : p ≠ q := ne_of_none hp hq
    refine ⟨p, q, RS.doneL row sw, RS.ids row.length, rfl, rfl, SqL.of (by rw [upd_ne npq]; exact hp), SqL.of (by rw [upd_same, rgV_ids]), fun c3 hc3 => ⟨_, rfl, ?_⟩⟩
    have s4 := same_new s3 hq (o := .lst (rgV 0 (row.length : Int)))
    refine ite_not (fun e => k _ false s4 (ff_iff fun S => ?_)) fun e => ?_
    · have := hc3.mpr S.home
      rw [e] at this
      cases this
    have hm' := hc3.mp e
    have ha4 := s4.seq ha
    have hb4 := s4.seq hb
    refine ⟨_, rfl, r, _, rfl, ha4, fun D5 hD5 => lc_it (walk_enum (K := K) (a := r) (xs := vi row)) (fun i H5 => LI _ D5 (fun i => .bl (cg row wy i)) i H5) (li_start (Same.refl _) hD5) (fun i H5 _ L5 => L5.s.seq ha4) ?_ ?_⟩
    · rintro i x H5 H6 hi L5 ⟨t, u, v, rfl, ht, rfl, e1, e2⟩
      cases e1
      obtain ⟨hi', rfl⟩ := vi_get e2
      have s5 := same_new L5.s ht (o := .tup [V.int (i : Int), V.int (RS.fr row i)])
      have l1' := R.row.lo i hi'
      have l2' := R.row.hi i hi'
      refine ⟨t, _, rfl, .inl (Rd.of upd_same), rfl, _, _, rfl, _, _, rfl, rfl, rfl, ?_⟩
      refine ⟨_, rfl, _, rfl, _, rfl, l2, wy, _, _, rfl, rfl, s5.seq hb4, l1', by rw [wl]; exact l2', rfl, _, _, rfl, rfl, _, rfl, _, _, rfl, rfl, _, rfl, _, _, _, rfl, rfl, by omega, rfl, rfl, ?_⟩
      exact li_step L5 (same_new (Same.refl H5) ht) hD5 (by omega) rfl
    intro H5 L5
    rw [vi_len] at L5
    have s5 := Same.trans s4 L5.s
    refine ⟨D5, _, rfl, SqL.of (li_bls L5), fun c5 hc5' => ⟨_, rfl, ?_⟩⟩
    have hc5 : c5 = true ↔ RS.AreWays row wy := all_range hc5' ⟨fun h => ⟨wl, hsum, fun x hx y hy => by
        have := hM2 x hx
        have := hm2 y hy
        omega, fun p hp => dv_iff.mp (h p hp)⟩, fun A i hi => dv_iff.mpr (A.cong i hi)⟩
    refine ite_not (fun e => k H5 false s5 (ff_iff fun S => ?_)) fun e => ?_
    · have := hc5.mpr S.are
      rw [e] at this
      cases this
    have are := hc5.mp e
    refine ⟨_, rfl, l1, sw, _, rfl, s5.seq hs, rfl, _, rfl, _, rfl, r, l2, row, wy, rfl, s5.seq ha, s5.seq hb, R, wl, hl, rfl, ?_⟩
    exact k _ _ s5 (dv_iff.trans ⟨fun h => ⟨pl, are, hm', h⟩, fun S => S.num⟩)
def sp_l_says : Sp := fun vs H Q _ => ∃ a b : Bool, vs = [.bl a, .bl b] ∧ ∀ c : Bool, (c = true ↔ a = b) → Q (.bl c) H
theorem ok_l_says (T : Txt K mg) : FnOk P w K mg base CX0 1 T.f_l_says T.d_l_says ["_law_said", "_law_due_here"] sp_l_says := by
  refine T.a_l_says.F.ok sc_l_says (fun vs H Q E h => ?_) (fun cdv A outer s H vs Q E hr h => ?_)
  · obtain ⟨a, b, rfl, _⟩ := h
    rfl
  · obtain ⟨a, b, rfl, k⟩ := h
    refine ⟨_, (pss_one (ps_ret (pe_and (pe_callB call_isi (by rfl) T.z_isinstance (by decide +kernel) (pa_cons (pv 0) (pa_cons (pe_bltn (v := .ty "bool") (by rfl) T.z_bool (by decide +kernel) rfl) pa_nil))) (pe_one (pe_cmpR op_eq (pv 0) (pv 1) (nomark _)))))), ?_⟩
    refine ⟨_, rfl, _, _, _, _, true, rfl, ClsV.ty _, TyX.base (.bl a), kit_ty (by decide +kernel), _, rfl, iteT ?_⟩
    exact ⟨_, rfl, _, rfl, rfl, k _ (by rw [decide_eq_true_iff, V.bl.injEq])⟩
end
end Toy
set_option Elab.async false
set_option linter.all false
set_option maxRecDepth 100000
set_option maxHeartbeats 4000000
namespace Toy
open PySem L2
theorem map_fr (l : List Int) : (List.range l.length).map (RS.fr l) = l := by
  refine List.ext_getElem (by rw [List.length_map, List.length_range]) fun i h1 h2 => ?_
  rw [List.getElem_map, List.getElem_range, RS.fr_eq h2]
section
variable {P : Program} {w : World} {K : PySem.W.Frag} {mg : Str → Option Value} {base : Heap}
/-! ## check_row of a row -/
def sp_check_row : Sp := fun vs H Q _ => ∃ (a : Addr) (row : List Int), vs = [.ref a] ∧ H a = some (.lst (vi row)) ∧ RS.IsRow row ∧ row.length ≤ 1000 ∧ ∀ H', Same H H' → Q .non H'
theorem ok_check_row (T : Txt K mg) : FnOk P w K mg base CX0 2 T.f_check_row T.d_check_row ["row"] sp_check_row := by
  have G_is_whole : FnOk P w K mg base CX0 1 T.f_is_whole T.d_is_whole ["thing"] sp_is_whole := ok_is_whole T
  refine T.a_check_row.F.ok sc_check_row (fun vs H Q E h => ?_) (fun cdv A outer s H vs Q E hr h => ?_)
  · obtain ⟨a, row, rfl, _⟩ := h
    rfl
  · obtain ⟨a, row, rfl, ha, R, hl, k⟩ := h
    have n3 := R.three
    have sq : SqL K H a (vi row) := SqL.of ha
    refine ⟨_, (pss_cons (ps_if (PW.pt (pw_or (pt_not (pt_val (pe_callB call_isi (by rfl) T.z_isinstance (by decide +kernel) (pa_cons (pv 0) (pa_cons (pe_bltn (v := .ty "list") (by rfl) T.z_list (by decide +kernel) rfl) pa_nil))))) (pw_or (pt_cmpR op_lt (pe_callB lenZ (by rfl) T.z_len (by decide +kernel) (pa_cons (pv 0) pa_nil)) pe_int (nomark _)) (pw_or1 (pt_not (pt_val (pe_callB (allZ rfl) (by rfl) T.z_all (by decide +kernel) (pa_cons (pe_lc (own := [("thing", 1)]) (g := gName 1) (tt := tYes) rfl sc_check_row.nd (pi_list (pv 0)) (blkOk_by (N := ["row", "thing"]) (sc := defScope s_check_row) (by decide +kernel)) (fun _ _ _ _ _ => pg_name (i := 1) sc_check_row.nd rfl (Or.inl rfl)) (fun _ _ _ _ _ => pts_nil) (fun _ _ _ _ _ => (pe_call G_is_whole hr rfl T.a_is_whole.g T.a_is_whole.F.kp T.a_is_whole.b .nil pass0 (pa_cons (pv 1) pa_nil)))) pa_nil))))))))
    (pss_one ps_never)
    pss_nil)
    (pss_one (ps_if (pt_cmpR (op_neZ hr.units) (pe_callB cr_sortedI (by rfl) T.z_sorted (by decide +kernel) (pa_cons (pv 0) pa_nil)) (pe_listRg rfl (by rfl) T.z_list (prg_1 (by rfl) T.z_range (pe_callB lenZ (by rfl) T.z_len (by decide +kernel) (pa_cons (pv 0) pa_nil)))) (nomark _))
    (pss_one ps_never)
    pss_nil))), ?_⟩
    refine ⟨_, rfl, _, _, _, _, true, rfl, ClsV.ty _, TyX.base (.lst ha), kit_ty (by decide +kernel), _, rfl, ?_⟩
    refine ite_not (fun z => nomatch z) fun _ => ?_
    refine ⟨_, rfl, a, row, _, rfl, sq, rfl, _, _, rfl, rfl, _, rfl, ?_⟩
    refine ite_d (fun lt => by omega) fun _ => ?_
    refine ⟨_, rfl, a, rfl, ⟨_, sq⟩, fun D hD => lc_list (K := K) (a := a) (xs := vi row) (fun i H2 => LI H D (fun _ => .bl true) i H2) (li_start (Same.refl H) hD) (fun i H2 _ L => L.s.seq sq) ?_ ?_⟩
    · rintro i x H2 hi L
      obtain ⟨hi', rfl⟩ := vi_get hi
      exact ⟨rfl, _, rfl, _, rfl, li_step L (Same.refl _) hD (by omega) rfl⟩
    intro H2 L
    refine ⟨D, _, rfl, SqL.of (li_bls L), fun c hc => ⟨_, rfl, ?_⟩⟩
    have ec : c = true := hc.mpr fun b hb => by
      obtain ⟨_, _, rfl⟩ := List.mem_map.mp hb
      rfl
    subst ec
    refine ite_not (fun z => nomatch z) fun _ => ?_
    refine ⟨_, rfl, a, row, rfl, L.s.seq sq, fun ns p perm rising hp => ?_⟩
    have s3 := same_new L.s hp (o := .lst (ns.map V.int))
    refine ⟨_, rfl, a, row, _, rfl, s3.seq sq, rfl, _, rfl, rgOk_n (by omega), fun q hq => ?_⟩
    have npq : p ≠ q := ne_of_none upd_same hq
    refine ⟨p, q, ns, RS.ids row.length, rfl, rfl, SqL.of (by rw [upd_ne npq, upd_same]), SqL.of (by rw [upd_same, rgV_ids]), fun c2 hc2 => ⟨_, rfl, ?_⟩⟩
    have e : c2 = true := hc2.mpr ((RS.sorted_row (by omega) perm rising).mpr R.row)
    refine ite_not (fun z => ?_) fun _ => k _ (same_new s3 hq)
    rw [e] at z
    cases z
/-! ## ways_of -/
def sp_ways_of (K : PySem.W.Frag) : Sp := fun vs H Q _ => ∃ (a : Addr) (row : List Int), vs = [.ref a] ∧ SqL K H a (vi row) ∧ RS.IsRow row ∧ row.length ≤ 1000 ∧
  ∀ H' p ws, Same H H' → H p = none → H' p = some (.lst (vi ws)) → RS.NorW row ws → Q (.ref p) H'
theorem ok_ways_of (T : Txt K mg) : FnOk P w K mg base CX0 1 T.f_ways_of T.d_ways_of ["row"] (sp_ways_of K) := by
  refine T.a_ways_of.F.ok sc_ways_of (fun vs H Q E h => ?_) (fun cdv A outer s H vs Q E hr h => ?_)
  · obtain ⟨a, row, rfl, _⟩ := h
    rfl
  · obtain ⟨a, row, rfl, ha, R, hl, k⟩ := h
    have n3 := R.three
    refine ⟨_, (pss_cons (ps_set (i := 1) sc_ways_of.nd rfl (Or.inl rfl) (pe_callB lenZ (by rfl) T.z_len (by decide +kernel) (pa_cons (pv 0) pa_nil)))
    (pss_cons (ps_set (i := 2) sc_ways_of.nd rfl (Or.inl rfl) (pe_op op_repZ (pe_lst (pa_cons pe_int pa_nil)) (pv 1)))
    (pss_cons (ps_for PassesOwn.never rfl (pi_enum (by rfl) T.z_enumerate (pa_cons (pv 0) pa_nil)) (pg_tup (by rfl) (pgs_cons (pg_name (i := 3) sc_ways_of.nd rfl (Or.inl rfl)) (pgs_cons (pg_name (i := 4) sc_ways_of.nd rfl (Or.inl rfl)) pgs_nil)))
    (pss_one (ps_asg (pe_op op_sub (pv 4) (pv 3)) (pg_sub (pv 2) (pv 4) setZ))))
    (pss_cons (ps_while PassesOwn.never (pt_cmpR op_gt (pe_op op_sub (pe_callB (cr_max rfl) (by rfl) T.z_max (by decide +kernel) (pa_cons (pv 2) pa_nil)) (pe_callB (cr_min rfl) (by rfl) T.z_min (by decide +kernel) (pa_cons (pv 2) pa_nil))) (pv 1) (nomark _))
    (pss_cons (ps_par (by rfl) sc_ways_of.nd (i := 5) (j := 6) rfl rfl (by decide) rfl rfl (pa_cons (pe_bm PySem.F.plainAttrs_list PySem.F.slot_list_index PySem.F.type_list_index indZ (pv 2) (pa_cons (pe_callB (cr_max rfl) (by rfl) T.z_max (by decide +kernel) (pa_cons (pv 2) pa_nil)) pa_nil)) (pa_cons (pe_bm PySem.F.plainAttrs_list PySem.F.slot_list_index PySem.F.type_list_index indZ (pv 2) (pa_cons (pe_callB (cr_min rfl) (by rfl) T.z_min (by decide +kernel) (pa_cons (pv 2) pa_nil)) pa_nil)) pa_nil)) (by rfl))
      (pss_cons (ps_augS (pv 2) (pv 5) getZ (pv 1) ip_sub setZ)
      (pss_one (ps_augS (pv 2) (pv 6) getZ (pv 1) ip_add setZ)))))
    (pss_one (ps_ret (pv 2))))))), ?_⟩
    refine ⟨_, rfl, a, row, _, rfl, ha, rfl, ?_⟩
    refine ⟨(by show 1 ≤ sizeLine; decide), fun l0 hl0 => ⟨_, rfl, l0, _, _, rfl, rfl, upd_same, by omega, by omega, fun l hl' => ?_⟩⟩
    have s1 := same_new (Same.refl H) hl0 (o := .lst [.int 0])
    have hl1 : H l = none := s1.free hl'
    have s2 := same_new s1 hl' (o := .lst (vi (List.replicate ((row.length : Int)).toNat 0)))
    refine ⟨_, rfl, a, _, rfl, s2.seq ha, for_it (walk_enum (K := K) (a := a) (xs := vi row)) (fun i σ H2 => ∃ (ws : List Int) (v u : Option V), σ = [some (.ref a), some (.int (row.length : Int)), some (.ref l), v, u, none, none] ∧ Same H H2 ∧ H2 l = some (.lst (vi ws)) ∧ ws.length = row.length ∧ ∀ j, j < i → RS.fr ws (RS.fr row j).toNat = RS.fr row j - j)
      ⟨_, none, none, rfl, s2, upd_same, by rw [List.length_replicate]; omega, fun j hj => absurd hj (Nat.not_lt_zero _)⟩ (fun i σ H2 _ ⟨_, _, _, _, s2, _⟩ => s2.seq ha) ?_ ?_⟩
    · rintro i x σ H2 H3 hi ⟨ws, v, u, rfl, s3, hL, wl, hw⟩ ⟨t, y, z, rfl, ht, rfl, e1, e2⟩
      cases e1
      obtain ⟨hi', rfl⟩ := vi_get e2
      have l1 := R.row.lo i hi'
      have l2 := R.row.hi i hi'
      have ntl : l ≠ t := ne_of_none hL ht
      refine ⟨t, _, rfl, .inl (Rd.of upd_same), rfl, _, _, rfl, _, _, rfl, rfl, ?_⟩
      refine ⟨_, rfl, _, rfl, _, _, rfl, rfl, _, rfl, _, rfl, l, ws, _, _, rfl, rfl, rfl, (by rw [upd_ne ntl]; exact hL), l1, by rw [wl]; exact l2, ?_⟩
      refine ⟨_, _, _, rfl, same_mut (same_new s3 ht) hl1, upd_same, by rw [List.length_set]; exact wl, fun j hj => ?_⟩
      rw [RS.fr_set (by omega)]
      by_cases e : j = i
      · rw [e, if_pos rfl]
      · rw [if_neg (fun z => e (R.row.inj j i (by omega) hi' (by
          have := R.row.lo j (by omega)
          omega)))]
        exact hw j (by omega)
    · rintro σ H2 ⟨ws, v, u, rfl, s3, hL, wl, hw⟩
      rw [vi_len] at hw
      refine ⟨fun m σ H2 => ∃ (ws : List Int) (v u f g : Option V), σ = [some (.ref a), some (.int (row.length : Int)), some (.ref l), v, u, f, g] ∧ Same H H2 ∧ H2 l = some (.lst (vi ws)) ∧ RS.WInv row ws ∧ m = RS.wsize ws, ⟨_, ws, v, u, none, none, rfl, s3, hL, RS.winv_start R wl hw, rfl⟩, ?_⟩
      rintro m σ H2 ⟨ws, v, u, f, g, rfl, s3, hL, W, rfl⟩
      have sq := SqL.of (K := K) hL
      have wl := W.len
      refine ⟨_, rfl, l, ws, rfl, sq, by omega, fun M hM hM2 => ⟨_, rfl, l, ws, rfl, sq, by omega, fun m hm hm2 => ⟨_, _, rfl, rfl, _, rfl, _, _, rfl, rfl, _, rfl, ?_⟩⟩⟩
      refine ite_d (fun gt => ?_) fun le => ?_
      · refine ⟨fun σ' H' => ∃ ws', RS.wsize ws' < RS.wsize ws ∧ ∃ (v u f g : Option V), σ' = [some (.ref a), some (.int (row.length : Int)), some (.ref l), v, u, f, g] ∧ Same H H' ∧ H' l = some (.lst (vi ws')) ∧ RS.WInv row ws', fun σ' H' ⟨ws', lt, v, u, f, g, e1, e2, e3, e4⟩ => ⟨_, lt, ws', v, u, f, g, e1, e2, e3, e4, rfl⟩, ?_⟩
        refine ⟨_, rfl, .inl ⟨rfl, _, sq⟩, _, rfl, l, ws, rfl, sq, by omega, fun M' hM' hM2' => ⟨l, ws, _, rfl, rfl, sq, hM', fun f' hf' ef => ?_⟩⟩
        refine ⟨_, rfl, .inl ⟨rfl, _, sq⟩, _, rfl, l, ws, rfl, sq, by omega, fun m' hm' hm2' => ⟨l, ws, _, rfl, rfl, sq, hm', fun g' hg' eg => ?_⟩⟩
        have d1 := hM2' M hM
        have d2 := hm2' m hm
        have ne : f' ≠ g' := fun z => by
          subst z
          omega
        have e3 : RS.fr (ws.set f' (RS.fr ws f' - (row.length : Int))) g' = RS.fr ws g' := by rw [RS.fr_set hf', if_neg (Ne.symm ne)]
        refine ⟨_, _, rfl, ?_⟩
        refine ⟨_, rfl, _, rfl, l, ws, _, _, rfl, rfl, sq, by omega, by omega, rfl, _, rfl, _, _, rfl, rfl, l, ws, _, _, rfl, rfl, rfl, hL, by omega, by omega, ?_⟩
        refine ⟨_, rfl, _, rfl, l, _, _, _, rfl, rfl, SqL.of upd_same, by omega, (by rw [List.length_set]; omega), e3, _, rfl, _, _, rfl, rfl, l, _, _, _, rfl, rfl, rfl, upd_same, by omega, (by rw [List.length_set]; omega), ?_⟩
        refine ⟨RS.bal row.length ws f' g', RS.wsize_less (by omega) hf' hg' ne (by omega), _, _, _, _, rfl, same_mut (same_mut s3 hl1) hl1, upd_same, RS.winv_step W (by omega) (by omega) ne⟩
      · refine ⟨_, rfl, k H2 l ws s3 hl1 hL (RS.winv_end R W fun x y hx hy => ?_)⟩
        have := hM2 _ (RS.fr_mem (l := ws) (i := x) (by omega))
        have := hm2 _ (RS.fr_mem (l := ws) (i := y) (by omega))
        omega
/-! ## swaps_by -/
def sp_swaps_by (K : PySem.W.Frag) : Sp := fun vs H Q _ => ∃ (a b : Addr) (row ways : List Int), vs = [.ref a, .ref b] ∧ SqL K H a (vi row) ∧ SqL K H b (vi ways) ∧ RS.IsRow row ∧ row.length ≤ 100 ∧ RS.NorW row ways ∧
  ∀ H' p fs, Same H H' → H p = none → H' p = some (.lst (vi fs)) → RS.Found row ways fs → Q (.ref p) H'
theorem ok_swaps_by (T : Txt K mg) : FnOk P w K mg base CX0 1 T.f_swaps_by T.d_swaps_by ["row", "ways"] (sp_swaps_by K) := by
  refine T.a_swaps_by.F.ok sc_swaps_by (fun vs H Q E h => ?_) (fun cdv A outer s H vs Q E hr h => ?_)
  · obtain ⟨a, b, row, ways, rfl, _⟩ := h
    rfl
  · obtain ⟨a, b, row, ways, rfl, ha, hb, R, hl, W, k⟩ := h
    have n3 := R.three
    have most := RS.passes_most R W
    have m2 : ((row.length : Int) * row.length) / 4 ≤ 2500 := by
      have : (row.length : Int) * row.length ≤ 100 * 100 := Int.mul_le_mul (by omega) (by omega) (by omega) (by omega)
      omega
    refine ⟨_, (pss_cons (ps_set (i := 2) sc_swaps_by.nd rfl (Or.inl rfl) (pe_callB lenZ (by rfl) T.z_len (by decide +kernel) (pa_cons (pv 0) pa_nil)))
    (pss_cons (ps_setLc (i := 3) (own := [("thing", 8)]) (g := gName 8) (tt := tYes) rfl sc_swaps_by.nd rfl rfl (sw_true rfl rfl rfl (by decide +kernel)) (pi_list (pv 0)) (blkOk_by (N := ["row", "ways", "many", "left", "found", "waiting", "place", "after", "thing"]) (sc := defScope s_swaps_by) (by decide +kernel)) (fun _ _ _ _ _ => pg_name (i := 8) sc_swaps_by.nd rfl (Or.inl rfl)) (fun _ _ _ _ _ => pts_nil) (fun _ _ _ _ _ => (pe_ix (r := rIxZ K) ixZ (pv 1) (pv 8) (fun _ _ => rfl))))
    (pss_cons (ps_set (i := 4) sc_swaps_by.nd rfl (Or.inl rfl) (pe_lst pa_nil))
    (pss_cons (ps_setLc (i := 5) (own := [("place", 6)]) (g := gName 6) (tt := tYes) rfl sc_swaps_by.nd rfl rfl (sw_true rfl rfl rfl (by decide +kernel)) (pi_range1 rfl T.z_range (pa_cons (pv 2) pa_nil)) (blkOk_by (N := ["row", "ways", "many", "left", "found", "waiting", "place", "after", "thing"]) (sc := defScope s_swaps_by) (by decide +kernel)) (fun _ _ _ _ _ => pg_name (i := 6) sc_swaps_by.nd rfl (Or.inl rfl)) (fun _ _ _ _ _ => pts_nil) (fun _ _ _ _ _ => (pv 6)))
    (pss_cons (ps_while PassesOwn.never (pt_cmpR op_gt (pe_callB lenZ (by rfl) T.z_len (by decide +kernel) (pa_cons (pv 5) pa_nil)) pe_int (nomark _))
    (pss_cons (ps_set (i := 6) sc_swaps_by.nd rfl (Or.inl rfl) (pe_bm0 PySem.F.plainAttrs_list PySem.F.slot_list_pop PySem.F.type_list_pop popZ (pv 5)))
      (pss_cons (ps_set (i := 7) sc_swaps_by.nd rfl (Or.inl rfl) (pe_op op_modZ (pe_op op_add (pv 6) pe_int) (pv 2)))
      (pss_one (ps_if (pt_cmpR op_gt (pe_ix ixZ (pv 3) (pv 6) (fun _ _ => rfl)) (pe_ix ixZ (pv 3) (pv 7) (fun _ _ => rfl)) (nomark _))
      (pss_cons (ps_asg (pe_tup (pa_cons (pe_op op_add (pe_ix ixZ (pv 3) (pv 7) (fun _ _ => rfl)) pe_int) (pa_cons (pe_op op_sub (pe_ix ixZ (pv 3) (pv 6) (fun _ _ => rfl)) pe_int) pa_nil))) (pg_tup (by rfl) (pgs_cons (pg_sub (pv 3) (pv 6) setZ) (pgs_cons (pg_sub (pv 3) (pv 7) setZ) pgs_nil))))
        (pss_cons (ps_expr (pe_bm PySem.F.plainAttrs_list PySem.F.slot_list_append PySem.F.type_list_append appZ (pv 4) (pa_cons (pv 6) pa_nil)))
        (pss_one (ps_expr (pe_bm PySem.F.plainAttrs_list PySem.F.slot_list_extend PySem.F.type_list_extend extZ (pv 5) (pa_cons (pe_lst (pa_cons (pe_op op_modZ (pe_op op_sub (pv 6) pe_int) (pv 2)) (pa_cons (pv 7) (pa_cons (pv 6) pa_nil)))) pa_nil))))))
      pss_nil)))))
    (pss_one (ps_ret (pv 4)))))))), ?_⟩
    refine ⟨_, rfl, a, row, _, rfl, ha, rfl, ?_⟩
    -- left
    refine ⟨_, rfl, a, rfl, ⟨_, ha⟩, fun D hD => lc_list (K := K) (a := a) (xs := vi row) (fun i H2 => LI H D (fun i => .int (RS.fr (RS.leftL row ways) i)) i H2) (li_start (Same.refl H) hD) (fun i H2 _ L => L.s.seq ha) ?_ ?_⟩
    · rintro i x H2 hi L
      obtain ⟨hi', rfl⟩ := vi_get hi
      have l1 := R.row.lo i hi'
      have l2 := R.row.hi i hi'
      exact ⟨rfl, _, rfl, _, rfl, b, ways, _, _, rfl, rfl, L.s.seq hb, l1, by rw [W.len]; exact l2, rfl, li_step L (Same.refl _) hD (by omega) (by rw [RS.fr_leftL hi']; rfl)⟩
    intro H1 L1
    have hleft := li_ints L1
    rw [vi_len, ← RS.leftL_len row ways, map_fr] at hleft
    have s1 := L1.s
    -- found
    refine ⟨Nat.zero_le _, fun F hF => ?_⟩
    have s2 := same_new s1 hF (o := .lst [])
    have hF0 : H F = none := s1.free hF
    have nDF : D ≠ F := ne_of_none hleft hF
    -- waiting
    refine ⟨_, rfl, _, rfl, by omega, by omega, fun Wt hW => lc_range (lo := 0) (n := row.length) (fun i H2 => LI _ Wt (fun i => .int (0 + (i : Int))) i H2) (li_start (Same.refl _) hW) ?_ ?_⟩
    · rintro i H2 hi L
      exact ⟨rfl, _, rfl, li_step L (Same.refl _) hW (by omega) rfl⟩
    intro H3 L3
    have hW0 : H Wt = none := s2.free hW
    have s3 := Same.trans s2 L3.s
    have hwait : H3 Wt = some (.lst (vi (RS.ids row.length))) := by
      rw [li_ints L3]
      have : (List.range row.length).map (fun i : Nat => 0 + (i : Int)) = RS.ids row.length := List.map_congr_left fun i _ => Int.zero_add _
      rw [this]
    have nDW : D ≠ Wt := ne_of_none (by rw [upd_ne nDF]; exact hleft) hW
    have nFW : F ≠ Wt := ne_of_none (upd_same) hW
    have hleft3 : H3 D = some (.lst (vi (RS.leftL row ways))) := L3.s _ _ (by rw [upd_ne nDF]; exact hleft)
    have hfound3 : H3 F = some (.lst (vi [])) := L3.s _ _ upd_same
    -- the loop
    refine ⟨fun m σ H2 => ∃ (left found wait : List Int) (v u : Option V), σ = [some (.ref a), some (.ref b), some (.int (row.length : Int)), some (.ref D), some (.ref F), some (.ref Wt), v, u, none] ∧ Same H H2 ∧ H2 D = some (.lst (vi left)) ∧ H2 F = some (.lst (vi found)) ∧ H2 Wt = some (.lst (vi wait)) ∧ RS.Going row ways left found wait ∧ m = RS.goSize row.length left wait,
      ⟨_, RS.leftL row ways, [], RS.ids row.length, none, none, rfl, s3, hleft3, hfound3, hwait, RS.going_start W, rfl⟩, ?_⟩
    rintro m σ H2 ⟨left, found, wait, v, u, rfl, s4, hL, hFd, hWt, G, rfl⟩
    have fb := G.bound
    have wb := G.wlen
    have ll := G.llen
    refine ⟨_, rfl, Wt, wait, _, rfl, SqL.of hWt, rfl, _, _, rfl, rfl, _, rfl, ?_⟩
    refine ite_d (fun gt => ?_) fun le => ?_
    · obtain ⟨wt', p, ew⟩ : ∃ wt' p, wait = wt' ++ [p] := by
        rcases List.eq_nil_or_concat wait with e | ⟨l, p, e⟩
        · rw [e] at gt
          simp at gt
        · exact ⟨l, p, by rw [e]; simp⟩
      subst ew
      have hp := G.wt p (List.mem_append_right _ List.mem_cons_self)
      obtain ⟨e1, e2, e3⟩ := RS.nx_int hp.1 hp.2
      have npos : (0 : Int) < (row.length : Int) := by omega
      refine ⟨fun σ' H' => ∃ (left' found' wait' : List Int) (v u : Option V), RS.goSize row.length left' wait' < RS.goSize row.length left (wt' ++ [p]) ∧ σ' = [some (.ref a), some (.ref b), some (.int (row.length : Int)), some (.ref D), some (.ref F), some (.ref Wt), v, u, none] ∧ Same H H' ∧ H' D = some (.lst (vi left')) ∧ H' F = some (.lst (vi found')) ∧ H' Wt = some (.lst (vi wait')) ∧ RS.Going row ways left' found' wait',
        fun σ' H' ⟨l', f', w', v, u, lt, e1, e2, e3, e4, e5, e6⟩ => ⟨_, lt, l', f', w', v, u, e1, e2, e3, e4, e5, e6, rfl⟩, ?_⟩
      refine ⟨_, rfl, .inl ⟨rfl, _, SqL.of hWt⟩, Wt, wt', p, rfl, rfl, hWt, ?_⟩
      have s5 := same_mut s4 hW0 (o := .lst (vi wt'))
      have hL5 : (upd H2 Wt (.lst (vi wt'))) D = some (.lst (vi left)) := by rw [upd_ne nDW]; exact hL
      have hF5 : (upd H2 Wt (.lst (vi wt'))) F = some (.lst (vi found)) := by rw [upd_ne nFW]; exact hFd
      refine ⟨_, rfl, _, _, rfl, rfl, _, rfl, _, _, _, rfl, rfl, npos, rfl, ?_⟩
      refine ⟨_, rfl, _, rfl, D, left, _, _, rfl, rfl, SqL.of hL5, hp.1, by rw [ll]; exact hp.2, rfl, _, rfl, _, rfl, D, left, _, _, rfl, rfl, SqL.of hL5, e2, by rw [ll]; exact e3, by rw [e1], _, _, rfl, rfl, _, rfl, ?_⟩
      refine ite_d (fun dn => ?_) fun nd => ?_
      · refine ⟨_, rfl, _, rfl, D, left, _, _, rfl, rfl, SqL.of hL5, e2, by rw [ll]; exact e3, rfl, _, _, rfl, rfl, _, rfl, _, rfl, D, left, _, _, rfl, rfl, SqL.of hL5, hp.1, by rw [ll]; exact hp.2, rfl, _, _, rfl, rfl, (by show 2 ≤ sizeLine; decide), fun t ht => ?_⟩
        have nDt : D ≠ t := ne_of_none hL5 ht
        have nFt : F ≠ t := ne_of_none hF5 ht
        have nWt : Wt ≠ t := ne_of_none upd_same ht
        have s6 := same_new s5 ht (o := .tup [.int (RS.fr left ((p + 1) % (row.length : Int)).toNat + 1), .int (RS.fr left p.toNat - 1)])
        have hD0 : H D = none := hD
        refine ⟨t, _, rfl, .inl (Rd.of upd_same), rfl, _, _, rfl, _, rfl, _, rfl, D, left, _, _, rfl, rfl, rfl, (by rw [upd_ne nDt]; exact hL5), hp.1, by rw [ll]; exact hp.2, ?_⟩
        refine ⟨_, _, rfl, _, rfl, _, rfl, D, _, _, _, rfl, rfl, rfl, upd_same, e2, (by rw [List.length_set, ll]; exact e3), ?_⟩
        refine ⟨rfl, ?_⟩
        have s7 := same_mut (same_mut s6 hD0 (o := .lst (vi (left.set p.toNat (RS.fr left ((p + 1) % (row.length : Int)).toNat + 1))))) hD0 (o := .lst (vi ((left.set p.toNat (RS.fr left ((p + 1) % (row.length : Int)).toNat + 1)).set ((p + 1) % (row.length : Int)).toNat (RS.fr left p.toNat - 1))))
        have ex : (left.set p.toNat (RS.fr left ((p + 1) % (row.length : Int)).toNat + 1)).set ((p + 1) % (row.length : Int)).toNat (RS.fr left p.toNat - 1) = RS.swpW left p := by
          unfold RS.swpW
          rw [ll]; rfl
        -- found.append(place)
        refine ⟨_, rfl, .inl ⟨rfl, _, SqL.of (by rw [upd_ne (Ne.symm nDF), upd_ne (Ne.symm nDF), upd_ne nFt]; exact hF5)⟩, _, rfl, F, found, p, rfl, rfl, (by rw [upd_ne (Ne.symm nDF), upd_ne (Ne.symm nDF), upd_ne nFt]; exact hF5), by omega, ?_⟩
        have s8 := same_mut s7 hF0 (o := .lst (vi (found ++ [p])))
        -- waiting.extend
        refine ⟨_, rfl, .inl ⟨rfl, _, SqL.of (by rw [upd_ne (Ne.symm nFW), upd_ne (Ne.symm nDW), upd_ne (Ne.symm nDW), upd_ne nWt]; exact upd_same)⟩, ?_⟩
        refine ⟨_, rfl, _, _, rfl, rfl, _, rfl, _, _, _, rfl, rfl, npos, rfl, _, rfl, _, rfl, (by show 3 ≤ sizeLine; decide), fun e he => ?_⟩
        have nWe : Wt ≠ e := ne_of_none (by rw [upd_ne (Ne.symm nFW), upd_ne (Ne.symm nDW), upd_ne (Ne.symm nDW), upd_ne nWt]; exact upd_same) he
        have nFe : F ≠ e := ne_of_none upd_same he
        have nDe : D ≠ e := ne_of_none (by rw [upd_ne nDF]; exact upd_same) he
        have s9 := same_new s8 he (o := .lst [.int ((p - 1) % (row.length : Int)), .int ((p + 1) % (row.length : Int)), .int p])
        refine ⟨Wt, e, wt', [(p - 1) % (row.length : Int), (p + 1) % (row.length : Int), p], rfl, rfl, (by rw [upd_ne nWe, upd_ne (Ne.symm nFW), upd_ne (Ne.symm nDW), upd_ne (Ne.symm nDW), upd_ne nWt]; exact upd_same), upd_same, ?_, ?_⟩
        · rw [List.length_append, List.length_singleton] at wb
          simp only [List.length_cons, List.length_nil]
          omega
        have dn' : RS.fr left (RS.nx row.length p.toNat) < RS.fr left p.toNat := dn
        refine ⟨RS.swpW left p, found ++ [p], wt' ++ [(p - 1) % (row.length : Int), (p + 1) % (row.length : Int), p], _, _, RS.going_less R G dn', rfl, same_mut s9 hW0, ?_, ?_, upd_same, G.turn R dn'⟩
        · rw [upd_ne nDW, upd_ne nDe, upd_ne nDF, upd_same, ex]
        · rw [upd_ne nFW, upd_ne nFe, upd_same]
      · have nd' : ¬ RS.fr left (RS.nx row.length p.toNat) < RS.fr left p.toNat := nd
        refine ⟨left, found, wt', _, _, ?_, rfl, s5, hL5, hF5, upd_same, G.pass nd'⟩
        unfold RS.goSize
        rw [List.length_append, List.length_singleton]
        omega
    · have e : wait = [] := by
        apply List.length_eq_zero_iff.mp
        omega
      subst e
      exact ⟨_, rfl, k H2 F found s4 hF0 hFd (G.found R)⟩
end
end Toy
set_option Elab.async false
set_option linter.all false
set_option maxRecDepth 100000
set_option maxHeartbeats 4000000
namespace Toy
open PySem L2
def primes : List Int := [1000003, 1000033, 1000037, 1000039, 1000081, 1000099, 1000117, 1000121, 1000133, 1000151, 1000159, 1000171, 1000183, 1000187, 1000193, 1000199]
theorem primes_pos : ∀ j, j < 16 → 0 < RS.fr primes j := by decide
/-- the script's numbers, no greater than they may be -/
def Sc (ns : List Int) : Prop := ns.length ≤ 63 ∧ ∀ n ∈ ns, RS.BM 1048576 n
def cell (ns : List Int) (k : Int) : Int := if k < ns.length then RS.fr ns k.toNat else 0
theorem cell_bm {ns : List Int} (S : Sc ns) (k : Int) : RS.BM 1048576 (cell ns k) := by
  unfold cell
  by_cases h : k < ns.length
  · rw [if_pos h]
    by_cases h0 : k.toNat < ns.length
    · exact S.2 _ (RS.fr_mem h0)
    · unfold RS.fr
      rw [List.getD_eq_getElem?_getD, List.getElem?_eq_none (by omega)]
      exact ⟨0, Nat.zero_le _, by decide⟩
  · rw [if_neg h]
    exact ⟨0, Nat.zero_le _, by decide⟩
section
variable {P : Program} {w : World} {K : PySem.W.Frag} {mg : Str → Option Value} {base : Heap}
def sp_cell (K : PySem.W.Frag) : Sp := fun vs H Q _ => ∃ (a : Addr) (ns : List Int) (k : Int), vs = [.ref a, .int k] ∧ SqL K H a (vi ns) ∧ 0 ≤ k ∧ Q (.int (cell ns k)) H
theorem ok_l_cell_at (T : Txt K mg) : FnOk P w K mg base CX0 1 T.f_l_cell_at T.d_l_cell_at ["_law_script", "_law_k"] (sp_cell K) := by
  refine T.a_l_cell_at.F.ok sc_l_cell_at (fun vs H Q E h => ?_) (fun cdv A outer s H vs Q E hr h => ?_)
  · obtain ⟨a, ns, k, rfl, _⟩ := h
    rfl
  · obtain ⟨a, ns, i, rfl, ha, h0, k⟩ := h
    refine ⟨_, (pss_cons (ps_if (pt_cmpR op_lt (pv 1) (pe_callB lenZ (by rfl) T.z_len (by decide +kernel) (pa_cons (pv 0) pa_nil)) (nomark _))
    (pss_one (ps_ret (pe_ix ixZ (pv 0) (pv 1) (fun _ _ => rfl))))
    pss_nil)
    (pss_one (ps_ret pe_int))), ?_⟩
    refine ⟨_, rfl, _, rfl, a, ns, _, rfl, ha, rfl, _, _, rfl, rfl, _, rfl, ?_⟩
    unfold cell at k
    refine ite_d (fun h => ?_) fun h => ?_
    · rw [if_pos h] at k
      exact ⟨_, rfl, _, rfl, a, ns, _, _, rfl, rfl, ha, h0, h, rfl, k⟩
    · rw [if_neg h] at k
      exact k
def sp_draw : Sp := fun vs H Q _ => ∃ c k m : Int, vs = [.int c, .int k, .int m] ∧ 0 < m ∧ ∀ H' v, Same H H' → 0 ≤ v → v < m → Q (.int v) H'
theorem ok_l_draw (T : Txt K mg) : FnOk P w K mg base CX0 1 T.f_l_draw T.d_l_draw ["_law_cell", "_law_k", "_law_many"] sp_draw := by
  refine T.a_l_draw.F.ok sc_l_draw (fun vs H Q E h => ?_) (fun cdv A outer s H vs Q E hr h => ?_)
  · obtain ⟨c, k, m, rfl, _⟩ := h
    rfl
  · obtain ⟨c, i, m, rfl, hm, k⟩ := h
    refine ⟨_, (pss_cons (ps_set (i := 3) sc_l_draw.nd rfl (Or.inl rfl) (pe_tup (pa_cons pe_int (pa_cons pe_int (pa_cons pe_int (pa_cons pe_int (pa_cons pe_int (pa_cons pe_int (pa_cons pe_int (pa_cons pe_int (pa_cons pe_int (pa_cons pe_int (pa_cons pe_int (pa_cons pe_int (pa_cons pe_int (pa_cons pe_int (pa_cons pe_int (pa_cons pe_int pa_nil))))))))))))))))))
    (pss_one (ps_ret (pe_op op_modZ (pe_op op_modZ (pe_op op_add (pe_op op_mulZ (pv 0) pe_int) (pe_op op_mulZ (pv 1) pe_int)) (pe_ix ix_tup (pv 3) (pe_op op_modZ (pv 1) pe_int) (fun _ _ => rfl))) (pv 2))))), ?_⟩
    refine ⟨(by show 16 ≤ sizeLine; decide), fun t ht => ?_⟩
    have h0 : 0 ≤ i % 16 := Int.emod_nonneg _ (by decide)
    have h1 : i % 16 < 16 := Int.emod_lt_of_pos _ (by decide)
    have pp := primes_pos (i % 16).toNat (by omega)
    refine ⟨_, rfl, _, _, _, rfl, rfl, .inr (by decide), rfl, _, rfl, _, _, _, rfl, rfl, .inr (by decide), rfl, _, _, rfl, rfl, _, rfl, _, rfl, _, _, _, rfl, rfl, by decide, rfl, t, vi primes, _, _, rfl, rfl, .inl (Rd.of upd_same), at_vi h0 h1, _, _, _, rfl, rfl, pp, rfl, _, rfl, _, _, _, rfl, rfl, hm, rfl, ?_⟩
    exact k _ _ (same_new (Same.refl H) ht) (Int.emod_nonneg _ (by omega)) (Int.emod_lt_of_pos _ hm)
def sp_number : Sp := fun vs H Q _ => ∃ c k : Int, vs = [.int c, .int k] ∧ RS.BM 1048576 c ∧ 0 ≤ k ∧ k ≤ 1000 ∧ ∀ H' v, Same H H' → Q (.int v) H'
theorem ok_l_number (T : Txt K mg) : FnOk P w K mg base CX0 2 T.f_l_number T.d_l_number ["_law_cell", "_law_k"] sp_number := by
  have G_l_draw : FnOk P w K mg base CX0 1 T.f_l_draw T.d_l_draw ["_law_cell", "_law_k", "_law_many"] sp_draw := ok_l_draw T
  refine T.a_l_number.F.ok sc_l_number (fun vs H Q E h => ?_) (fun cdv A outer s H vs Q E hr h => ?_)
  · obtain ⟨c, k, rfl, _⟩ := h
    rfl
  · obtain ⟨c, i, rfl, hc, h0, h1, k⟩ := h
    refine ⟨_, (pss_cons (ps_if (pt_cmpR op_ge (pv 0) (pe_op op_pow pe_int pe_int) (nomark _))
    (pss_one (ps_ret (pe_op op_sub (pv 0) (pe_op op_pow pe_int pe_int))))
    pss_nil)
    (pss_one (ps_ret (pe_call G_l_draw hr rfl T.a_l_draw.g T.a_l_draw.F.kp T.a_l_draw.b .nil pass0 (pa_cons (pe_op op_mulB (pe_op op_add (pv 0) (pe_op op_mulZ pe_int (pv 1))) (pe_op op_add (pe_op op_add (pv 0) (pe_op op_mulZ pe_int (pv 1))) pe_int)) (pa_cons (pe_op op_add (pe_op op_modZ (pv 1) pe_int) pe_int) (pa_cons pe_int pa_nil))))))), ?_⟩
    refine ⟨_, rfl, _, _, rfl, rfl, ⟨by decide, by decide, by decide⟩, _, _, rfl, rfl, _, rfl, ?_⟩
    refine ite_d (fun _ => ?_) fun _ => ?_
    · exact ⟨_, rfl, _, _, rfl, rfl, ⟨by decide, by decide, by decide⟩, _, _, rfl, rfl, k H _ (Same.refl H)⟩
    · have b1 : RS.BB (c + 977 * i) := hc.add (by omega) (by omega)
      have b2 : RS.BB (c + 31 * i + 5) := by
        have e : c + 31 * i + 5 = c + (31 * i + 5) := by omega
        rw [e]
        exact hc.add (by omega) (by omega)
      refine ⟨_, rfl, _, rfl, _, _, _, rfl, rfl, .inl (by decide), rfl, _, _, rfl, rfl, _, rfl, _, rfl, _, _, _, rfl, rfl, .inl (by decide), rfl, _, _, rfl, rfl, _, _, rfl, rfl, _, _, rfl, rfl, b1.pair b2, ?_⟩
      refine ⟨_, rfl, _, _, _, rfl, rfl, by decide, rfl, _, _, rfl, rfl, _, _, _, rfl, by decide, fun H' v s' _ _ => k H' v s'⟩
def sp_order (K : PySem.W.Frag) : Sp := fun vs H Q _ => ∃ (a : Addr) (ns : List Int) (b : Int), vs = [.ref a, .int b] ∧ SqL K H a (vi ns) ∧ Sc ns ∧ 0 ≤ b ∧ b ≤ 100 ∧
  ∀ H' p row, Same H H' → H p = none → H' p = some (.lst (vi row)) → RS.IsRow row → row.length = max 3 ns.length → Q (.ref p) H'
theorem ok_l_order (T : Txt K mg) : FnOk P w K mg base CX0 3 T.f_l_order T.d_l_order ["_law_script", "_law_by"] (sp_order K) := by
  have G_l_number : FnOk P w K mg base CX0 2 T.f_l_number T.d_l_number ["_law_cell", "_law_k"] sp_number := ok_l_number T
  have G_l_cell_at : FnOk P w K mg base CX0 1 T.f_l_cell_at T.d_l_cell_at ["_law_script", "_law_k"] (sp_cell K) := ok_l_cell_at T
  refine T.a_l_order.F.ok sc_l_order (fun vs H Q E h => ?_) (fun cdv A outer s H vs Q E hr h => ?_)
  · obtain ⟨a, ns, b, rfl, _⟩ := h
    rfl
  · obtain ⟨a, ns, b, rfl, ha, S, hb0, hb1, k⟩ := h
    have hl := S.1
    refine ⟨_, (pss_cons (ps_set (i := 2) sc_l_order.nd rfl (Or.inl rfl) (pe_lst pa_nil))
    (pss_cons (ps_for PassesOwn.never rfl (pi_range1 rfl T.z_range (pa_cons (pe_callB (call_max2 rfl) (by rfl) T.z_max (by decide +kernel) (pa_cons pe_int (pa_cons (pe_callB lenZ (by rfl) T.z_len (by decide +kernel) (pa_cons (pv 0) pa_nil)) pa_nil))) pa_nil)) (pg_name (i := 3) sc_l_order.nd rfl (Or.inl rfl))
    (pss_one (ps_expr (pe_bm PySem.F.plainAttrs_list PySem.F.slot_list_insert PySem.F.type_list_insert insZ (pv 2) (pa_cons (pe_op op_modZ (pe_call G_l_number hr rfl T.a_l_number.g T.a_l_number.F.kp T.a_l_number.b .nil pass0 (pa_cons (pe_call G_l_cell_at (hr.mono (by decide)) rfl T.a_l_cell_at.g T.a_l_cell_at.F.kp T.a_l_cell_at.b .nil pass0 (pa_cons (pv 0) (pa_cons (pv 3) pa_nil))) (pa_cons (pe_op op_add (pv 3) (pv 1)) pa_nil))) (pe_op op_add (pv 3) pe_int)) (pa_cons (pv 3) pa_nil))))))
    (pss_one (ps_ret (pv 2))))), ?_⟩
    refine ⟨Nat.zero_le _, fun l hl0 => ?_⟩
    have s1 := same_new (Same.refl H) hl0 (o := .lst [])
    refine ⟨_, rfl, a, ns, _, rfl, s1.seq ha, rfl, _, _, rfl, ?_⟩
    have em : (if (ns.length : Int) > 3 then (ns.length : Int) else 3) = ((max 3 ns.length : Nat) : Int) := by
      by_cases h : (ns.length : Int) > 3
      · rw [if_pos h]; omega
      · rw [if_neg h]; omega
    rw [em]
    refine ⟨_, rfl, by omega, by omega, for_range0 (n := max 3 ns.length) (fun i σ H2 => ∃ (row : List Int) (v : Option V), σ = [some (.ref a), some (.int b), some (.ref l), v] ∧ Same H H2 ∧ H2 l = some (.lst (vi row)) ∧ row.Perm (RS.ids i) ∧ row.length = i)
      ⟨[], none, rfl, s1, upd_same, List.Perm.refl _, rfl⟩ ?_ ?_⟩
    · rintro i σ H2 hi ⟨row, v, rfl, s2, hL, hperm, rl⟩
      refine ⟨_, rfl, .inl ⟨rfl, _, SqL.of hL⟩, ?_⟩
      refine ⟨_, rfl, _, rfl, a, ns, _, rfl, s2.seq ha, by omega, ?_⟩
      refine ⟨_, rfl, _, rfl, _, _, rfl, rfl, _, _, rfl, cell_bm S _, by omega, by omega, fun H3 z s3 => ?_⟩
      have hL3 := s3 _ _ hL
      have npos : (0 : Int) < (i : Int) + 1 := by omega
      have z0 := Int.emod_nonneg z (show (i : Int) + 1 ≠ 0 by omega)
      have z1 := Int.emod_lt_of_pos z npos
      refine ⟨_, rfl, _, _, rfl, rfl, _, _, _, rfl, rfl, npos, rfl, _, rfl, l, row, _, _, rfl, rfl, hL3, by omega, z0, by omega, ?_⟩
      refine ⟨_, _, rfl, same_mut (Same.trans s2 s3) hl0, upd_same, RS.ins_perm hperm, ?_⟩
      rw [List.length_append, List.length_append, List.length_take, List.length_drop, List.length_singleton]
      omega
    · rintro σ H2 ⟨row, v, rfl, s2, hL, hperm, rl⟩
      exact ⟨_, rfl, k H2 l row s2 hl0 hL (RS.isRow_perm (by omega) (by rw [rl]; exact hperm)) rl⟩
def sp_turned (K : PySem.W.Frag) : Sp := fun vs H Q _ => ∃ (a : Addr) (row : List Int) (b : Int), vs = [.ref a, .int b] ∧ SqL K H a (vi row) ∧ 0 < row.length ∧ row.length ≤ 1000 ∧
  ∀ H' p, Same H H' → H p = none → H' p = some (.lst (vi (RS.rot row (b % (row.length : Int)).toNat))) → Q (.ref p) H'
theorem ok_l_turned (T : Txt K mg) : FnOk P w K mg base CX0 1 T.f_l_turned T.d_l_turned ["_law_row_here", "_law_by"] (sp_turned K) := by
  refine T.a_l_turned.F.ok sc_l_turned (fun vs H Q E h => ?_) (fun cdv A outer s H vs Q E hr h => ?_)
  · obtain ⟨a, row, b, rfl, _⟩ := h
    rfl
  · obtain ⟨a, row, b, rfl, ha, hpos, hl, k⟩ := h
    have npos : (0 : Int) < (row.length : Int) := by omega
    have z0 := Int.emod_nonneg b (show (row.length : Int) ≠ 0 by omega)
    have z1 := Int.emod_lt_of_pos b npos
    have ez : b % (row.length : Int) = (((b % (row.length : Int)).toNat : Nat) : Int) := by omega
    refine ⟨_, (pss_cons (ps_set (i := 2) sc_l_turned.nd rfl (Or.inl rfl) (pe_op op_modZ (pv 1) (pe_callB lenZ (by rfl) T.z_len (by decide +kernel) (pa_cons (pv 0) pa_nil))))
    (pss_one (ps_ret (pe_op op_catZ (pe_slice slZ (pv 0) (po_some (pv 2)) po_none) (pe_slice slZ (pv 0) po_none (po_some (pv 2))))))), ?_⟩
    refine ⟨_, rfl, _, rfl, a, row, _, rfl, ha, rfl, _, _, _, rfl, rfl, npos, ez, ?_⟩
    refine ⟨_, rfl, _, rfl, _, rfl, a, row, _, rfl, ha, cut_from (by omega), fun p hp => ?_⟩
    have s1 := same_new (Same.refl H) hp (o := .lst (vi (row.drop (b % (row.length : Int)).toNat)))
    refine ⟨_, rfl, _, rfl, _, rfl, a, row, _, rfl, s1.seq ha, cut_to (by omega), fun q hq => ?_⟩
    have npq : p ≠ q := ne_of_none upd_same hq
    have s2 := same_new s1 hq (o := .lst (vi (row.take (b % (row.length : Int)).toNat)))
    refine ⟨p, q, _, _, rfl, rfl, (by rw [upd_ne npq, upd_same]), upd_same, (by rw [List.length_drop, List.length_take]; omega), fun r hr => ?_⟩
    exact k _ r (same_new s2 hr) (s2.free hr) upd_same
end
end Toy
set_option Elab.async false
set_option linter.all false
set_option maxRecDepth 100000
set_option maxHeartbeats 4000000
namespace Toy
open PySem L2
section
variable {P : Program} {w : World} {K : PySem.W.Frag} {mg : Str → Option Value} {base : Heap}
/-! ## the program's way -/
def sp_way_of (K : PySem.W.Frag) : Sp := fun vs H Q _ => ∃ (a : Addr) (row : List Int), vs = [.ref a] ∧ SqL K H a (vi row) ∧ RS.IsRow row ∧ row.length ≤ 100 ∧
  ∀ H' t p q ws fs, Same H H' → H p = none → H q = none → p ≠ q → H' t = some (.tup [.ref q, .ref p]) → H' q = some (.lst (vi fs)) → H' p = some (.lst (vi ws)) → RS.NorW row ws → RS.Found row ws fs → Q (.ref t) H'
theorem ok_way_of (T : Txt K mg) : FnOk P w K mg base CX0 2 T.f_way_of T.d_way_of ["row"] (sp_way_of K) := by
  have G_ways_of : FnOk P w K mg base CX0 1 T.f_ways_of T.d_ways_of ["row"] (sp_ways_of K) := ok_ways_of T
  have G_swaps_by : FnOk P w K mg base CX0 1 T.f_swaps_by T.d_swaps_by ["row", "ways"] (sp_swaps_by K) := ok_swaps_by T
  refine T.a_way_of.F.ok sc_way_of (fun vs H Q E h => ?_) (fun cdv A outer s H vs Q E hr h => ?_)
  · obtain ⟨a, row, rfl, _⟩ := h
    rfl
  · obtain ⟨a, row, rfl, ha, R, hl, k⟩ := h
    refine ⟨_, (pss_cons (ps_set (i := 1) sc_way_of.nd rfl (Or.inl rfl) (pe_call G_ways_of hr rfl T.a_ways_of.g T.a_ways_of.F.kp T.a_ways_of.b .nil pass0 (pa_cons (pv 0) pa_nil)))
    (pss_one (ps_ret (pe_tup (pa_cons (pe_call G_swaps_by hr rfl T.a_swaps_by.g T.a_swaps_by.F.kp T.a_swaps_by.b .nil pass0 (pa_cons (pv 0) (pa_cons (pv 1) pa_nil))) (pa_cons (pv 1) pa_nil)))))), ?_⟩
    refine ⟨_, rfl, a, row, rfl, ha, R, by omega, fun H1 p ws s1 p0 hp W => ?_⟩
    refine ⟨_, rfl, _, rfl, a, p, row, ws, rfl, s1.seq ha, SqL.of hp, R, hl, W, fun H2 q fs s2 q0 hq F => ?_⟩
    refine ⟨_, rfl, (by show 2 ≤ sizeLine; decide), fun t ht => ?_⟩
    have hp2 := s2 _ _ hp
    exact k _ t p q ws fs (same_new (Same.trans s1 s2) ht) p0 (s1.free q0) (ne_of_none hp q0) upd_same (by rw [upd_ne (ne_of_none hq ht)]; exact hq) (by rw [upd_ne (ne_of_none hp2 ht)]; exact hp2) W F
def sp_brought (C : Addr) : Sp := fun vs H Q _ => ∃ (a : Addr) (row : List Int), vs = [.ref a] ∧ H a = some (.lst (vi row)) ∧ RS.IsRow row ∧ row.length ≤ 100 ∧
  ∀ H' x l1 l2 fs ws, Same H H' → H x = none → H l1 = none → H l2 = none → l1 ≠ l2 → BrAt C H' x l1 l2 fs ws → RS.NorW row ws → RS.Found row ws fs → Q (.ref x) H'
theorem ok_brought (T : Txt K mg) : FnOk P w K mg base CX0 3 T.f_brought T.d_brought ["row"] (sp_brought T.C) := by
  have G_check_row : FnOk P w K mg base CX0 2 T.f_check_row T.d_check_row ["row"] sp_check_row := ok_check_row T
  have G_way_of : FnOk P w K mg base CX0 2 T.f_way_of T.d_way_of ["row"] (sp_way_of K) := ok_way_of T
  have G_B_init : FnOk P w K mg base CX0 1 T.f_B_init T.d_B_init ["self", "swaps", "ways"] (sp_B_init T.C K) := ok_B_init T
  refine T.a_brought.F.ok sc_brought (fun vs H Q E h => ?_) (fun cdv A outer s H vs Q E hr h => ?_)
  · obtain ⟨a, row, rfl, _⟩ := h
    rfl
  · obtain ⟨a, row, rfl, ha, R, hl, k⟩ := h
    refine ⟨_, (pss_cons (ps_expr (pe_call G_check_row hr rfl T.a_check_row.g T.a_check_row.F.kp T.a_check_row.b .nil pass0 (pa_cons (pv 0) pa_nil)))
    (pss_cons (ps_asg (pe_call G_way_of hr rfl T.a_way_of.g T.a_way_of.F.kp T.a_way_of.b .nil pass0 (pa_cons (pv 0) pa_nil)) (pg_tup (by rfl) (pgs_cons (pg_name (i := 1) sc_brought.nd rfl (Or.inl rfl)) (pgs_cons (pg_name (i := 2) sc_brought.nd rfl (Or.inl rfl)) pgs_nil))))
    (pss_one (ps_ret (pe_make ⟨T.mkC, T.a_B_init.m, T.a_B_init.i, T.kC⟩ G_B_init hr rfl T.gC T.a_B_init.b .nil pass0 (pa_cons (pv 1) (pa_cons (pv 2) pa_nil))))))), ?_⟩
    refine ⟨_, rfl, a, row, rfl, ha, R, by omega, fun H1 s1 => ?_⟩
    refine ⟨_, rfl, a, row, rfl, SqL.of (s1 _ _ ha), R, hl, fun H2 t p q ws fs s2 p0 q0 npq ht hq hp W F => ?_⟩
    refine ⟨t, _, rfl, .inl (Rd.of ht), rfl, _, _, rfl, _, _, rfl, rfl, ?_⟩
    refine ⟨_, rfl, _, rfl, fun x dx nx ndx nex => ?_⟩
    have keep : ∀ b o, H2 b = some o → (upd (upd H2 dx (.own x)) x (.ins T.C dx [])) b = some o := fun b o e => by
      rw [upd_ne (ne_of_none e nx), upd_ne (ne_of_none e ndx)]
      exact e
    have back : ∀ b, (upd (upd H2 dx (.own x)) x (.ins T.C dx [])) b = none → H2 b = none := fun b e => by
      cases h : H2 b with
      | none => rfl
      | some o =>
        rw [keep b o h] at e
        cases e
    refine ⟨x, dx, q, p, fs, ws, rfl, upd_same, SqL.of (keep _ _ hq), SqL.of (keep _ _ hp), fun H3 l1 l2 s3 h1 h2 ne B => ⟨rfl, ?_⟩⟩
    have s12 := Same.trans s1 s2
    refine k H3 x l1 l2 fs ws (fun b o e => ?_) (s12.free nx) (s12.free (back _ h1)) (s12.free (back _ h2)) ne B W F
    have e2 := s12 b o e
    exact s3 b o (keep b o e2) (ne_of_none e2 nx)
/-! ## the law's row -/
def sp_row (K : PySem.W.Frag) : Sp := fun vs H Q _ => ∃ (a : Addr) (ns : List Int), vs = [.ref a] ∧ SqL K H a (vi ns) ∧ Sc ns ∧
  ∀ H' p row, Same H H' → H p = none → H' p = some (.lst (vi row)) → RS.IsRow row → row.length = max 3 ns.length → Q (.ref p) H'
theorem ok_l_row (T : Txt K mg) : FnOk P w K mg base CX0 4 T.f_l_row T.d_l_row ["_law_script"] (sp_row K) := by
  have G_l_draw : FnOk P w K mg base CX0 1 T.f_l_draw T.d_l_draw ["_law_cell", "_law_k", "_law_many"] sp_draw := ok_l_draw T
  have G_l_order : FnOk P w K mg base CX0 3 T.f_l_order T.d_l_order ["_law_script", "_law_by"] (sp_order K) := ok_l_order T
  have G_l_cell_at : FnOk P w K mg base CX0 1 T.f_l_cell_at T.d_l_cell_at ["_law_script", "_law_k"] (sp_cell K) := ok_l_cell_at T
  have G_l_number : FnOk P w K mg base CX0 2 T.f_l_number T.d_l_number ["_law_cell", "_law_k"] sp_number := ok_l_number T
  have G_l_turned : FnOk P w K mg base CX0 1 T.f_l_turned T.d_l_turned ["_law_row_here", "_law_by"] (sp_turned K) := ok_l_turned T
  have G_l_done : FnOk P w K mg base CX0 1 T.f_l_done T.d_l_done ["_law_row_here", "_law_swaps"] (sp_behind K) := ok_l_done T
  refine T.a_l_row.F.ok sc_l_row (fun vs H Q E h => ?_) (fun cdv A outer s H vs Q E hr h => ?_)
  · obtain ⟨a, ns, rfl, _⟩ := h
    rfl
  · obtain ⟨a, ns, rfl, ha, S, k⟩ := h
    have hl := S.1
    refine ⟨_, (pss_cons (ps_set (i := 0) sc_l_row.nd rfl (Or.inl rfl) (pe_slice slZ (pv 0) po_none (po_some pe_int)))
    (pss_cons (ps_set (i := 1) sc_l_row.nd rfl (Or.inl rfl) (pe_call G_l_draw (hr.mono (by decide)) rfl T.a_l_draw.g T.a_l_draw.F.kp T.a_l_draw.b .nil pass0 (pa_cons (pe_call G_l_cell_at (hr.mono (by decide)) rfl T.a_l_cell_at.g T.a_l_cell_at.F.kp T.a_l_cell_at.b .nil pass0 (pa_cons (pv 0) (pa_cons pe_int pa_nil))) (pa_cons pe_int (pa_cons pe_int pa_nil)))))
    (pss_cons (ps_set (i := 2) sc_l_row.nd rfl (Or.inl rfl) (pe_call G_l_order hr rfl T.a_l_order.g T.a_l_order.F.kp T.a_l_order.b .nil pass0 (pa_cons (pv 0) (pa_cons pe_int pa_nil))))
    (pss_cons (ps_asg (pe_tup (pa_cons (pe_callB lenZ (by rfl) T.z_len (by decide +kernel) (pa_cons (pv 2) pa_nil)) (pa_cons (pe_call G_l_number (hr.mono (by decide)) rfl T.a_l_number.g T.a_l_number.F.kp T.a_l_number.b .nil pass0 (pa_cons (pe_call G_l_cell_at (hr.mono (by decide)) rfl T.a_l_cell_at.g T.a_l_cell_at.F.kp T.a_l_cell_at.b .nil pass0 (pa_cons (pv 0) (pa_cons pe_int pa_nil))) (pa_cons pe_int pa_nil))) pa_nil))) (pg_tup (by rfl) (pgs_cons (pg_name (i := 3) sc_l_row.nd rfl (Or.inr rfl)) (pgs_cons (pg_name (i := 4) sc_l_row.nd rfl (Or.inl rfl)) pgs_nil))))
    (Evl.pss_cut (ps_if (pt_cmpR op_eq (pv 1) pe_int (nomark _))
    (pss_one (ps_set (i := 2) sc_l_row.nd rfl (Or.inl rfl) (pe_call G_l_turned (hr.mono (by decide)) rfl T.a_l_turned.g T.a_l_turned.F.kp T.a_l_turned.b .nil pass0 (pa_cons (pe_listRg rfl (by rfl) T.z_list (prg_1 (by rfl) T.z_range (pv 3))) (pa_cons (pv 4) pa_nil)))))
    pss_nil)
    (Evl.pss_cut (ps_if (pt_cmpR op_eq (pv 1) pe_int (nomark _))
    (pss_one (ps_set (i := 2) sc_l_row.nd rfl (Or.inl rfl) (pe_call G_l_turned (hr.mono (by decide)) rfl T.a_l_turned.g T.a_l_turned.F.kp T.a_l_turned.b .nil pass0 (pa_cons (pe_revL (pe_listRg rfl (by rfl) T.z_list (prg_1 (by rfl) T.z_range (pv 3)))) (pa_cons (pv 4) pa_nil)))))
    pss_nil)
    (Evl.pss_cut (ps_if (pt_cmpR op_eq (pv 1) pe_int (nomark _))
    (pss_one (ps_set (i := 2) sc_l_row.nd rfl (Or.inl rfl) (pe_call G_l_done (hr.mono (by decide)) rfl T.a_l_done.g T.a_l_done.F.kp T.a_l_done.b .nil pass0 (pa_cons (pe_listRg rfl (by rfl) T.z_list (prg_1 (by rfl) T.z_range (pv 3))) (pa_cons (pe_lc (own := [("_law_k", 5), ("_law_cell", 6)]) (g := (gTup K 2 (gCons (gName 5) (gCons (gName 6) gNil)))) (tt := tYes) rfl sc_l_row.nd (pi_enum (by rfl) T.z_enumerate (pa_cons (pv 0) pa_nil)) (blkOk_by (N := ["_law_script", "_law_kind", "_law_row_here", "_law_size", "_law_by", "_law_k", "_law_cell"]) (sc := defScope s_l_row) (by decide +kernel)) (fun _ _ _ _ _ => pg_tup rfl (pgs_cons (pg_name (i := 5) sc_l_row.nd rfl (Or.inl rfl)) (pgs_cons (pg_name (i := 6) sc_l_row.nd rfl (Or.inl rfl)) pgs_nil))) (fun _ _ _ _ _ => pts_nil) (fun _ _ _ _ _ => (pe_op op_modZ (pe_call G_l_number (hr.mono (by decide)) rfl T.a_l_number.g T.a_l_number.F.kp T.a_l_number.b .nil pass0 (pa_cons (pv 6) (pa_cons (pv 5) pa_nil))) (pv 3)))) pa_nil)))))
    pss_nil)
    (pss_one (ps_ret (pv 2)))))))))), ?_⟩
    refine ⟨_, rfl, _, rfl, a, ns, ns, rfl, ha, (cut_take ns 63).trans (List.take_of_length_le hl), fun p hp0 => ?_⟩
    have s1 := same_new (Same.refl H) hp0 (o := .lst (vi ns))
    have hp1 : (upd H p (.lst (vi ns))) p = some (.lst (vi ns)) := upd_same
    refine ⟨_, rfl, p, ns, _, rfl, SqL.of hp1, by decide, _, _, _, rfl, by decide, fun H2 kd s2 k0 k1 => ?_⟩
    have hp2 := s2 _ _ hp1
    have s12 := Same.trans s1 s2
    refine ⟨_, rfl, p, ns, _, rfl, SqL.of hp2, S, by decide, by decide, fun H3 r row s3 r0 hr3 R rl => ?_⟩
    have hp3 := s3 _ _ hp2
    have s13 := Same.trans s12 s3
    have rl63 : row.length ≤ 63 := by omega
    refine ⟨_, rfl, r, row, _, rfl, SqL.of hr3, rfl, _, rfl, p, ns, _, rfl, SqL.of hp3, by decide, _, _, rfl, cell_bm S _, by decide, by decide, fun H4 by_ s4 => ⟨(by show 2 ≤ sizeLine; decide), fun t ht => ?_⟩⟩
    have s14 := Same.trans s13 s4
    have hp4 := s4 _ _ hp3
    have hr4 := s4 _ _ hr3
    have s5 := same_new s14 ht (o := .tup [.int (row.length : Int), .int by_])
    have hp5 : (upd H4 t (.tup [.int (row.length : Int), .int by_])) p = some (.lst (vi ns)) := by rw [upd_ne (ne_of_none hp4 ht)]; exact hp4
    have hr5 : (upd H4 t (.tup [.int (row.length : Int), .int by_])) r = some (.lst (vi row)) := by rw [upd_ne (ne_of_none hr4 ht)]; exact hr4
    refine ⟨t, _, rfl, .inl (Rd.of upd_same), rfl, _, _, rfl, _, _, rfl, rfl, ?_⟩
    -- between the ifs: some row stands in slot 2
    have Mid : ∃ Mid : L2.St → Hp → Prop, Mid = fun σ H' => ∃ (q : Addr) (l : List Int), σ = [some (.ref p), some (.int kd), some (.ref q), some (.int (row.length : Int)), some (.int by_), none, none] ∧ Same H H' ∧ H q = none ∧ H' q = some (.lst (vi l)) ∧ RS.IsRow l ∧ l.length = row.length ∧ H' p = some (.lst (vi ns)) := ⟨_, rfl⟩
    obtain ⟨Mid, eM⟩ := Mid
    have start : Mid [some (.ref p), some (.int kd), some (.ref r), some (.int (row.length : Int)), some (.int by_), none, none] (upd H4 t (.tup [.int (row.length : Int), .int by_])) := by
      rw [eM]
      exact ⟨r, row, rfl, s5, s12.free r0, hr5, R, rfl, hp5⟩
    have n3 := R.three
    refine ⟨Mid, ?_, ?_⟩
    · -- kind 0
      refine ⟨_, rfl, rfl, _, rfl, ?_⟩
      refine ite_eq (fun _ => ?_) fun _ => start
      refine ⟨_, rfl, _, rfl, rgOk_n (by omega), fun q hq => ?_⟩
      have s6 := same_new s5 hq (o := .lst (rgV 0 (row.length : Int)))
      refine ⟨_, rfl, q, RS.ids row.length, by_, rfl, SqL.of (by rw [upd_same, rgV_ids]), by rw [RS.ids_len]; omega, by rw [RS.ids_len]; omega, fun H7 u s7 u0 hu => ?_⟩
      rw [eM]
      exact ⟨u, _, rfl, Same.trans s6 s7, s6.free u0, hu, (RS.isRow_ids n3).rot _, (RS.rot_len _ _).trans (RS.ids_len _), s7 _ _ (by rw [upd_ne (ne_of_none hp5 hq)]; exact hp5)⟩
    intro σ H5 M5
    rw [eM] at M5
    obtain ⟨q5, l5, rfl, s5, q50, hq5, R5, ll5, hp5⟩ := M5
    refine ⟨Mid, ?_, ?_⟩
    · -- kind 1
      refine ⟨_, rfl, rfl, _, rfl, ?_⟩
      refine ite_eq (fun _ => ?_) fun _ => ?_
      · refine ⟨_, rfl, _, rfl, rgOk_n (by omega), fun q hq => ?_⟩
        have s6 := same_new s5 hq (o := .lst (rgV 0 (row.length : Int)))
        refine ⟨q, _, rfl, SqL.of upd_same, fun q2 hq2 => ?_⟩
        have s6' := same_new s6 hq2 (o := .lst (rgV 0 (row.length : Int)).reverse)
        have hp6 : (upd (upd H5 q (.lst (rgV 0 (row.length : Int)))) q2 (.lst (rgV 0 (row.length : Int)).reverse)) p = some (.lst (vi ns)) := by
          have e1 := ne_of_none hp5 hq
          have h6 : (upd H5 q (.lst (rgV 0 (row.length : Int)))) p = some (.lst (vi ns)) := by rw [upd_ne e1]; exact hp5
          rw [upd_ne (ne_of_none h6 hq2)]; exact h6
        refine ⟨_, rfl, q2, (RS.ids row.length).reverse, by_, rfl, SqL.of (by rw [upd_same, rgV_ids, ← List.map_reverse]), by rw [List.length_reverse, RS.ids_len]; omega, by rw [List.length_reverse, RS.ids_len]; omega, fun H7 u s7 u0 hu => ?_⟩
        rw [eM]
        exact ⟨u, _, rfl, Same.trans s6' s7, s6'.free u0, hu, (RS.isRow_ids n3).reverse.rot _, (RS.rot_len _ _).trans (by rw [List.length_reverse, RS.ids_len]), s7 _ _ hp6⟩
      · show Mid _ _
        rw [eM]
        exact ⟨q5, l5, rfl, s5, q50, hq5, R5, ll5, hp5⟩
    clear hq5 R5 ll5 q50 s5 hp5 start
    intro σ H6 M6
    rw [eM] at M6
    obtain ⟨q6, l6, rfl, s6, q60, hq6, R6, ll6, hp6⟩ := M6
    refine ⟨Mid, ?_, ?_⟩
    · -- kind 2
      refine ⟨_, rfl, rfl, _, rfl, ?_⟩
      refine ite_eq (fun _ => ?_) fun _ => ?_
      · refine ⟨_, rfl, _, rfl, rgOk_n (by omega), fun q hq => ?_⟩
        have hq' : (upd H6 q (.lst (rgV 0 (row.length : Int)))) q = some (.lst (vi (RS.ids row.length))) := by rw [upd_same, rgV_ids]
        have s7 := same_new s6 hq (o := .lst (rgV 0 (row.length : Int)))
        have hp7 : (upd H6 q (.lst (rgV 0 (row.length : Int)))) p = some (.lst (vi ns)) := by rw [upd_ne (ne_of_none hp6 hq)]; exact hp6
        refine ⟨_, rfl, p, _, rfl, SqL.of hp7, fun D hD => lc_it (walk_enum (K := K) (a := p) (xs := vi ns)) (fun i H8 => ∃ xs : List Int, Same (upd H6 q (.lst (rgV 0 (row.length : Int)))) H8 ∧ H8 D = some (.lst (vi xs)) ∧ RS.plOk row.length xs ∧ xs.length = i)
          ⟨[], same_new (Same.refl _) hD, upd_same, (fun z hz => nomatch hz), rfl⟩ (fun i H8 _ ⟨_, s8, _⟩ => s8.seq (SqL.of hp7)) ?_ ?_⟩
        · rintro i x H8 H9 hi ⟨xs, s8, hX, pl, xl⟩ ⟨t2, u, v, rfl, ht2, rfl, e1, e2⟩
          cases e1
          obtain ⟨hi', rfl⟩ := vi_get e2
          have nDt := ne_of_none hX ht2
          refine ⟨t2, _, rfl, .inl (Rd.of upd_same), rfl, _, _, rfl, _, _, rfl, rfl, rfl, ?_⟩
          refine ⟨_, rfl, _, rfl, _, _, rfl, S.2 _ (RS.fr_mem hi'), by omega, by omega, fun H10 z s10 => ?_⟩
          have npos : (0 : Int) < (row.length : Int) := by omega
          have hX10 : H10 D = some (.lst (vi xs)) := s10 _ _ (by rw [upd_ne nDt]; exact hX)
          refine ⟨_, rfl, _, _, _, rfl, rfl, npos, rfl, _, hX10, by rw [vi_len, xl]; exact size_lt (by omega), xs ++ [z % (row.length : Int)], same_mut (Same.trans (same_new s8 ht2) s10) hD, ?_, ?_, ?_⟩
          · rw [upd_same, vi_snoc]
          · intro y hy
            rcases List.mem_append.mp hy with h | h
            · exact pl y h
            · rw [List.mem_singleton.mp h]
              exact ⟨Int.emod_nonneg _ (by omega), Int.emod_lt_of_pos _ npos⟩
          · rw [List.length_append, List.length_singleton, xl]
        · rintro H8 ⟨xs, s8, hX, pl, xl⟩
          have s78 := Same.trans s7 s8
          refine ⟨q, D, RS.ids row.length, xs, rfl, SqL.of (s8 _ _ hq'), SqL.of hX, by rw [RS.ids_len]; exact pl, fun H9 u s9 u0 hu => ?_⟩
          rw [eM]
          exact ⟨u, _, rfl, Same.trans s78 s9, s78.free u0, hu, (RS.isRow_ids n3).done (by rw [RS.ids_len]; exact pl), (RS.doneL_len _ _).trans (RS.ids_len _), s9 _ _ (s8 _ _ hp7)⟩
      · show Mid _ _
        rw [eM]
        exact ⟨q6, l6, rfl, s6, q60, hq6, R6, ll6, hp6⟩
    intro σ H7 M7
    rw [eM] at M7
    obtain ⟨q7, l7, rfl, s7, q70, hq7, R7, ll7, hp7⟩ := M7
    exact ⟨_, rfl, k H7 q7 l7 s7 q70 hq7 R7 (ll7.trans rl)⟩
end
end Toy
set_option Elab.async false
set_option linter.all false
set_option maxRecDepth 100000
set_option maxHeartbeats 4000000
namespace Toy
open PySem L2
theorem seqIx {n k : Nat} (h : k < n) : seqIndex? (k : Int) n = some k := by
  unfold seqIndex?
  simp
  omega
def rPopAtZ : V → List V → Hp → VK → Prop := fun x vs H Q => ∃ (l : Addr) (xs : List Int) (i : Int), x = .ref l ∧ vs = [.int i] ∧ H l = some (.lst (vi xs)) ∧ 0 ≤ i ∧ i < xs.length ∧ xs.length ≤ 100000 ∧ Q (.int (RS.fr xs i.toNat)) (upd H l (.lst (vi (xs.eraseIdx i.toNat))))
theorem vi_erase (xs : List Int) (k : Nat) : (vi xs).eraseIdx k = vi (xs.eraseIdx k) := by
  unfold vi
  induction xs generalizing k with
  | nil => rfl
  | cons x xs ih =>
    cases k with
    | zero => rfl
    | succ k => exact congrArg (List.cons (V.int x)) (ih k)
theorem popAtZ {X : Cx} : MtM X "list.pop" rPopAtZ := MtM.imp mt_popAt fun x vs H Q h => by
  obtain ⟨l, xs, i, e1, e2, hp, h0, h1, h2, q⟩ := h
  have ei : i = ((i.toNat : Nat) : Int) := by omega
  have hj : i.toNat < xs.length := by omega
  refine ⟨l, vi xs, i, i.toNat, .int (RS.fr xs i.toNat), e1, e2, hp, by omega, by omega, ?_, ?_, ?_⟩
  · rw [vi_len, ei]
    exact seqIx (by omega)
  · unfold vi
    rw [List.getElem?_map, List.getElem?_eq_getElem hj, RS.fr_eq hj]; rfl
  · rw [vi_erase]
    exact q
section
variable {P : Program} {w : World} {K : PySem.W.Frag} {mg : Str → Option Value} {base : Heap}
def sp_around (K : PySem.W.Frag) : Sp := fun vs H Q _ => ∃ (a : Addr) (ways : List Int) (n : Nat) (c : Int), vs = [.ref a, .int (n : Int), .int c] ∧ SqL K H a (vi ways) ∧ ways.length = n ∧ 0 < n ∧
  ∀ H' p out, Same H H' → H p = none → H' p = some (.lst (vi out)) → out.length = n → Q (.ref p) H'
theorem ok_l_around (T : Txt K mg) : FnOk P w K mg base CX0 2 T.f_l_around T.d_l_around ["_law_ways", "_law_size", "_law_cell"] (sp_around K) := by
  have G_l_draw : FnOk P w K mg base CX0 1 T.f_l_draw T.d_l_draw ["_law_cell", "_law_k", "_law_many"] sp_draw := ok_l_draw T
  refine T.a_l_around.F.ok sc_l_around (fun vs H Q E h => ?_) (fun cdv A outer s H vs Q E hr h => ?_)
  · obtain ⟨a, ways, n, c, rfl, _⟩ := h
    rfl
  · obtain ⟨a, ways, n, c, rfl, ha, wl, n0, k⟩ := h
    refine ⟨_, (pss_cons (ps_set (i := 3) sc_l_around.nd rfl (Or.inl rfl) (pe_callTy lstZ (by rfl) T.z_list (by decide +kernel) (pa_cons (pv 0) pa_nil)))
    (pss_cons (ps_augS (pv 3) (pe_call G_l_draw hr rfl T.a_l_draw.g T.a_l_draw.F.kp T.a_l_draw.b .nil pass0 (pa_cons (pv 2) (pa_cons pe_int (pa_cons (pv 1) pa_nil)))) getZ (pv 1) ip_add setZ)
    (pss_cons (ps_augS (pv 3) (pe_call G_l_draw hr rfl T.a_l_draw.g T.a_l_draw.F.kp T.a_l_draw.b .nil pass0 (pa_cons (pv 2) (pa_cons pe_int (pa_cons (pv 1) pa_nil)))) getZ (pv 1) ip_sub setZ)
    (pss_one (ps_ret (pv 3)))))), ?_⟩
    refine ⟨_, rfl, a, ways, rfl, ha, fun l hl => ?_⟩
    have s1 := same_new (Same.refl H) hl (o := .lst (vi ways))
    refine ⟨_, rfl, _, rfl, _, rfl, _, _, _, rfl, by omega, fun H1 i s2 i0 i1 => ?_⟩
    have h2 := s2 _ _ (upd_same (H := H) (a := l) (o := .lst (vi ways)))
    refine ⟨l, ways, _, _, rfl, rfl, SqL.of h2, i0, by omega, rfl, _, rfl, _, _, rfl, rfl, l, ways, _, _, rfl, rfl, rfl, h2, i0, by omega, ?_⟩
    have s3 := same_mut (Same.trans s1 s2) hl (o := .lst (vi (ways.set i.toNat (RS.fr ways i.toNat + n))))
    refine ⟨_, rfl, _, rfl, _, rfl, _, _, _, rfl, by omega, fun H2 j s4 j0 j1 => ?_⟩
    have h4 := s4 _ _ (upd_same (H := H1) (a := l) (o := .lst (vi (ways.set i.toNat (RS.fr ways i.toNat + n)))))
    refine ⟨l, _, _, _, rfl, rfl, SqL.of h4, j0, (by rw [List.length_set]; omega), rfl, _, rfl, _, _, rfl, rfl, l, _, _, _, rfl, rfl, rfl, h4, j0, (by rw [List.length_set]; omega), ?_⟩
    exact ⟨_, rfl, k _ l _ (same_mut (Same.trans s3 s4) hl) hl upd_same (by rw [List.length_set, List.length_set]; exact wl)⟩
def sp_bent (K : PySem.W.Frag) : Sp := fun vs H Q _ => ∃ (a : Addr) (some_ : List Int) (c z : Int), vs = [.ref a, .int c, .int z] ∧ SqL K H a (vi some_) ∧ some_.length ≤ 5000 ∧
  ∀ H' p out, Same H H' → H p = none → H' p = some (.lst (vi out)) → out.length ≤ some_.length + 1 → Q (.ref p) H'
theorem ok_l_bent (T : Txt K mg) : FnOk P w K mg base CX0 2 T.f_l_bent T.d_l_bent ["_law_some", "_law_cell", "_law_strange"] (sp_bent K) := by
  have G_l_draw : FnOk P w K mg base CX0 1 T.f_l_draw T.d_l_draw ["_law_cell", "_law_k", "_law_many"] sp_draw := ok_l_draw T
  refine T.a_l_bent.F.ok sc_l_bent (fun vs H Q E h => ?_) (fun cdv A outer s H vs Q E hr h => ?_)
  · obtain ⟨a, some_, c, z, rfl, _⟩ := h
    rfl
  · obtain ⟨a, xs, c, z, rfl, ha, xl, k⟩ := h
    refine ⟨_, (pss_cons (ps_par (by rfl) sc_l_bent.nd (i := 3) (j := 4) rfl rfl (by decide) rfl rfl (pa_cons (pe_call G_l_draw hr rfl T.a_l_draw.g T.a_l_draw.F.kp T.a_l_draw.b .nil pass0 (pa_cons (pv 1) (pa_cons pe_int (pa_cons pe_int pa_nil)))) (pa_cons (pe_callTy lstZ (by rfl) T.z_list (by decide +kernel) (pa_cons (pv 0) pa_nil)) pa_nil)) (by rfl))
    (pss_cons (ps_if (pt_cmpR (op_eqZ hr.units) (pv 4) (pe_lst pa_nil) (nomark _))
    (pss_one (ps_ret (pe_ifExp (pt_cmpR op_lt (pv 3) pe_int (nomark _)) (pe_lst (pa_cons (pv 2) pa_nil)) (pe_lst pa_nil))))
    pss_nil)
    (pss_cons (ps_par (by rfl) sc_l_bent.nd (i := 5) (j := 6) rfl rfl (by decide) rfl rfl (pa_cons (pe_call G_l_draw hr rfl T.a_l_draw.g T.a_l_draw.F.kp T.a_l_draw.b .nil pass0 (pa_cons (pv 1) (pa_cons pe_int (pa_cons (pe_callB lenZ (by rfl) T.z_len (by decide +kernel) (pa_cons (pv 4) pa_nil)) pa_nil)))) (pa_cons (pe_call G_l_draw hr rfl T.a_l_draw.g T.a_l_draw.F.kp T.a_l_draw.b .nil pass0 (pa_cons (pv 1) (pa_cons pe_int (pa_cons (pe_callB lenZ (by rfl) T.z_len (by decide +kernel) (pa_cons (pv 4) pa_nil)) pa_nil)))) pa_nil)) (by rfl))
    (Evl.pss_cut (ps_if (pt_cmpR op_lt (pv 3) pe_int (nomark _))
    (pss_one (ps_asg (pe_tup (pa_cons (pe_ix ixZ (pv 4) (pv 6) (fun _ _ => rfl)) (pa_cons (pe_ix ixZ (pv 4) (pv 5) (fun _ _ => rfl)) pa_nil))) (pg_tup (by rfl) (pgs_cons (pg_sub (pv 4) (pv 5) setZ) (pgs_cons (pg_sub (pv 4) (pv 6) setZ) pgs_nil)))))
    pss_nil)
    (Evl.pss_cut (ps_if (pt_cmpR op_eq (pv 3) pe_int (nomark _))
    (pss_one (ps_expr (pe_bm PySem.F.plainAttrs_list PySem.F.slot_list_pop PySem.F.type_list_pop popAtZ (pv 4) (pa_cons (pv 5) pa_nil))))
    pss_nil)
    (Evl.pss_cut (ps_if (pt_cmpR op_eq (pv 3) pe_int (nomark _))
    (pss_one (ps_asg (pv 2) (pg_sub (pv 4) (pv 5) setZ)))
    pss_nil)
    (Evl.pss_cut (ps_if (pt_cmpR op_eq (pv 3) pe_int (nomark _))
    (pss_one (ps_expr (pe_bm PySem.F.plainAttrs_list PySem.F.slot_list_insert PySem.F.type_list_insert insZ (pv 4) (pa_cons (pv 5) (pa_cons (pe_ix ixZ (pv 4) (pv 6) (fun _ _ => rfl)) pa_nil)))))
    pss_nil)
    (pss_one (ps_ret (pe_ifExp (pt_cmpR op_eq (pv 3) pe_int (nomark _)) (pe_op op_catZ (pv 4) (pe_lst (pa_cons (pv 2) pa_nil))) (pv 4))))))))))), ?_⟩
    refine ⟨_, rfl, _, _, _, rfl, by decide, fun H1 kd s1 kd0 kd1 => ⟨_, rfl, a, xs, rfl, s1.seq ha, fun l hl => ⟨_, _, rfl, ?_⟩⟩⟩
    have hl0 : H l = none := s1.free hl
    have s2 := same_new s1 hl (o := .lst (vi xs))
    obtain ⟨H2, e2⟩ : ∃ H2, H2 = upd H1 l (.lst (vi xs)) := ⟨_, rfl⟩
    have hL : H2 l = some (.lst (vi xs)) := by rw [e2]; exact upd_same
    rw [← e2] at s2 ⊢
    refine ⟨_, rfl, Nat.zero_le _, fun em hem => ?_⟩
    have s3 := same_new s2 hem (o := .lst [])
    have hL3 : (upd H2 em (.lst [])) l = some (.lst (vi xs)) := by rw [upd_ne (ne_of_none hL hem)]; exact hL
    refine ⟨l, em, xs, [], rfl, rfl, SqL.of hL3, SqL.of upd_same, fun cc hcc => ⟨_, rfl, ?_⟩⟩
    refine ite_b (fun _ => ?_) fun nz => ?_
    · refine ⟨_, rfl, _, _, rfl, rfl, _, rfl, ?_⟩
      refine ite_d (fun _ => ?_) fun _ => ?_
      · exact ⟨_, rfl, (by show 1 ≤ sizeLine; decide), fun p hp => k _ p [z] (same_new s3 hp) (s3.free hp) upd_same (by show 1 ≤ _; omega)⟩
      · exact ⟨Nat.zero_le _, fun p hp => k _ p [] (same_new s3 hp) (s3.free hp) upd_same (Nat.zero_le _)⟩
    have pos : 0 < xs.length := by
      cases xs with
      | nil =>
        have e : cc = false := nz
        rw [hcc.mpr rfl] at e
        cases e
      | cons x xs => exact Nat.succ_pos _
    obtain ⟨H3, e3⟩ : ∃ H3, H3 = upd H2 em (.lst []) := ⟨_, rfl⟩
    rw [← e3] at s3 hL3 ⊢
    refine ⟨_, rfl, _, rfl, l, xs, _, rfl, SqL.of hL3, rfl, _, _, _, rfl, by omega, fun H4 i s4 i0 i1 => ⟨_, rfl, _, rfl, l, xs, _, rfl, SqL.of (s4 _ _ hL3), rfl, _, _, _, rfl, by omega, fun H5 j s5 j0 j1 => ⟨_, _, rfl, ?_⟩⟩⟩
    have s35 := Same.trans s3 (Same.trans s4 s5)
    have hL5 := s5 _ _ (s4 _ _ hL3)
    have Mid : ∃ Mid : (List Int → Prop) → L2.St → Hp → Prop, Mid = fun p σ H' => ∃ fs : List Int, σ = [some (.ref a), some (.int c), some (.int z), some (.int kd), some (.ref l), some (.int i), some (.int j)] ∧ Same H H' ∧ H' l = some (.lst (vi fs)) ∧ p fs := ⟨_, rfl⟩
    obtain ⟨Mid, eM⟩ := Mid
    refine ⟨Mid fun fs => fs.length = xs.length, ?_, ?_⟩
    · refine ⟨_, rfl, _, _, rfl, rfl, _, rfl, ?_⟩
      refine ite_d (fun _ => ?_) fun _ => ?_
      · refine ⟨_, rfl, _, rfl, l, xs, _, _, rfl, rfl, SqL.of hL5, j0, j1, rfl, ?_⟩
        refine ⟨_, rfl, _, rfl, l, xs, _, _, rfl, rfl, SqL.of hL5, i0, i1, rfl, (by show 2 ≤ sizeLine; decide), fun t ht => ?_⟩
        have hL6 : (upd H5 t (.tup [.int (RS.fr xs j.toNat), .int (RS.fr xs i.toNat)])) l = some (.lst (vi xs)) := by rw [upd_ne (ne_of_none hL5 ht)]; exact hL5
        refine ⟨t, _, rfl, .inl (Rd.of upd_same), rfl, _, _, rfl, _, rfl, _, rfl, l, xs, _, _, rfl, rfl, rfl, hL6, i0, i1, ?_⟩
        refine ⟨_, _, rfl, _, rfl, _, rfl, l, _, _, _, rfl, rfl, rfl, upd_same, j0, (by rw [List.length_set]; exact j1), ?_⟩
        rw [eM]
        exact ⟨rfl, _, rfl, same_mut (same_mut (same_new s35 ht) hl0) hl0, upd_same, List.length_set.trans List.length_set⟩
      · rw [eM]
        exact ⟨xs, rfl, s35, hL5, rfl⟩
    intro σ H6 M6
    rw [eM] at M6
    obtain ⟨fs, rfl, s6, hL6, le6⟩ := M6
    refine ⟨Mid fun fs => fs.length = xs.length ∨ (kd = 2 ∧ fs.length ≤ xs.length), ?_, ?_⟩
    · refine ⟨_, rfl, rfl, _, rfl, ?_⟩
      refine ite_eq (fun e => ?_) fun _ => ?_
      · refine ⟨_, rfl, .inl ⟨rfl, _, SqL.of hL6⟩, _, rfl, l, fs, _, rfl, rfl, hL6, i0, by omega, by omega, ?_⟩
        rw [eM]
        refine ⟨_, rfl, same_mut s6 hl0, upd_same, .inr ⟨e, ?_⟩⟩
        rw [List.length_eraseIdx]
        split <;> omega
      · rw [eM]
        exact ⟨fs, rfl, s6, hL6, .inl le6⟩
    intro σ H7 M7
    rw [eM] at M7
    obtain ⟨fs7, rfl, s7, hL7, le7⟩ := M7
    refine ⟨Mid fun fs => fs.length = xs.length ∨ (kd = 2 ∧ fs.length ≤ xs.length), ?_, ?_⟩
    · refine ⟨_, rfl, rfl, _, rfl, ?_⟩
      refine ite_eq (fun e => ?_) fun _ => ?_
      · have ln : fs7.length = xs.length := le7.elim id fun z => by omega
        refine ⟨_, rfl, _, rfl, _, rfl, l, fs7, _, _, rfl, rfl, rfl, hL7, i0, by omega, ?_⟩
        rw [eM]
        exact ⟨_, rfl, same_mut s7 hl0, upd_same, .inl (by rw [List.length_set]; exact ln)⟩
      · rw [eM]
        exact ⟨fs7, rfl, s7, hL7, le7⟩
    intro σ H8 M8
    rw [eM] at M8
    obtain ⟨fs8, rfl, s8, hL8, le8⟩ := M8
    refine ⟨Mid fun fs => fs.length ≤ xs.length + 1 ∧ (kd = 5 → fs.length ≤ xs.length), ?_, ?_⟩
    · refine ⟨_, rfl, rfl, _, rfl, ?_⟩
      refine ite_eq (fun e => ?_) fun ne => ?_
      · have ln : fs8.length = xs.length := le8.elim id fun z => by omega
        refine ⟨_, rfl, .inl ⟨rfl, _, SqL.of hL8⟩, _, rfl, _, rfl, _, rfl, l, fs8, _, _, rfl, rfl, SqL.of hL8, j0, by omega, rfl, l, fs8, _, _, rfl, rfl, hL8, by omega, i0, by omega, ?_⟩
        rw [eM]
        refine ⟨_, rfl, same_mut s8 hl0, upd_same, ?_, fun z => by omega⟩
        rw [List.length_append, List.length_append, List.length_take, List.length_drop, List.length_singleton]
        omega
      · rw [eM]
        exact ⟨fs8, rfl, s8, hL8, le8.elim (fun z => by omega) fun z => by omega, fun z => le8.elim (fun z => by omega) fun z => z.2⟩
    intro σ H9 M9
    rw [eM] at M9
    obtain ⟨fs9, rfl, s9, hL9, le9, le5⟩ := M9
    refine ⟨_, rfl, rfl, _, rfl, ?_⟩
    refine ite_eq (fun e => ?_) fun _ => ?_
    · refine ⟨_, rfl, _, rfl, (by show 1 ≤ sizeLine; decide), fun u hu => ?_⟩
      have s10 := same_new s9 hu (o := .lst [.int z])
      refine ⟨l, u, fs9, [z], rfl, rfl, (by rw [upd_ne (ne_of_none hL9 hu)]; exact hL9), upd_same, (by show fs9.length + 1 ≤ 100000; omega), fun p hp => ?_⟩
      exact k _ p _ (same_new s10 hp) (s10.free hp) upd_same (by rw [List.length_append, List.length_singleton]; have := le5 e; omega)
    · exact ⟨_, rfl, k _ l _ s9 hl0 hL9 le9⟩
def sp_made_right (K : PySem.W.Frag) : Sp := fun vs H Q _ => ∃ (r a b : Addr) (row sw wy : List Int), vs = [.ref r, .ref a, .ref b] ∧ SqL K H r (vi row) ∧ SqL K H a (vi sw) ∧ SqL K H b (vi wy) ∧ RS.IsRow row ∧ row.length ≤ 1000 ∧ sw.length ≤ 9000 ∧ wy.length ≤ 9000 ∧ ∀ H', Same H H' → Q (.bl true) H'
theorem ok_l_made_right (T : Txt K mg) : FnOk P w K mg base CX0 4 T.f_l_made_right T.d_l_made_right ["_law_row_here", "_law_swaps", "_law_ways"] (sp_made_right K) := by
  have G_B_init : FnOk P w K mg base CX0 1 T.f_B_init T.d_B_init ["self", "swaps", "ways"] (sp_B_init T.C K) := ok_B_init T
  have G_B_shows : FnOk P w K mg base CX0 3 T.f_B_shows T.d_B_shows ["self", "row"] (sp_B_shows T.C K) := ok_B_shows T
  have G_l_due : FnOk P w K mg base CX0 2 T.f_l_due T.d_l_due ["_law_row_here", "_law_swaps", "_law_ways"] (sp_l_due K) := ok_l_due T
  have G_l_says : FnOk P w K mg base CX0 1 T.f_l_says T.d_l_says ["_law_said", "_law_due_here"] sp_l_says := ok_l_says T
  refine T.a_l_made_right.F.ok sc_l_made_right (fun vs H Q E h => ?_) (fun cdv A outer s H vs Q E hr h => ?_)
  · obtain ⟨r, a, b, row, sw, wy, rfl, _⟩ := h
    rfl
  · obtain ⟨r, a, b, row, sw, wy, rfl, hrow, ha, hb, R, rl, sl, wl, k⟩ := h
    refine ⟨_, (pss_cons (ps_set (i := 3) sc_l_made_right.nd rfl (Or.inl rfl) (pe_lst (pa_cons (pe_callTy lstZ (by rfl) T.z_list (by decide +kernel) (pa_cons (pv 1) pa_nil)) (pa_cons (pe_callTy lstZ (by rfl) T.z_list (by decide +kernel) (pa_cons (pv 2) pa_nil)) pa_nil))))
    (pss_cons (ps_set (i := 4) sc_l_made_right.nd rfl (Or.inl rfl) (pe_make ⟨T.mkC, T.a_B_init.m, T.a_B_init.i, T.kC⟩ G_B_init (hr.mono (by decide)) rfl T.gC T.a_B_init.b .nil pass0 (pa_cons (pe_ix ix_list (pv 3) pe_int (fun _ _ => rfl)) (pa_cons (pe_ix ix_list (pv 3) pe_int (fun _ _ => rfl)) pa_nil))))
    (pss_cons (ps_expr (pe_bm PySem.F.plainAttrs_list PySem.F.slot_list_append PySem.F.type_list_append appZ (pe_ix ix_list (pv 3) pe_int (fun _ _ => rfl)) (pa_cons pe_int pa_nil)))
    (pss_cons (ps_expr (pe_bm PySem.F.plainAttrs_list PySem.F.slot_list_append PySem.F.type_list_append appZ (pe_ix ix_list (pv 3) pe_int (fun _ _ => rfl)) (pa_cons pe_int pa_nil)))
    (pss_cons (ps_if (PW.pt (pw_or (pt_cmpR (op_neZ hr.units) (pe_fld (pv 4) rfl) (pv 1) (nomark _)) (pw_or1 (pt_cmpR (op_neZ hr.units) (pe_fld (pv 4) rfl) (pv 2) (nomark _)))))
    (pss_one (ps_ret pe_bl))
    pss_nil)
    (pss_one (ps_ret (pe_call G_l_says (hr.mono (by decide)) rfl T.a_l_says.g T.a_l_says.F.kp T.a_l_says.b .nil pass0 (pa_cons (pe_meth (pv 4) T.cl ⟨T.a_B_shows.m, T.a_B_shows.i, T.a_B_shows.F.kp⟩ G_B_shows hr T.a_B_shows.b .nil pass0 (pa_cons (pv 0) pa_nil)) (pa_cons (pe_call G_l_due (hr.mono (by decide)) rfl T.a_l_due.g T.a_l_due.F.kp T.a_l_due.b .nil pass0 (pa_cons (pv 0) (pa_cons (pv 1) (pa_cons (pv 2) pa_nil)))) pa_nil)))))))))), ?_⟩
    refine ⟨_, rfl, a, sw, rfl, ha, fun p hp => ?_⟩
    have s1 := same_new (Same.refl H) hp (o := .lst (vi sw))
    refine ⟨_, rfl, b, wy, rfl, s1.seq hb, fun q hq => ?_⟩
    have s2 := same_new s1 hq (o := .lst (vi wy))
    have npq : p ≠ q := ne_of_none upd_same hq
    refine ⟨(by show 2 ≤ sizeLine; decide), fun hd hhd => ?_⟩
    have s3 := same_new s2 hhd (o := .lst [.ref p, .ref q])
    have phd : p ≠ hd := ne_of_none (show (upd (upd H p (.lst (vi sw))) q (.lst (vi wy))) p = some (.lst (vi sw)) by rw [upd_ne npq]; exact upd_same) hhd
    have hp3 : (upd (upd (upd H p (.lst (vi sw))) q (.lst (vi wy))) hd (.lst [.ref p, .ref q])) p = some (.lst (vi sw)) := by
      have e : (upd (upd H p (.lst (vi sw))) q (.lst (vi wy))) p = some (.lst (vi sw)) := by rw [upd_ne npq]; exact upd_same
      rw [upd_ne (ne_of_none e hhd)]; exact e
    have hq3 : (upd (upd (upd H p (.lst (vi sw))) q (.lst (vi wy))) hd (.lst [.ref p, .ref q])) q = some (.lst (vi wy)) := by
      rw [upd_ne (ne_of_none upd_same hhd)]; exact upd_same
    have hh3 : (upd (upd (upd H p (.lst (vi sw))) q (.lst (vi wy))) hd (.lst [.ref p, .ref q])) hd = some (.lst [.ref p, .ref q]) := upd_same
    obtain ⟨H3, e3⟩ : ∃ H3, H3 = upd (upd (upd H p (.lst (vi sw))) q (.lst (vi wy))) hd (.lst [.ref p, .ref q]) := ⟨_, rfl⟩
    rw [← e3] at s3 hp3 hq3 hh3 ⊢
    refine ⟨_, rfl, hd, _, 0, .ref p, rfl, rfl, SqL.of hh3, rfl, _, rfl, hd, _, 1, .ref q, rfl, rfl, SqL.of hh3, rfl, ?_⟩
    refine fun x dx nx ndx nex => ?_
    have keep : ∀ b o, H3 b = some o → (upd (upd H3 dx (.own x)) x (.ins T.C dx [])) b = some o := fun b o e => by
      rw [upd_ne (ne_of_none e nx), upd_ne (ne_of_none e ndx)]
      exact e
    have back : ∀ b, (upd (upd H3 dx (.own x)) x (.ins T.C dx [])) b = none → H3 b = none := fun b e => by
      cases h : H3 b with
      | none => rfl
      | some o =>
        rw [keep b o h] at e
        cases e
    refine ⟨x, dx, p, q, sw, wy, rfl, upd_same, SqL.of (keep _ _ hp3), SqL.of (keep _ _ hq3), fun H4 l1 l2 s4 h1 h2 ne B => ⟨rfl, ?_⟩⟩
    have s34 : Same H3 H4 := fun b o e => s4 b o (keep b o e) (ne_of_none e nx)
    have px : x ≠ p := Ne.symm (ne_of_none hp3 nx)
    have qx : x ≠ q := Ne.symm (ne_of_none hq3 nx)
    have p1 : l1 ≠ p := Ne.symm (ne_of_none hp3 (back _ h1))
    have p2 : l2 ≠ p := Ne.symm (ne_of_none hp3 (back _ h2))
    have q1 : l1 ≠ q := Ne.symm (ne_of_none hq3 (back _ h1))
    have q2 : l2 ≠ q := Ne.symm (ne_of_none hq3 (back _ h2))
    have hp4 := s34 _ _ hp3
    have hq4 := s34 _ _ hq3
    have hh4 := s34 _ _ hh3
    have hdp : hd ≠ p := Ne.symm phd
    have hp0 : H p = none := hp
    have hq0 : H q = none := s1.free hq
    refine ⟨_, rfl, hd, _, 0, .ref p, rfl, rfl, SqL.of hh4, rfl, .inl ⟨rfl, _, SqL.of hp4⟩, p, sw, 0, rfl, rfl, hp4, by omega, ?_⟩
    have hh5 : (upd H4 p (.lst (vi (sw ++ [0])))) hd = some (.lst [.ref p, .ref q]) := by rw [upd_ne hdp]; exact hh4
    have hq5 : (upd H4 p (.lst (vi (sw ++ [0])))) q = some (.lst (vi wy)) := by rw [upd_ne (Ne.symm npq)]; exact hq4
    refine ⟨_, rfl, hd, _, 1, .ref q, rfl, rfl, SqL.of hh5, rfl, .inl ⟨rfl, _, SqL.of hq5⟩, q, wy, 0, rfl, rfl, hq5, by omega, ?_⟩
    have s5 : Same H (upd (upd H4 p (.lst (vi (sw ++ [0])))) q (.lst (vi (wy ++ [0])))) := same_mut (same_mut (Same.trans s3 s34) hp0) hq0
    have B5 : BrAt T.C (upd (upd H4 p (.lst (vi (sw ++ [0])))) q (.lst (vi (wy ++ [0])))) x l1 l2 sw wy := by
      obtain ⟨dx', hx⟩ := B.ob
      exact ⟨⟨dx', by rw [upd_ne qx, upd_ne px]; exact hx⟩, by rw [upd_ne q1, upd_ne p1]; exact B.h1, by rw [upd_ne q2, upd_ne p2]; exact B.h2⟩
    obtain ⟨H5, e5⟩ : ∃ H5, H5 = upd (upd H4 p (.lst (vi (sw ++ [0])))) q (.lst (vi (wy ++ [0]))) := ⟨_, rfl⟩
    rw [← e5] at s5 B5 ⊢
    obtain ⟨dx5, hx5⟩ := id B5.ob
    refine ⟨_, rfl, x, T.C, dx5, _, _, rfl, hx5, T.cl, T.nS, bf_swaps _ _, _, rfl, l1, a, sw, sw, rfl, rfl, SqL.of B5.h1, s5.seq ha, fun c1 hc1 => ⟨_, rfl, ?_⟩⟩
    have e1 : c1 = true := hc1.mpr rfl
    subst e1
    refine iteF ?_
    refine ⟨_, rfl, x, T.C, dx5, _, _, rfl, hx5, T.cl, T.nW, bf_ways _ _, _, rfl, l2, b, wy, wy, rfl, rfl, SqL.of B5.h2, s5.seq hb, fun c2 hc2 => ⟨_, rfl, ?_⟩⟩
    have e2 : c2 = true := hc2.mpr rfl
    subst e2
    refine iteF ?_
    refine ⟨_, rfl, x, dx5, _, rfl, hx5, bf_no _ _ (by decide +kernel) (by decide +kernel), _, rfl, x, l1, l2, r, sw, wy, row, rfl, B5, s5.seq hrow, R, rl, by omega, fun H6 cs s6 hcs => ?_⟩
    have s56 := Same.trans s5 s6
    refine ⟨_, rfl, _, rfl, _, rfl, r, a, b, sw, wy, row, rfl, s56.seq hrow, s56.seq ha, s56.seq hb, R, rl, by omega, by omega, fun H7 cd s7 hcd => ?_⟩
    refine ⟨cs, cd, rfl, fun c hc => ?_⟩
    have ec : c = true := hc.mpr (Bool.eq_iff_iff.mpr (hcs.trans hcd.symm))
    rw [ec]
    exact k _ (Same.trans s56 s7)
end
end Toy
set_option Elab.async false
set_option linter.all false
set_option maxRecDepth 100000
set_option maxHeartbeats 4000000
namespace Toy
open PySem PySem.Spec PyProof.Rows
/-! ## what an enumerate gives, gathered -/
/-- the enumerate at e stands before its i-th thing -/
def EnSt (e it l S : Addr) (items : Array Value) (i : Nat) (h : Heap) : Prop :=
  h.IsListIter it l i ∧ h.IsList l items ∧ ((∃ old, IsEnum h e it i old) ∨ ∃ old T f oT, IsEnumHeld h e it i old T f ∧ h.get? T = some oT ∧ T ≠ e ∧ T ≠ it ∧ T ≠ S)
/-- what was gathered: pairs of a place and a thing -/
def Got (h0 h : Heap) (S : Addr) (items acc : Array Value) (i : Nat) : Prop :=
  acc.size = i ∧ ∀ (j : Nat) (v : Value), acc[j]? = some v → ∃ (t : Addr) (tk : Tok) (x : Value), v = .ref t ∧ items[j]? = some x ∧ t ≠ S ∧ h0.get? t = none ∧ h.get? t = some { cls := .type "tuple", data := .seq #[.int (j : Int) tk, x] }
theorem Got.keeps {h0 h h' : Heap} {S e it : Addr} {items acc : Array Value} {i : Nat} (g : Got h0 h S items acc i) (he : ∃ oe, h.get? e = some oe ∧ oe.cls ≠ .type "tuple") (hi : ∃ oi, h.get? it = some oi ∧ oi.cls ≠ .type "tuple")
    (k : ∀ b o, b ≠ S → b ≠ e → b ≠ it → h.get? b = some o → h'.get? b = some o) : Got h0 h' S items acc i := ⟨g.1, fun j v hv => by
  obtain ⟨t, tk, x, rfl, hx, ne, nw, ht⟩ := g.2 j v hv
  refine ⟨t, tk, x, rfl, hx, ne, nw, k t _ ne (fun z => ?_) (fun z => ?_) ht⟩
  · obtain ⟨oe, h1, h2⟩ := he
    rw [← z, ht] at h1
    exact h2 (by rw [← Option.some.inj h1])
  · obtain ⟨oi, h1, h2⟩ := hi
    rw [← z, ht] at h1
    exact h2 (by rw [← Option.some.inj h1])⟩
theorem Got.push {h0 h : Heap} {S : Addr} {items acc : Array Value} {i : Nat} {t : Addr} {tk : Tok} {x : Value} (g : Got h0 h S items acc i) (hx : items[i]? = some x) (ne : t ≠ S) (nw : h0.get? t = none) (ht : h.get? t = some { cls := .type "tuple", data := .seq #[.int (i : Int) tk, x] }) : Got h0 h S items (acc.push (.ref t)) (i + 1) := by
  refine ⟨by rw [Array.size_push, g.1], fun j v hv => ?_⟩
  rw [Array.getElem?_push] at hv
  by_cases hj : j = acc.size
  · rw [if_pos hj] at hv
    cases hv
    have ej : j = i := hj.trans g.1
    subst ej
    exact ⟨t, tk, x, rfl, hx, ne, nw, ht⟩
  · rw [if_neg hj] at hv
    exact g.2 j v hv
section
variable {prog : Program} {w : World} {A : Around} {e it l S : Addr} {items : Array Value}
theorem EnSt.kinds {i : Nat} {h : Heap} (st : EnSt e it l S items i h) : (∃ oe, h.get? e = some oe ∧ oe.cls ≠ .type "tuple") ∧ ∃ oi, h.get? it = some oi ∧ oi.cls ≠ .type "tuple" := by
  obtain ⟨⟨o, ho, hc, _⟩, _, he⟩ := st
  refine ⟨?_, o, ho, by rw [hc]; decide⟩
  rcases he with ⟨old, he⟩ | ⟨old, T, f, oT, he, _⟩
  · exact ⟨_, he, (show Value.type "enumerate" ≠ Value.type "tuple" by decide)⟩
  · exact ⟨_, he, (show Value.type "enumerate" ≠ Value.type "tuple" by decide)⟩
/-- the loop that gathers -/
theorem en_loop {R : Result → Shared → Prop} {res : Value} {h0 : Heap} (hA : A.in1.handled = none) (hei : e ≠ it) (hle : l ≠ e) (hli : l ≠ it) (hSe : S ≠ e) (hSi : S ≠ it) (hSl : S ≠ l) (hn : items.size ≤ sizeLine) :
    ∀ (k i : Nat) (s : Shared) (acc : Array Value) (c : Nat), items.size - i = k → i ≤ items.size → EnSt e it l S items i s.heap → s.heap.get? S = some { cls := .type "list", data := .seq acc c } → Got h0 s.heap S items acc i → (∀ b o, b ≠ S → b ≠ e → b ≠ it → h0.get? b = some o → s.heap.get? b = some o) →
      (∀ (h' : Heap) (tk : Nat) (acc' : Array Value) (c' : Nat), (∀ b o, b ≠ S → b ≠ e → b ≠ it → s.heap.get? b = some o → h'.get? b = some o) → h'.get? S = some { cls := .type "list", data := .seq acc' c' } → Got h0 h' S items acc' items.size → R (.ok (.ret res)) { s with heap := h', toks := tk }) →
      codeAny (model prog w) A (.builtin "list.extend.loop" ⟨[.ref S, .ref e, res], []⟩) R s := by
  intro k
  induction k with
  | zero =>
    intro i s acc c hk hi st hS g k0 hR
    obtain rfl : i = items.size := by omega
    obtain ⟨kd1, kd2⟩ := st.kinds
    obtain ⟨hit, hl, he⟩ := st
    have out : items[items.size]? = none := Array.getElem?_eq_none (Nat.le_refl _)
    have fin : ∀ h', Heap.ExtBut it s.heap h' → R (.ok (.ret res)) { s with heap := h' } := fun h' hk => hR h' s.toks acc c (fun b o _ _ n3 q => hk b o n3 q) (hk S _ hSi hS) (g.keeps kd1 kd2 fun b o _ _ n3 q => hk b o n3 q)
    refine codeAny_builtin PySem.F.entry_extend_loop ?_
    rw [Around.under_plainId PySem.F.plain_extend_loop _]
    show wpAny _ A.in1 (pyNext (.ref e) >>= _) _ _ s
    rcases he with ⟨old, he⟩ | ⟨old, T, f, oT, he, hT, r1, r2, r3⟩
    · exact wpAny_bind (wpAny_pyNext_enum_end hA he hit hl out fun h' hk => wpAny_pure (fin h' hk))
    · exact wpAny_bind (wpAny_pyNext_enum_end_held hA he hit hl out fun h' hk => wpAny_pure (fin h' hk))
  | succ k ih =>
    intro i s acc c hk hi st hS g k0 hR
    have hlt : i < items.size := by omega
    obtain ⟨kd1, kd2⟩ := st.kinds
    obtain ⟨hit, hl, he⟩ := st
    have ex := Array.getElem?_eq_getElem hlt
    have nS : s.heap.objs.size ≠ S := Nat.ne_of_gt (Heap.lt_size hS)
    have ne_ : s.heap.objs.size ≠ e := by
      rcases he with ⟨_, x⟩ | ⟨_, _, _, _, x, _⟩ <;> exact Nat.ne_of_gt (Heap.lt_size x)
    have nit : s.heap.objs.size ≠ it := let ⟨_, x, _⟩ := hit; Nat.ne_of_gt (Heap.lt_size x)
    have next : ∀ (h' : Heap) (old' : Value) (T' : Addr) (f' : Bool) (oT' : Obj), IsEnumHeld h' e it ((i : Int) + 1) old' T' f' → h'.get? T' = some oT' → T' ≠ e → T' ≠ it → T' ≠ S → h'.IsListIter it l (i + 1) →
        h'.get? s.heap.objs.size = some { cls := .type "tuple", data := .seq #[.int (i : Int) s.toks, items[i]] } → (∀ b o, b ≠ e → b ≠ it → s.heap.get? b = some o → h'.get? b = some o) →
        wpAny (model prog w) A.in1 (updateSeq S (·.push (.ref s.heap.objs.size)) >>= fun _ => again (.builtin "list.extend.loop" ⟨[.ref S, .ref e, res], []⟩)) (fun f s' => match f with | .done r => R (.ok r) s' | .again c => c.quiet = true ∧ codeAny (model prog w) A c R s') (fun x s' => R (.error x) s') { s with heap := h', toks := s.toks + 1 } := by
      intro h' old' T' f' oT' hh hT' q1 q2 q3 hit' ht kp
      have hS' := kp S _ hSe hSi hS
      have upd := Heap.get?_update_self (Obj.mapSeq (·.push (Value.ref s.heap.objs.size))) hS' rfl
      have oth : ∀ b o, b ≠ S → h'.get? b = some o → (h'.update S (Obj.mapSeq (·.push (Value.ref s.heap.objs.size)))).get? b = some o := fun b o nb q => (Heap.get?_update_other _ _ (Ne.symm nb)).trans q
      have ec : ((i + 1 : Nat) : Int) = (i : Int) + 1 := by omega
      refine wpAny_bind (wpAny_updateSeq hS' rfl (wpAny_pure ⟨plainId_quiet PySem.F.plain_extend_loop _, ih (i + 1) _ (acc.push (.ref s.heap.objs.size)) _ (by omega) hlt ?_ upd ?_ (fun b o m1 m2 m3 q => oth b o m1 (kp b o m2 m3 (k0 b o m1 m2 m3 q))) fun h2 tk acc' c' kp2 a b => ?_⟩) (by rw [g.1]; omega) (by show (acc.push _).size ≤ sizeLine + 1; rw [Array.size_push, g.1]; omega))
      · refine ⟨hit'.at fun o q => oth _ o (Ne.symm hSi) q, (hl.at fun o q => kp _ o hle hli q).at fun o q => oth _ o (Ne.symm hSl) q, .inr ⟨old', T', f', oT', ?_, oth _ _ q3 hT', q1, q2, q3⟩⟩
        rw [ec]
        exact oth _ _ (Ne.symm hSe) hh
      · have g1 : Got h0 h' S items acc i := g.keeps kd1 kd2 fun b o _ n2 n3 q => kp b o n2 n3 q
        have nw : h0.get? s.heap.objs.size = none := by
          cases z : h0.get? s.heap.objs.size with
          | none => rfl
          | some o => exact absurd (Heap.lt_size (k0 _ o nS ne_ nit z)) (Nat.lt_irrefl _)
        have g2 := g1.push ex nS nw ht
        exact ⟨g2.1, fun j v hv => by
          obtain ⟨t, tk, x, rfl, hx, ne, nw, ht⟩ := g2.2 j v hv
          exact ⟨t, tk, x, rfl, hx, ne, nw, oth _ _ ne ht⟩⟩
      · exact hR h2 tk acc' c' (fun b o n1 n2 n3 q => kp2 b o n1 n2 n3 (oth b o n1 (kp b o n2 n3 q))) a b
    refine codeAny_builtin PySem.F.entry_extend_loop ?_
    rw [Around.under_plainId PySem.F.plain_extend_loop _]
    show wpAny _ A.in1 (pyNext (.ref e) >>= _) _ _ s
    rcases he with ⟨old, he⟩ | ⟨old, T, f, oT, he, hT, r1, r2, r3⟩
    · refine wpAny_bind (wpAny_pyNext_enum_item he hit hl ex hei fun h' ho hit' ht hsz kp => ?_)
      exact next h' _ _ _ _ ho ht (Nat.ne_of_gt (Heap.lt_size he)) nit nS hit' ht kp
    · refine wpAny_bind (wpAny_pyNext_enum_item_held he hT r1 r2 hit hl ex hei fun h' ho hit' ht hsz kp => ?_)
      exact next h' _ _ _ _ ho (kp _ _ r1 r2 hT) r1 r2 r3 hit' ht kp
theorem nolen_en : typeLookup (.type "enumerate") "__len__" = pure none := by
  rw [typeLookup_type, builtinLookup_eq_fast] <;> kernel_rfl
theorem nohint_en : typeLookup (.type "enumerate") "__length_hint__" = pure none := by
  rw [typeLookup_type, builtinLookup_eq_fast] <;> kernel_rfl
/-- the pairs that stand behind the gathering -/
def Prs (h0 h : Heap) (items : Array Value) (vs : List Value) : Prop := vs.length = items.size ∧ ∀ (j : Nat) (v : Value), vs[j]? = some v → ∃ (t : Addr) (tk : Tok) (x : Value), v = .ref t ∧ items[j]? = some x ∧ h0.get? t = none ∧ h.get? t = some { cls := .type "tuple", data := .seq #[.int (j : Int) tk, x] }
theorem en_collect {E : Value → Shared → Prop} {s : Shared} {old : Value} {Q : List Value → Shared → Prop} (hA : A.handled = none) (he : IsEnum s.heap e it 0 old) (hit : s.heap.IsListIter it l 0) (hl : s.heap.IsList l items) (hei : e ≠ it) (hle : l ≠ e) (hli : l ≠ it) (hn : items.size ≤ sizeLine)
    (hQ : ∀ (h' : Heap) (tk : Nat) (vs : List Value), (∀ b o, b ≠ e → b ≠ it → s.heap.get? b = some o → h'.get? b = some o) → Prs s.heap h' items vs → Q vs { s with heap := h', toks := tk }) :
    wpAny (model prog w) A (collect (.ref e)) Q E s := by
  have hlt : e < s.heap.objs.size := Heap.lt_size he
  have hlt2 : it < s.heap.objs.size := let ⟨_, x, _⟩ := hit; Heap.lt_size x
  have hlt3 : l < s.heap.objs.size := let ⟨_, x, _⟩ := hl; Heap.lt_size x
  have n1 : s.heap.objs.size ≠ e := Nat.ne_of_gt hlt
  have n2 : s.heap.objs.size ≠ it := Nat.ne_of_gt hlt2
  have n3 : s.heap.objs.size ≠ l := Nat.ne_of_gt hlt3
  have ty : ∀ (h : Heap), IsEnum h e it 0 old → ({ s with heap := h } : Shared).TypeIs (.ref e) "enumerate" := fun h q => ⟨_, q, rfl⟩
  have kS : ∀ b o, s.heap.get? b = some o → (s.heap.push { cls := .type "list", data := .seq ([] : List Value).toArray }).get? b = some o := fun b o q => Heap.get?_push_of_some _ q
  have hS0 : (s.heap.push { cls := .type "list", data := .seq ([] : List Value).toArray }).get? s.heap.objs.size = some { cls := .type "list", data := .seq ([] : List Value).toArray } := Heap.get?_push_size _ rfl
  have he1 := kS _ _ he
  unfold collect; refine wpAny_bind (wpAny_runValue (codeAny_builtin PySem.F.entry_proto_collect ?_))
  rw [Around.under_plainId PySem.F.plain_proto_collect _]
  show wpAny _ A.in1 (newList [] >>= fun r => again (.builtin "list.__iadd__" ⟨[r, .ref e], []⟩)) _ _ s
  refine wpAny_bind (wpAny_newObj_type ?_); refine wpAny_pure ⟨plainId_quiet PySem.F.plain_list_iadd _, codeAny_builtin PySem.F.entry_list_iadd ?_⟩
  rw [Around.under_plainId PySem.F.plain_list_iadd _]
  show wpAny _ A.in1 (Builtin.List.listExtendWith (.ref s.heap.objs.size) (.ref e) (.ref s.heap.objs.size)) _ _ { s with heap := s.heap.push { cls := .type "list", data := .seq ([] : List Value).toArray } }
  unfold Builtin.List.listExtendWith; refine wpAny_bind (wpAny_typeOf (ty _ he1) ?_)
  have c1 : Builtin.List.listSameRef (.ref s.heap.objs.size) (.ref e) = false := by simp [Builtin.List.listSameRef, n1]
  have c2 : (Value.type "enumerate" == Value.type "list") = false := by decide
  have c3 : (Value.type "enumerate" == Value.type "tuple") = false := by decide
  simp only [c1, c2, c3, Bool.or_false, Bool.false_eq_true, if_false]
  refine wpAny_bind (wpAny_pyIter_enum he1 ?_); refine wpAny_bind (wpAny_holding ?_)
  unfold Builtin.List.listLengthHint; refine wpAny_bind (wpAny_specialOf (ty _ he1) nolen_en ?_)
  show wpAny _ A.in1 (specialOf (Value.ref e) (Str.ofString "__length_hint__") >>= _) _ _ _
  refine wpAny_bind (wpAny_specialOf (ty _ he1) nohint_en ?_); refine wpAny_pure ?_
  show wpAny _ A.in1 (rule "list.extend.makes-room" >>= fun _ => Builtin.List.listTouch (.ref s.heap.objs.size) >>= fun _ => again (.builtin "list.extend.loop" ⟨[.ref s.heap.objs.size, .ref e, .ref s.heap.objs.size], []⟩)) _ _ _
  refine wpAny_bind (wpAny_rule ?_); refine wpAny_bind ?_
  show wpAny _ A.in1 (updateSeq s.heap.objs.size (·.push .none) >>= fun _ => updateSeq s.heap.objs.size (·.pop)) _ _ _
  refine wpAny_bind (wpAny_updateSeq hS0 rfl ?_)
  have hS1 := Heap.get?_update_self (Obj.mapSeq (·.push Value.none)) hS0 rfl
  refine wpAny_updateSeq hS1 rfl ?_
  have hS2 := Heap.get?_update_self (Obj.mapSeq (·.pop)) hS1 rfl
  have oth : ∀ b o, b ≠ s.heap.objs.size → s.heap.get? b = some o → (((s.heap.push { cls := .type "list", data := .seq ([] : List Value).toArray }).update s.heap.objs.size (Obj.mapSeq (·.push Value.none))).update s.heap.objs.size (Obj.mapSeq (·.pop))).get? b = some o :=
    fun b o nb q => (Heap.get?_update_other _ _ (Ne.symm nb)).trans ((Heap.get?_update_other _ _ (Ne.symm nb)).trans (kS b o q))
  have oth' : ∀ b o, s.heap.get? b = some o → (((s.heap.push { cls := .type "list", data := .seq ([] : List Value).toArray }).update s.heap.objs.size (Obj.mapSeq (·.push Value.none))).update s.heap.objs.size (Obj.mapSeq (·.pop))).get? b = some o :=
    fun b o q => oth b o (Nat.ne_of_lt (Heap.lt_size q)) q
  refine wpAny_pure ⟨plainId_quiet PySem.F.plain_extend_loop _, en_loop (hA : A.in1.handled = none) hei hle hli n1 n2 n3 hn items.size 0 _ _ _ rfl (Nat.zero_le _) ⟨hit.at fun o q => oth' _ o q, hl.at fun o q => oth' _ o q, .inl ⟨old, oth' _ _ he⟩⟩ hS2 ⟨rfl, fun j v h => by simp at h⟩ (h0 := s.heap) (fun b o _ _ _ q => oth' b o q) fun h' tk acc c kp hS' g => ?_⟩
  show wpAny _ A (load s.heap.objs.size >>= _) _ _ _
  refine wpAny_bind (wpAny_load hS' (wpAny_pure (hQ h' tk acc.toList (fun b o m1 m2 q => kp b o (Nat.ne_of_lt (Heap.lt_size q)) m1 m2 (oth' b o q)) ⟨by rw [Array.length_toList]; exact g.1, fun j v hv => ?_⟩)))
  obtain ⟨t, tk, x, rfl, hx, _, nw, ht⟩ := g.2 j v (by rw [← Array.getElem?_toList]; exact hv)
  exact ⟨t, tk, x, rfl, hx, nw, ht⟩
theorem each_at {α β : Type} {R : α → β → Prop} : ∀ {vs : List α} {bs : List β}, vs.length = bs.length → (∀ (j : Nat) (v : α) (x : β), vs[j]? = some v → bs[j]? = some x → R v x) → PySem.W.EachIs R vs bs
  | [], [], _, _ => .nil
  | v :: vs, x :: bs, h, k => .cons (k 0 v x rfl rfl) (each_at (Nat.succ.inj h) fun j u y h1 h2 => k (j + 1) u y h1 h2)
  | [], _ :: _, h, _ => nomatch h
  | _ :: _, [], h, _ => nomatch h
theorem each_mem {α β : Type} {R : α → β → Prop} {vs : List α} {bs : List β} (e : PySem.W.EachIs R vs bs) : ∀ v ∈ vs, ∃ x, R v x := by
  induction e with
  | nil => exact fun v h => nomatch h
  | cons r _ ih =>
    intro v hv
    rcases List.mem_cons.mp hv with rfl | hv
    · exact ⟨_, r⟩
    · exact ih v hv
theorem ints_at {vs : List Value} {ns : List Int} (h : IntsAre vs ns) : ∀ {j : Nat} {x : Value}, vs[j]? = some x → ∃ tk : Tok, x = .int (RS.fr ns j) tk := by
  induction h with
  | nil => exact fun h => by simp at h
  | cons n t _ ih =>
    intro j x hx
    cases j with
    | zero => exact ⟨t, (Option.some.inj (show some (Value.int _ t) = some x from hx)).symm⟩
    | succ j => exact ih (j := j) (by simpa using hx)
/-- a pair of ints at an address -/
def PrAt (h : Heap) (t : Addr) (i x : Int) : Prop := ∃ tk1 tk2 : Tok, h.get? t = some { cls := .type "tuple", data := .seq #[.int i tk1, .int x tk2] }
theorem en_sorted {E : Value → Shared → Prop} {s : Shared} {old : Value} {Q : Value → Shared → Prop} {q : Addr} {ns : List Int} (hA : A.handled = none) (he : IsEnum s.heap e it 0 old) (hit : s.heap.IsListIter it l 0) (hl : s.heap.IsList l items) (hei : e ≠ it) (hle : l ≠ e) (hli : l ≠ it) (hn : items.size ≤ sizeLine)
    (hi : IntsAre items.toList ns) (hu : A.units + 20 < cLine)
    (turn : ∀ (h : Heap) (tk : Nat) (t : Addr) (i x : Int), (∀ b o, b ≠ e → b ≠ it → s.heap.get? b = some o → h.get? b = some o) → PrAt h t i x →
      wpAny (model prog w) A.in1.in1 (call (.ref q) [.ref t]) (PySem.W.KeyPure (.int x) { s with heap := h, toks := tk }) (fun _ _ => False) { s with heap := h, toks := tk })
    (hQ : ∀ (D : Addr) (h' : Heap) (tk : Nat) (out : List Value) (c : Nat), (∀ b o, b ≠ e → b ≠ it → s.heap.get? b = some o → h'.get? b = some o) → (D ≠ e → D ≠ it → s.heap.get? D = none) → h'.get? D = some (seqObj "list" out.toArray c) → out.length = items.size →
      (∀ v ∈ out, ∃ (t : Addr) (i x : Int), v = .ref t ∧ s.heap.get? t = none ∧ t ≠ D ∧ PrAt h' t i x) → Q (.ref D) { s with heap := h', toks := tk }) :
    wpAny (model prog w) A (call (.builtin "sorted") [.ref e] [(Str.ofString "key", .ref q)]) Q E s := by
  have hlt : e < s.heap.objs.size := Heap.lt_size he
  refine call_function_entry_kw kind_sorted plain_sorted entry_sorted (ksk_s1 _ _) ?_
  unfold Builtin.«sorted»
  refine wpAny_bind (m := checkCount "sorted" 1 1 _) (wpAny_pure ?_)
  refine wpAny_bind (en_collect (hA : A.in1.handled = none) he hit hl hei hle hli hn fun h1 tk1 vs kp P => ?_)
  have hL : vs.length ≤ sizeLine := by rw [P.1]; exact hn
  refine wpAny_bind (wpAny_newList ?_ hL)
  have hD : (h1.push (seqObj "list" vs.toArray 0)).get? h1.objs.size = some (seqObj "list" vs.toArray 0) := Heap.get?_push_size _ rfl
  have up : ∀ b o, h1.get? b = some o → (h1.push (seqObj "list" vs.toArray 0)).get? b = some o := fun b o z => Heap.get?_push_of_some _ z
  have lenI := hi.length
  rw [Array.length_toList] at lenI
  have num : ∀ (j : Nat) (x : Value), items[j]? = some x → ∃ tk2 : Tok, x = .int (RS.fr ns j) tk2 := fun j x hx => ints_at hi (by rw [Array.getElem?_toList]; exact hx)
  have each : PySem.W.EachIs (fun (v : Value) (x : Int × Int) => ∃ t : Addr, v = .ref t ∧ s.heap.get? t = none ∧ t ≠ h1.objs.size ∧ PrAt h1 t x.1 x.2) vs ((List.range items.size).map fun j : Nat => (((j : Int), RS.fr ns j) : Int × Int)) := by
    refine each_at (by rw [P.1, List.length_map, List.length_range]) fun j v x hv hx => ?_
    obtain ⟨t, tk, y, rfl, hy, nw, ht⟩ := P.2 j v hv
    obtain ⟨tk2, rfl⟩ := num j y hy
    have ex : x = ((j : Int), RS.fr ns j) := by
      rw [List.getElem?_map] at hx
      cases z : (List.range items.size)[j]? with
      | none =>
        rw [z] at hx
        cases hx
      | some m =>
        rw [z] at hx
        have em : m = j := by
          have := List.getElem?_eq_some_iff.mp z
          obtain ⟨h, e⟩ := this
          rw [List.getElem_range] at e
          exact e.symm
        rw [← em]
        exact (Option.some.inj hx).symm
    rw [ex]
    exact ⟨t, rfl, nw, Nat.ne_of_lt (Heap.lt_size ht), tk, tk2, ht⟩
  show wpAny _ _ _ _ _ { s with heap := h1.push (seqObj "list" vs.toArray 0), toks := tk1 }
  refine wpAny_bind (wpAny_holding (wpAny_call_entry_kw slot_list_sort ⟨_, hD, rfl⟩ entry_list_sort ?body (ksk_l1 _ _)))
  case body =>
    show wpAny (model prog w) A.in1.in1 (Builtin.«list.sort» ⟨[.ref h1.objs.size], [(Str.ofString "key", .ref q)]⟩) _ _ _
    rw [ksk_t1]
    refine PySem.W.keyH_tree (kz := ((List.range items.size).map fun j : Nat => (((j : Int), RS.fr ns j) : Int × Int)).map fun x => PyData.int x.2) (s := { s with heap := h1.push (seqObj "list" vs.toArray 0), toks := tk1 }) hD (by rw [List.length_map, List.length_map, List.length_range, P.1]) hL ?_ ?_ ?_
      (PySem.W.keyH_turns (k := fun x : Int × Int => PyData.int x.2) (s := { s with heap := h1.push (seqObj "list" vs.toArray 0), toks := tk1 }) each ?_) fun h3 tk3 out c kp3 hD3 ko => ⟨.none, rfl, ?_⟩
    · intro d hd d' hd'
      obtain ⟨_, _, rfl⟩ := List.mem_map.mp hd
      obtain ⟨_, _, rfl⟩ := List.mem_map.mp hd'
      rfl
    · refine .inr fun d hd => ?_
      obtain ⟨_, _, rfl⟩ := List.mem_map.mp hd
      exact ⟨(fun z => nomatch z), fun xs z => nomatch z⟩
    · intro d hd
      obtain ⟨x, _, rfl⟩ := List.mem_map.mp hd
      have e : PyData.depth (.int x.2) ≤ 2 := by simp [PyData.depth]
      show A.units + 1 + 1 + PyData.depth (.int x.2) < cLine
      omega
    · rintro v x ⟨t, rfl, nw, ne, tk3, tk4, ht⟩ _ h tk kb
      exact turn h tk t x.1 x.2 (fun b o m1 m2 z => kb b o (Nat.ne_of_lt (Heap.lt_size (kp b o m1 m2 z))) (up _ _ (kp b o m1 m2 z))) ⟨tk3, tk4, kb t _ ne (up _ _ ht)⟩
    · refine wpAny_pure ⟨_, rfl, hQ h1.objs.size h3 tk3 out c (fun b o m1 m2 z => kp3 b o (Nat.ne_of_lt (Heap.lt_size (kp b o m1 m2 z))) (up _ _ (kp b o m1 m2 z))) ?_ hD3 ?_ fun v hv => ?_⟩
      · intro z1 z2
        cases z : s.heap.get? h1.objs.size with
        | none => rfl
        | some o => exact absurd (Heap.lt_size (kp _ o z1 z2 z)) (Nat.lt_irrefl _)
      · have := ko.length (by rw [List.length_map, List.length_map, List.length_range, P.1])
        rw [this, P.1]
      · obtain ⟨x, t, rfl, nw, ne, tk5, tk6, ht⟩ := each_mem (PySem.W.keyedOut_each (fun x : Int × Int => PyData.int x.2) ko each) v hv
        exact ⟨t, x.1, x.2, rfl, nw, ne, tk5, tk6, kp3 t _ ne (up _ _ ht)⟩
end
/-! ## the key: the second of a pair -/
def kArgs (p : Pos) : Arguments := { posonlyargs := [], args := [{ arg := "_law_pair", annotation := none, pos := p }], vararg := none, kwonlyargs := [], kw_defaults := [], kwarg := none, defaults := [] }
def kBody (p1 p2 p3 : Pos) : Expr := .Subscript (.Name "_law_pair" p1) (.Constant (.int 1) 0 p2) p3
def kScope : Scope := { kind := .function, names := [(Str.ofString "_law_pair", .local)], isGenerator := false, isCoroutine := false, more := [] }
theorem lam_key {prog : Program} {w : World} {A : Around} {s : Shared} {f t c' : Addr} {q : Str} {p p1 p2 p3 : Pos} {pm ctv : Value} {oc : Obj} {vc : Array Value} {tq : Tok} {i x : Int} (dp : A.depth < recursionLimit) (lim : s.heap.NoLimit)
    (hf : s.heap.get? f = some (PySem.W.kla_obj "<lambda>" q (kArgs p) (kBody p1 p2 p3) kScope [] pm c' ctv)) (hoc : s.heap.get? c' = some oc) (hdc : oc.data = .fields vc) (hvc : vc[1]? = some (.str q tq)) (ht : PrAt s.heap t i x) :
    wpAny (model prog w) A (call (.ref f) [.ref t]) (PySem.W.KeyPure (.int x) s) (fun _ _ => False) s := by
  obtain ⟨tk1, tk2, ht⟩ := ht
  refine wpAny_call (PySem.W.kla_callFunE dp hf rfl rfl rfl rfl ⟨c', oc, vc, tq, rfl, hoc, hdc, hvc⟩ ?_)
  have bind : bindArgs (PySem.W.kla_fn "<lambda>" q (kArgs p) (kBody p1 p2 p3) kScope [] pm (.ref c') ctv) ⟨[.ref t], []⟩ = pure [(Str.ofString "_law_pair", .ref t)] := by
    first
    | rfl
    | with_unfolding_all rfl
  rw [bind]
  refine wpAny_pure (wpAny_newFunctionEnv (fun y hy => ?_) (fun y hy => ?_) (fun h₁ hns hsb => ⟨lim.fresh _ hsb, ?_⟩) rfl)
  · rw [List.mem_singleton.mp hy]
    exact fun z => nomatch z
  · rw [List.mem_singleton.mp hy]
    rfl
  have kp : ∀ b o, s.heap.get? b = some o → h₁.get? b = some o := fun b o e => hsb.extBut b o (Nat.ne_of_lt (Heap.lt_size e)) (Heap.get?_push_of_some _ e)
  refine PySem.W.kla_codeExpr ?_
  show wpAny _ _ (eval (.Subscript (.Name "_law_pair" p1) (.Constant (.int 1) 0 p2) p3) _) _ _ _
  refine Subscript_ (wpAny_Name (wpAny_loadName_local (v := .ref t) rfl rfl hns (by first | rfl | with_unfolding_all rfl | kernel_rfl) (wpAny_Constant_int ?_)) (by decide))
  exact item_tuple (j := 1) ⟨_, kp _ _ ht, rfl, _, rfl⟩ (by decide) (by decide) (by first | rfl | decide) rfl ⟨h₁, _, rfl, kp, .int _ _⟩
end Toy
set_option Elab.async false
set_option linter.all false
set_option maxRecDepth 100000
set_option maxHeartbeats 4000000
namespace Toy
open PySem PySem.Spec PyProof.Rows L2
section
variable {X : Cx} {pins : List (Addr × Obj)} {σ : L2.St} {H : Hp} {s : Shared}
/-- many new things laid at once -/
theorem inv_lays {H' : Hp} {h' : Heap} {t' : Nat} (I : Inv X pins σ H s) (k : ∀ b u, s.heap.get? b = some u → h'.get? b = some u) (old : ∀ b u, s.heap.get? b = some u → H' b = H b) (new : ∀ b o, H b = none → H' b = some o → ObjOk X.prog X.w H' h' b o) :
    Inv X pins σ H' { s with heap := h', toks := t' } := by
  have there : ∀ b u, H b = some u → H' b = H b := fun b u e => by
    obtain ⟨o, ho⟩ := objOk_get (I.hok b u e)
    exact old b o ho
  refine I.un ⟨fun b o e _ _ _ => k b o e, fun b o e _ _ _ => ⟨o.slots, k b o e⟩, fun b o e n _ => (old b o e).trans n, fun b o e _ => ⟨o, k b o e⟩, fun b xs e => (there b _ e).trans e, fun b o u e => (there b _ e).trans e, fun b ps e => ⟨#[], by rw [there b _ e, e, Array.append_empty]⟩⟩ fun b u e => ?_
  cases z : H b with
  | none => exact new b u z e
  | some x =>
    have e2 := there b x z
    rw [e2, z] at e
    obtain rfl : x = u := Option.some.inj e
    exact (I.hok b x z).stay (fun c o _ q => k c o q) (fun c q => (there c _ q).trans q) fun c xs q => (there c _ q).trans q
/-- two tracked things forgotten, the heap read without them -/
theorem inv_drop {a b : Addr} {φ ψ : Heap → Prop} (I : Inv X pins σ H s) (ha : H a = some (.ext φ)) (hb : H b = some (.ext ψ)) (na : X.s_0.heap.get? a = none) (nb : X.s_0.heap.get? b = none) :
    ∃ G : Heap, (∀ c o, G.get? c = some o → s.heap.get? c = some o ∧ c ≠ a ∧ c ≠ b) ∧ Inv X pins σ (fun c => if c = a ∨ c = b then none else H c) { s with heap := G } := by
  obtain ⟨G, g1, g2⟩ := restrict s.heap fun c => decide (c ≠ a ∧ c ≠ b)
  have gk : ∀ c o, c ≠ a → c ≠ b → s.heap.get? c = some o → G.get? c = some o := fun c o h1 h2 e => (g1 c (decide_eq_true ⟨h1, h2⟩)).trans e
  have out : ∀ c, c = a ∨ c = b → G.get? c = none := fun c h => g2 c (decide_eq_false fun z => h.elim z.1 z.2)
  have off : ∀ c, c ≠ a → c ≠ b → (if c = a ∨ c = b then none else H c) = H c := fun c h1 h2 => if_neg fun z => z.elim h1 h2
  have old : ∀ c o, X.s_0.heap.get? c = some o → c ≠ a ∧ c ≠ b := fun c o e => ⟨(fun z => by rw [z, na] at e; cases e), fun z => by rw [z, nb] at e; cases e⟩
  have non : ∀ c, H c = none → c ≠ a ∧ c ≠ b := fun c e => ⟨(fun z => by rw [z, ha] at e; cases e), fun z => by rw [z, hb] at e; cases e⟩
  have knd : ∀ c u, H c = some u → (∀ φ, u ≠ .ext φ) → c ≠ a ∧ c ≠ b := fun c u e k => ⟨(fun z => by rw [z, ha] at e; exact k _ (Option.some.inj e).symm), fun z => by rw [z, hb] at e; exact k _ (Option.some.inj e).symm⟩
  have cell : ∀ x c, X.env.cells.lookup x = some c → ∀ v, s.heap.IsCell c v → G.IsCell c v := fun x c e v ⟨o, ho, hd⟩ => ⟨o, gk c o (non c (I.freeC x c e)).1 (non c (I.freeC x c e)).2 ho, hd⟩
  refine ⟨G, fun c o e => ?_, I.ok, I.os, I.bare, ⟨fun c o e n h1 h2 => ?_, fun c o e n h1 h2 => ?_, fun c o e n h2 => ?_, fun c o e h2 => ?_, fun c xs e => ?_, fun c o u e => ?_, fun c ps e => ?_⟩, ?_, fun x c e => ?_, ?_, fun x c e => ?_, fun p hp => ?_, fun c u e => ?_, I.len⟩
  · have h1 : c ≠ a := fun z => by rw [out c (.inl z)] at e; cases e
    have h2 : c ≠ b := fun z => by rw [out c (.inr z)] at e; cases e
    exact ⟨(g1 c (decide_eq_true ⟨h1, h2⟩)).symm.trans e, h1, h2⟩
  · exact gk c o (old c o e).1 (old c o e).2 (I.base.keep c o e n h1 h2)
  · obtain ⟨sl, q⟩ := I.base.slot c o e n h1 h2
    exact ⟨sl, gk c _ (old c o e).1 (old c o e).2 q⟩
  · exact (off c (old c o e).1 (old c o e).2).trans (I.base.free c o e n h2)
  · obtain ⟨o', q⟩ := I.base.there c o e h2
    exact ⟨o', gk c o' (old c o e).1 (old c o e).2 q⟩
  · have q := I.base.tups c xs e
    have z := knd c _ q fun _ z => nomatch z
    exact (off c z.1 z.2).trans q
  · have q := I.base.frzs c o u e
    have z := knd c _ q fun _ z => nomatch z
    exact (off c z.1 z.2).trans q
  · obtain ⟨m, q⟩ := I.base.tbls c ps e
    have z := knd c _ q fun _ z => nomatch z
    exact ⟨m, (off c z.1 z.2).trans q⟩
  · obtain ⟨m, ⟨o, es, ep, ho, r⟩, hl⟩ := I.loc
    refine ⟨m, ⟨o, es, ep, gk _ _ (non _ I.free).1 (non _ I.free).2 ho, r⟩, fun i x v e1 e2 e3 => ?_⟩
    obtain ⟨u, r', lk⟩ := hl i x v e1 e2 e3
    exact ⟨u, r', lk.elim .inl fun ⟨k, c, ec, z⟩ => .inr ⟨k, c, ec, cell x c ec _ z⟩⟩
  · obtain ⟨v, z⟩ := I.cell x c e
    exact ⟨v, cell x c e v z⟩
  · exact (off _ (non _ I.free).1 (non _ I.free).2).trans I.free
  · exact (off c (non _ (I.freeC x c e)).1 (non _ (I.freeC x c e)).2).trans (I.freeC x c e)
  · obtain ⟨e, n, m1, m2, m3⟩ := I.pin p hp
    exact ⟨gk _ _ (non _ n).1 (non _ n).2 e, (off _ (non _ n).1 (non _ n).2).trans n, m1, m2, m3⟩
  · have h1 : c ≠ a ∧ c ≠ b := ⟨(fun z => by rw [if_pos (.inl z)] at e; cases e), fun z => by rw [if_pos (.inr z)] at e; cases e⟩
    rw [off c h1.1 h1.2] at e
    refine (I.hok c u e).stay (fun d v hd q => ?_) (fun d q => ?_) fun d xs q => ?_
    · rcases hd with z | z
      · rw [z] at q ⊢
        exact gk c v h1.1 h1.2 q
      · have z' := knd d _ z fun _ z => nomatch z
        exact gk d v z'.1 z'.2 q
    · have z' := knd d _ q fun _ z => nomatch z
      exact (off d z'.1 z'.2).trans q
    · have z' := knd d _ q fun _ z => nomatch z
      exact (off d z'.1 z'.2).trans q
end
end Toy
set_option Elab.async false
set_option linter.all false
set_option maxRecDepth 100000
set_option maxHeartbeats 4000000
namespace Toy
open PySem PySem.Spec PyProof.Rows L2
/-- an enumerate over the list at a, not begun; its iterator stands at it -/
def enO (en it : Addr) : HO := .ext fun h => ∃ old, IsEnum h en it 0 old
def itO (it a : Addr) : HO := .ext fun h => h.IsListIter it a 0
section
variable {X : Cx} {e : Expr} {te : TE}
def tEnumV (K : PySem.W.Frag) (s0 : Heap) (te : TE) : TE := fun σ H Q => te σ H fun v H1 => ∃ (a : Addr) (ns : List Int), v = .ref a ∧ SqL K H1 a (ns.map V.int) ∧
  ∀ en it : Addr, H1 en = none → H1 it = none → en ≠ it → a ≠ en → a ≠ it → s0.get? en = none → s0.get? it = none → Q (.ref en) (upd (upd H1 it (itO it a)) en (enO en it))
theorem pe_enumV {p pos : Pos} (hx : X.ex = []) (hg : Gl X "enumerate") (hm : X.mg "enumerate" = none) (he : PE X e te) (na : starEach [e] X.env = (false, eval e X.env) :: starEach [] X.env := by rfl) :
    PE X (.Call (.Name "enumerate" p) [e] [] pos) (tEnumV X.K X.s_0.heap te) := by
  refine ⟨fun pins s σ H Q I h => ?_⟩
  refine Call_ (ld_blt I hg hm boot_enumerate (callWith_type1 (one_arg he I h (fun v s1 x H1 I1 r q => ?_) na) na))
  obtain ⟨a, ns, rfl, hs, k⟩ := q
  cases r
  obtain ⟨its, rv, pl, hz⟩ := I1.list hs
  have alt : a < s1.heap.objs.size := let ⟨_, z, _⟩ := pl.isList; Heap.lt_size z
  refine call_enumerate_list pl.isList fun h' hen hit hsz kp => ?_
  have fresh : ∀ b, s1.heap.objs.size ≤ b → X.s_0.heap.get? b = none := fun b hb => by
    cases z : X.s_0.heap.get? b with
    | none => rfl
    | some o =>
      obtain ⟨o', z'⟩ := I1.base.there b o z (by rw [hx]; exact fun z => nomatch z)
      exact absurd (Heap.lt_size z') (Nat.not_lt_of_le hb)
  have n1 := I1.hok.fresh (Nat.le_refl s1.heap.objs.size)
  have n2 := I1.hok.fresh (Nat.le_succ s1.heap.objs.size)
  have ne : s1.heap.objs.size + 1 ≠ s1.heap.objs.size := Nat.succ_ne_self _
  refine ⟨.ref (s1.heap.objs.size + 1), upd (upd H1 s1.heap.objs.size (itO s1.heap.objs.size a)) (s1.heap.objs.size + 1) (enO (s1.heap.objs.size + 1) s1.heap.objs.size), inv_lays (t' := s1.toks) I1 kp (fun b u z => ?_) (fun b o z z2 => ?_), rfl,
    k _ _ n2 n1 ne (Nat.ne_of_lt (Nat.lt_succ_of_lt alt)) (Nat.ne_of_lt alt) (fresh _ (Nat.le_succ _)) (fresh _ (Nat.le_refl _))⟩
  · have hb := Heap.lt_size z
    rw [upd_ne (Nat.ne_of_lt (Nat.lt_succ_of_lt hb)), upd_ne (Nat.ne_of_lt hb)]
  · by_cases e1 : b = s1.heap.objs.size + 1
    · rw [e1, upd_same] at z2
      cases z2
      rw [e1]
      exact ⟨⟨_, hen⟩, ⟨_, hen⟩, fun h1 h2 ⟨old, q⟩ st => ⟨old, st _ q⟩⟩
    · rw [upd_ne e1] at z2
      by_cases e2 : b = s1.heap.objs.size
      · rw [e2, upd_same] at z2
        cases z2
        rw [e2]
        exact ⟨hit, (let ⟨o, z, _⟩ := hit; ⟨o, z⟩), fun h1 h2 ⟨o, q, r⟩ st => ⟨o, st _ q, r⟩⟩
      · rw [upd_ne e2, z] at z2
        cases z2
end
theorem refs_out {P : Addr → Prop} : ∀ {out : List Value}, (∀ v ∈ out, ∃ t, v = .ref t ∧ P t) → ∃ ts : List Addr, out = ts.map Value.ref ∧ ∀ t ∈ ts, P t
  | [], _ => ⟨[], rfl, fun _ h => nomatch h⟩
  | v :: out, h => by
    obtain ⟨t, rfl, p⟩ := h v List.mem_cons_self
    obtain ⟨ts, rfl, k⟩ := refs_out fun u hu => h u (List.mem_cons_of_mem _ hu)
    exact ⟨t :: ts, rfl, fun u hu => (List.mem_cons.mp hu).elim (fun z => z ▸ p) (k u)⟩
theorem refs_vals : ∀ ts : List Addr, Vals (ts.map V.ref) (ts.map Value.ref)
  | [] => .nil
  | t :: ts => .cons rfl (refs_vals ts)
/-- the pairs, tracked -/
noncomputable def pairsH (h' : Heap) (ts : List Addr) (H : Hp) : Hp := fun b => open Classical in if q : b ∈ ts ∧ ∃ p : Int × Int, PrAt h' b p.1 p.2 then some (.tup [.int q.2.choose.1, .int q.2.choose.2]) else H b
theorem pairsH_in {h' : Heap} {ts : List Addr} {H : Hp} {b : Addr} (h : b ∈ ts) (p : ∃ i x, PrAt h' b i x) : ∃ i x, pairsH h' ts H b = some (.tup [.int i, .int x]) ∧ PrAt h' b i x := by
  obtain ⟨i, x, p⟩ := p
  have q : b ∈ ts ∧ ∃ p : Int × Int, PrAt h' b p.1 p.2 := ⟨h, (i, x), p⟩
  refine ⟨q.2.choose.1, q.2.choose.2, ?_, q.2.choose_spec⟩
  unfold pairsH
  rw [dif_pos q]
theorem pairsH_out {h' : Heap} {ts : List Addr} {H : Hp} {b : Addr} (h : b ∉ ts) : pairsH h' ts H b = H b := by
  unfold pairsH
  rw [dif_neg fun q => h q.1]
section
variable {X : Cx} {e : Expr} {te : TE}
/-- sorted(en, key=lambda p: p[1]), en an enumerate not begun: some list of pairs of ints -/
def rSortE (K : PySem.W.Frag) (T : List (Addr × Str)) (s0 : Heap) : V → Hp → VK → Prop := fun v H2 Q => ∃ (en it a : Addr) (ns : List Int), v = .ref en ∧ H2 en = some (enO en it) ∧ H2 it = some (itO it a) ∧ en ≠ it ∧ a ≠ en ∧ a ≠ it ∧ s0.get? en = none ∧ s0.get? it = none ∧ SqL K H2 a (ns.map V.int) ∧ LamX.Tabs T H2 ∧
  ∀ (H3 : Hp) (D : Addr) (ts : List Addr), (∀ b o, b ≠ en → b ≠ it → H2 b = some o → (∀ ps, o ≠ .tbl ps) → H3 b = some o) → H3 D = some (.lst (ts.map V.ref)) → ts.length = ns.length → (∀ t ∈ ts, ∃ i x : Int, H3 t = some (.tup [.int i, .int x])) → Q (.ref D) H3
def tSortE (K : PySem.W.Frag) (T : List (Addr × Str)) (s0 : Heap) (te : TE) : TE := fun σ H Q => tEnumV K s0 te σ H fun v H2 => rSortE K T s0 v H2 Q
theorem pe_sortE {p p2 p3 pa p4 p5 p6 lpos kpos pos : Pos} {T : List (Addr × Str)} {c P : Addr} (hc : X.calm = true) (hx : X.ex = []) (hg : Gl X "sorted") (hm : X.mg "sorted" = none) (hg2 : Gl X "enumerate") (hm2 : X.mg "enumerate" = none)
    (TB : LamX.TabB X.base X.mg c P) (hcode : X.env.code = .ref c) (hmT : (P, X.env.qual ++ "<lambda>") ∈ T) (hu : ∀ p ∈ T, p.1 = P → p.2 = X.env.qual ++ "<lambda>") (dp : X.A.depth + 5 < recursionLimit) (un : X.A.units + 30 < cLine) (he : PE X e te)
    (hdef : defaultsOf (kArgs pa) X.env = ([], []) := by rfl) (na : starEach [e] X.env = (false, eval e X.env) :: starEach [] X.env := by rfl) :
    PE X (.Call (.Name "sorted" p) [.Call (.Name "enumerate" p2) [e] [] p3] [⟨some "key", .Lambda (kArgs pa) (kBody p4 p5 p6) kScope lpos, kpos⟩] pos) (tSortE X.K T X.s_0.heap te) := by
  refine ⟨fun pins s σ H Q I h => ?_⟩
  have ha : PA X [.Call (.Name "enumerate" p2) [e] [] p3] (tCons (tEnumV X.K X.s_0.heap te) tNil) := pa_cons (pe_enumV hx hg2 hm2 he na) pa_nil
  refine wpAny_Call_Name_kw (ld_blt I hg hm boot_sorted ?_)
  refine PyProof.Rows.callWith_kw (thn (ha.run pos pins s σ H (fun vs H2 => ∃ v, vs = [v] ∧ rSortE X.K T X.s_0.heap v H2 Q) I ?_) fun us s2 hh => ?_) (by rfl) (by rfl) (by rfl) (by rfl)
  · have mono : ∀ v H2, rSortE X.K T X.s_0.heap v H2 Q → ∃ v', [v] = [v'] ∧ rSortE X.K T X.s_0.heap v' H2 Q := fun v H2 z => ⟨v, rfl, z⟩
    have eq : (fun v H2 => rSortE X.K T X.s_0.heap v H2 Q) = fun v H2 => ∃ v', [v] = [v'] ∧ rSortE X.K T X.s_0.heap v' H2 Q := by
      funext v H2
      exact propext ⟨mono v H2, fun ⟨v', e, z⟩ => by
        cases e
        exact z⟩
    have h' : tEnumV X.K X.s_0.heap te σ H (fun v H2 => rSortE X.K T X.s_0.heap v H2 Q) := h
    rw [eq] at h'
    exact h'
  obtain ⟨vs, H2, I2, r, v, rfl, en, it, a, ns, rfl, hen, hit, nei, nae, nai, f1, f2, hs, hT, k⟩ := hh
  cases r with
  | cons r0 rr =>
    cases rr
    cases r0
    show wpAny _ _ (evalAll [(do let v ← eval (.Lambda (kArgs pa) (kBody p4 p5 p6) kScope lpos) X.env; standAt pos; pure v)]) _ _ s2
    refine wpAny_evalAll_cons (wpAny_bind (LamX.lam_make2 I2 TB hcode hmT hu hT hdef (fun y hy z => ?_) fun f c' pm ctv H3 s3 I3 eN T3 hf hfn hfr hco => wpAny_bind (wpAny_standAt (wpAny_pure (wpAny_evalAll_nil ?_)))))
    · rw [List.mem_singleton.mp hy] at z
      cases z
    show wpAny _ _ (call (.builtin "sorted") [.ref en] [(Str.ofString "key", .ref f)]) _ _ s3
    have hen3 : H3 en = some (enO en it) := eN _ _ hen fun ps z => by
      unfold enO at z
      cases z
    have hit3 : H3 it = some (itO it a) := eN _ _ hit fun ps z => by
      unfold itO at z
      cases z
    have hs3 : SqL X.K H3 a (ns.map V.int) := by
      rcases hs with (z | ⟨o, z⟩) | z
      · exact .inl (.inl (eN _ _ z fun ps y => nomatch y))
      · exact .inl (.inr ⟨o, eN _ _ z fun ps y => nomatch y⟩)
      · exact .inr z
    obtain ⟨⟨old, ienum⟩, _, _⟩ := I3.hok en _ hen3
    obtain ⟨iiter, _, _⟩ := I3.hok it _ hit3
    obtain ⟨its, rv, pl, hz⟩ := I3.list hs3
    obtain ⟨⟨oc, vc, tq, hoc, hdc, hvc⟩, _, _⟩ := I3.hok c' _ hco
    have hA : X.A.handled = none := I3.ok.hd hc
    have lenI := rv.length
    rw [List.length_map] at lenI hz
    have fen : f ≠ en := fun z => by
      rw [z, hen3] at hfn
      cases hfn
    have fit : f ≠ it := fun z => by
      rw [z, hit3] at hfn
      cases hfn
    have cen : c' ≠ en := fun z => by
      rw [z, ienum] at hoc
      have e1 := Option.some.inj hoc
      rw [← e1] at hdc
      cases hdc
      cases hvc
    have cit : c' ≠ it := fun z => by
      obtain ⟨o, h1, _, h3⟩ := iiter
      rw [z, h1] at hoc
      have e1 := Option.some.inj hoc
      rw [← e1, h3] at hdc
      cases hdc
      cases hvc
    have bas : ∀ b o, X.base.get? b = some o → s3.heap.get? b = some o ∧ b ≠ en ∧ b ≠ it := fun b o z => ⟨(I3.bs b o z).1, (fun y => by
      have := (I3.bs b o z).2
      rw [y, hen3] at this
      cases this), fun y => by
      have := (I3.bs b o z).2
      rw [y, hit3] at this
      cases this⟩
    refine en_sorted hA ienum iiter pl.isList nei nae nai (by rw [List.size_toArray, ← lenI]; exact hz) (show IntsAre its.toArray.toList ns from by simpa using rv.ints) (by omega) (fun h tk t i x kp pr => ?_) fun D h' tk out cc kp nD hD hl hm => ?_
    · refine lam_key (s := { s3 with heap := h, toks := tk }) (by show X.A.depth < recursionLimit; omega) (I3.ok.mod.nolimit.keeps fun b o z => kp b o (bas b o z).2.1 (bas b o z).2.2 (bas b o z).1) (kp _ _ fen fit hf) (kp _ _ cen cit hoc) hdc hvc pr
    obtain ⟨ts, rfl, ht⟩ := refs_out (P := fun t => ∃ i x : Int, s3.heap.get? t = none ∧ t ≠ D ∧ PrAt h' t i x) fun v hv => by
      obtain ⟨t, i, x, e1, e2, e3, e4⟩ := hm v hv
      exact ⟨t, e1, i, x, e2, e3, e4⟩
    obtain ⟨G, hG, J⟩ := inv_drop I3 hen3 hit3 f1 f2
    have gD : G.get? D = none := by
      cases z : G.get? D with
      | none => rfl
      | some o =>
        obtain ⟨z1, z2, z3⟩ := hG D o z
        rw [nD z2 z3] at z1
        cases z1
    have gT : ∀ t ∈ ts, G.get? t = none := fun t h => by
      obtain ⟨i, x, e2, _⟩ := ht t h
      cases z : G.get? t with
      | none => rfl
      | some o =>
        rw [(hG t o z).1] at e2
        cases e2
    have DT : D ∉ ts := fun h => by
      obtain ⟨i, x, _, ne, _⟩ := ht D h
      exact ne rfl
    obtain ⟨Hn, eHn⟩ : ∃ Hn : Hp, Hn = fun c => if c = en ∨ c = it then none else H3 c := ⟨_, rfl⟩
    rw [← eHn] at J
    have hD4 : (upd (pairsH h' ts Hn) D (.lst (ts.map V.ref))) D = some (.lst (ts.map V.ref)) := upd_same
    have hT4 : ∀ t ∈ ts, ∃ i x, (upd (pairsH h' ts Hn) D (.lst (ts.map V.ref))) t = some (.tup [.int i, .int x]) ∧ PrAt h' t i x := fun t h => by
      obtain ⟨i, x, _, ne, pr⟩ := ht t h
      rw [upd_ne ne]
      exact pairsH_in h ⟨i, x, pr⟩
    have off : ∀ b, b ≠ D → b ∉ ts → (upd (pairsH h' ts Hn) D (.lst (ts.map V.ref))) b = Hn b := fun b h1 h2 => by rw [upd_ne h1, pairsH_out h2]
    refine ⟨.ref D, upd (pairsH h' ts Hn) D (.lst (ts.map V.ref)), inv_lays (s := { s3 with heap := G }) (t' := tk) J (fun b u z => kp b u (hG b u z).2.1 (hG b u z).2.2 (hG b u z).1) (fun b u z => off b (fun y => by rw [y, gD] at z; cases z) fun y => by rw [gT b y] at z; cases z) (fun b o z z2 => ?_), rfl, k _ D ts (fun b o m1 m2 z nt => ?_) hD4 (by
      have := hl
      rw [List.length_map, List.size_toArray] at this
      omega) fun t h => by
      obtain ⟨i, x, e1, _⟩ := hT4 t h
      exact ⟨i, x, e1⟩⟩
    · by_cases e1 : b = D
      · rw [e1, upd_same] at z2
        cases z2
        rw [e1]
        refine ⟨?_, ts.map Value.ref, cc, refs_vals ts, hD⟩
        rw [List.length_map]
        have := hl
        rw [List.length_map, List.size_toArray] at this
        omega
      · by_cases e2 : b ∈ ts
        · obtain ⟨i, x, h1, tk1, tk2, h2⟩ := hT4 b e2
          rw [h1] at z2
          cases z2
          exact ⟨by show 2 ≤ sizeLine; decide, [.int i tk1, .int x tk2], .cons ⟨_, rfl⟩ (.cons ⟨_, rfl⟩ .nil), _, h2, rfl, _, rfl⟩
        · rw [off b e1 e2, z] at z2
          cases z2
    · have z3 := eN b o z nt
      obtain ⟨o', ho'⟩ := objOk_get (I3.hok b o z3)
      have zn : Hn b = some o := by
        rw [eHn]
        exact (if_neg fun y => y.elim m1 m2).trans z3
      have j1 := objOk_get (J.hok b o zn)
      obtain ⟨o2, ho2⟩ := j1
      rw [off b (fun y => by rw [y] at ho2; exact absurd (ho2.symm.trans gD) (fun y => nomatch y)) fun y => by
        have := gT b y
        exact absurd (ho2.symm.trans this) (fun y => nomatch y)]
      exact zn
end
end Toy
set_option Elab.async false
set_option linter.all false
set_option maxRecDepth 100000
set_option maxHeartbeats 8000000
namespace Toy
open PySem L2
theorem Sc.part {ns ms : List Int} (S : Sc ns) (hl : ms.length ≤ 63) (h : ∀ n ∈ ms, n ∈ ns) : Sc ms := ⟨hl, fun n hn => S.2 n (h n hn)⟩
/-- lists of ints, not too long -/
def Lists (H : Hp) (xs : List V) : Prop := ∀ x ∈ xs, ∃ (b : Addr) (l : List Int), x = .ref b ∧ H b = some (.lst (vi l)) ∧ l.length ≤ 9000
theorem Lists.nil {H : Hp} : Lists H [] := fun _ h => nomatch h
theorem Lists.cons {H : Hp} {b : Addr} {l : List Int} {xs : List V} (h : H b = some (.lst (vi l))) (n : l.length ≤ 9000) (k : Lists H xs) : Lists H (.ref b :: xs) := fun y hy => by
  rcases List.mem_cons.mp hy with rfl | hy
  · exact ⟨b, l, rfl, h, n⟩
  · exact k y hy
theorem Lists.same {H H' : Hp} {xs : List V} (k : Lists H xs) (s : Same H H') : Lists H' xs := fun x hx => let ⟨b, l, e, h, n⟩ := k x hx; ⟨b, l, e, s _ _ h, n⟩
theorem Lists.app {H : Hp} {xs ys : List V} (k : Lists H xs) (m : Lists H ys) : Lists H (xs ++ ys) := fun x hx => (List.mem_append.mp hx).elim (k x) (m x)
/-- what stays of the start -/
structure Hd (K : PySem.W.Frag) (C : Addr) (H : Hp) (a q x l1 l2 : Addr) (ns row fs ws : List Int) : Prop where
  scr : SqL K H a (vi ns)
  row : H q = some (.lst (vi row))
  br : BrAt C H x l1 l2 fs ws
theorem Hd.same {K : PySem.W.Frag} {C : Addr} {H H' : Hp} {a q x l1 l2 : Addr} {ns row fs ws : List Int} (h : Hd K C H a q x l1 l2 ns row fs ws) (s : Same H H') : Hd K C H' a q x l1 l2 ns row fs ws := ⟨s.seq h.scr, s _ _ h.row, h.br.same s⟩
/-- written answers: of each whether it shows what it tells -/
def Trips (c : Bool) (H : Hp) (xs : List V) : Prop := ∀ y ∈ xs, ∃ (t r b w : Addr) (row sw wy : List Int), y = .ref t ∧ H t = some (.tup [.ref r, .ref b, .ref w]) ∧ H r = some (.lst (vi row)) ∧ H b = some (.lst (vi sw)) ∧ H w = some (.lst (vi wy)) ∧ RS.IsRow row ∧ row.length ≤ 1000 ∧ sw.length ≤ 100 ∧ (c = true ↔ RS.Shows row sw wy)
theorem Trips.nil {c : Bool} {H : Hp} : Trips c H [] := fun _ h => nomatch h
theorem Trips.cons {c : Bool} {H : Hp} {t r b w : Addr} {row sw wy : List Int} {xs : List V} (ht : H t = some (.tup [.ref r, .ref b, .ref w])) (hr : H r = some (.lst (vi row))) (hb : H b = some (.lst (vi sw))) (hw : H w = some (.lst (vi wy))) (R : RS.IsRow row) (rl : row.length ≤ 1000) (sl : sw.length ≤ 100) (i : c = true ↔ RS.Shows row sw wy) (k : Trips c H xs) : Trips c H (.ref t :: xs) := fun y hy => by
  rcases List.mem_cons.mp hy with rfl | hy
  · exact ⟨t, r, b, w, row, sw, wy, rfl, ht, hr, hb, hw, R, rl, sl, i⟩
  · exact k y hy
theorem Trips.same {c : Bool} {H H' : Hp} {xs : List V} (k : Trips c H xs) (s : Same H H') : Trips c H' xs := fun y hy => by
  obtain ⟨t, r, b, w, row, sw, wy, e, ht, hr, hb, hw, z⟩ := k y hy
  exact ⟨t, r, b, w, row, sw, wy, e, s _ _ ht, s _ _ hr, s _ _ hb, s _ _ hw, z⟩
theorem Trips.app {c : Bool} {H : Hp} {xs ys : List V} (k : Trips c H xs) (m : Trips c H ys) : Trips c H (xs ++ ys) := fun y hy => (List.mem_append.mp hy).elim (k y) (m y)
section
variable {P : Program} {w : World} {K : PySem.W.Frag} {mg : Str → Option Value} {base : Heap}
def sp_law (K : PySem.W.Frag) (P0 : Addr) : Sp := fun vs H Q _ => ∃ (a : Addr) (ns : List Int), vs = [.ref a] ∧ SqL K H a (vi ns) ∧ Sc ns ∧ H P0 = some (.tbl #[]) ∧ ∀ H', Q (.bl true) H'
theorem ok_law (T : Txt K mg) {f c P0 : Addr} {oc kV doc pm ct : Value} {od an : Option Addr} {osl : Array (Option Value)} (lk : K.lookup f = some ⟨oc, od, .func (PySem.W.fnOf "law" "law" (defArgs s_law) (defBody s_law) (defScope s_law) .none kV doc pm an (.ref c) ct), osl⟩)
    (hcd : PySem.W.codeIn K (.ref c) "law" = true) (TB : LamX.TabB base mg c P0) : FnOk P w K mg base CX0 5 f (PySem.W.fnOf "law" "law" (defArgs s_law) (defBody s_law) (defScope s_law) .none kV doc pm an (.ref c) ct) ["_law_script"] (sp_law K P0) := by
  have G_l_row : FnOk P w K mg base CX0 4 T.f_l_row T.d_l_row ["_law_script"] (sp_row K) := ok_l_row T
  have G_l_cell_at : FnOk P w K mg base CX0 1 T.f_l_cell_at T.d_l_cell_at ["_law_script", "_law_k"] (sp_cell K) := ok_l_cell_at T
  have G_l_draw : FnOk P w K mg base CX0 1 T.f_l_draw T.d_l_draw ["_law_cell", "_law_k", "_law_many"] sp_draw := ok_l_draw T
  have G_l_bent : FnOk P w K mg base CX0 2 T.f_l_bent T.d_l_bent ["_law_some", "_law_cell", "_law_strange"] (sp_bent K) := ok_l_bent T
  have G_l_around : FnOk P w K mg base CX0 2 T.f_l_around T.d_l_around ["_law_ways", "_law_size", "_law_cell"] (sp_around K) := ok_l_around T
  have G_l_made_right : FnOk P w K mg base CX0 4 T.f_l_made_right T.d_l_made_right ["_law_row_here", "_law_swaps", "_law_ways"] (sp_made_right K) := ok_l_made_right T
  have G_brought : FnOk P w K mg base CX0 3 T.f_brought T.d_brought ["row"] (sp_brought T.C) := ok_brought T
  have G_B_init : FnOk P w K mg base CX0 1 T.f_B_init T.d_B_init ["self", "swaps", "ways"] (sp_B_init T.C K) := ok_B_init T
  have G_B_shows : FnOk P w K mg base CX0 3 T.f_B_shows T.d_B_shows ["self", "row"] (sp_B_shows T.C K) := ok_B_shows T
  have G_l_says : FnOk P w K mg base CX0 1 T.f_l_says T.d_l_says ["_law_said", "_law_due_here"] sp_l_says := ok_l_says T
  refine fn_of lk hcd sc_law (fun vs H Q E h => ?_) (fun A outer s H vs Q E hr h => ?_)
  · obtain ⟨a, ns, rfl, _⟩ := h
    rfl
  · obtain ⟨a, ns, rfl, ha, S, hP, kq⟩ := h
    have nl := S.1
    have dpL : (A.deeper (PyProof.Rows.envOfC "law" (defScope s_law) s.heap.objs.size f (.ref c))).depth + 5 < recursionLimit := by
      have := hr.dp
      omega
    have unL : (A.deeper (PyProof.Rows.envOfC "law" (defScope s_law) s.heap.objs.size f (.ref c))).units + 30 < cLine := by
      have := hr.un
      omega
    suffices nox : ∃ t, PSs (cxOf CX0 P w K mg base ["_law_script", "_law_row_here", "_law_size", "_law_found", "_law_ways", "_law_k", "_law_cell", "_law_strange", "_law_some", "_law_swaps", "_law_bent_here", "_law_rounds", "_law_told", "_law_good", "_law_bad", "_law_place", "_law_thing", "_law_way"] "law" (defScope s_law) f (.ref c) A outer s H E).nox (defBody s_law) t ∧
        t { nx := fun _ H' => Q .non H', rt := Q } (start ["_law_script", "_law_row_here", "_law_size", "_law_found", "_law_ways", "_law_k", "_law_cell", "_law_strange", "_law_some", "_law_swaps", "_law_bent_here", "_law_rounds", "_law_told", "_law_good", "_law_bad", "_law_place", "_law_thing", "_law_way"] [.ref a]) H by
      obtain ⟨t, ht, hq⟩ := nox
      exact ⟨t, ht.nox, hq⟩
    refine ⟨_, (pss_cons (ps_set (i := 1) sc_law.nd rfl (Or.inl rfl) (pe_call G_l_row hr rfl T.a_l_row.g T.a_l_row.F.kp T.a_l_row.b .nil pass0 (pa_cons (pe_slice slZ (pv 0) po_none (po_some pe_int)) pa_nil)))
    (pss_cons (ps_asg (pe_tup (pa_cons (pe_callB lenZ (by rfl) T.z_len (by decide +kernel) (pa_cons (pv 1) pa_nil)) (pa_cons (pe_call G_brought (hr.mono (by decide)) rfl T.a_brought.g T.a_brought.F.kp T.a_brought.b .nil pass0 (pa_cons (pv 1) pa_nil)) pa_nil))) (pg_tup (by rfl) (pgs_cons (pg_name (i := 2) sc_law.nd rfl (Or.inr rfl)) (pgs_cons (pg_name (i := 3) sc_law.nd rfl (Or.inl rfl)) pgs_nil))))
    (pss_cons (ps_setLc (i := 4) (own := [("_law_place", 15), ("_law_thing", 16)]) (g := (gTup K 2 (gCons (gName 15) (gCons (gName 16) gNil)))) (tt := tYes) rfl sc_law.nd rfl rfl (sw_true rfl rfl rfl (by decide +kernel)) (pi_list (pe_sortE rfl rfl (by rfl) T.z_sorted (by rfl) T.z_enumerate TB rfl (List.mem_singleton.mpr rfl) (fun p hp _ => by rw [List.mem_singleton.mp hp]) dpL unL (pv 1))) (blkOk_by (N := ["_law_script", "_law_row_here", "_law_size", "_law_found", "_law_ways", "_law_k", "_law_cell", "_law_strange", "_law_some", "_law_swaps", "_law_bent_here", "_law_rounds", "_law_told", "_law_good", "_law_bad", "_law_place", "_law_thing", "_law_way"]) (sc := defScope s_law) (by decide +kernel)) (fun _ _ _ _ _ => pg_tup rfl (pgs_cons (pg_name (i := 15) sc_law.nd rfl (Or.inl rfl)) (pgs_cons (pg_name (i := 16) sc_law.nd rfl (Or.inl rfl)) pgs_nil))) (fun _ _ _ _ _ => pts_nil) (fun _ _ _ _ _ => (pe_op op_sub (pv 16) (pv 15))))
    (pss_cons (ps_for PassesOwn.never rfl (pi_range1 rfl T.z_range (pa_cons pe_int pa_nil)) (pg_name (i := 5) sc_law.nd rfl (Or.inl rfl))
    (pss_cons (ps_set (i := 6) sc_law.nd rfl (Or.inl rfl) (pe_op op_add (pe_op op_add (pe_call G_l_cell_at (hr.mono (by decide)) rfl T.a_l_cell_at.g T.a_l_cell_at.F.kp T.a_l_cell_at.b .nil pass0 (pa_cons (pv 0) (pa_cons (pv 5) pa_nil))) (pe_op op_mulZ pe_int (pv 5))) (pe_op op_mulZ pe_int (pe_call G_l_cell_at (hr.mono (by decide)) rfl T.a_l_cell_at.g T.a_l_cell_at.F.kp T.a_l_cell_at.b .nil pass0 (pa_cons (pv 0) (pa_cons (pe_op op_add (pv 5) pe_int) pa_nil))))))
      (pss_cons (ps_set (i := 7) sc_law.nd rfl (Or.inl rfl) (pe_op op_sub (pe_call G_l_draw (hr.mono (by decide)) rfl T.a_l_draw.g T.a_l_draw.F.kp T.a_l_draw.b .nil pass0 (pa_cons (pv 6) (pa_cons pe_int (pa_cons (pe_op op_add (pv 2) pe_int) pa_nil)))) pe_int))
      (Evl.pss_cut (ps_set (i := 8) sc_law.nd rfl (Or.inl rfl) (pe_lst (pa_cons (pe_fld (pv 3) rfl) (pa_cons (pe_call G_l_bent (hr.mono (by decide)) rfl T.a_l_bent.g T.a_l_bent.F.kp T.a_l_bent.b .nil pass0 (pa_cons (pe_fld (pv 3) rfl) (pa_cons (pv 6) (pa_cons (pv 7) pa_nil)))) (pa_cons (pe_op op_catZ (pe_fld (pv 3) rfl) (pe_lst (pa_cons (pv 7) (pa_cons (pv 7) pa_nil)))) (pa_cons (pe_revL (pe_fld (pv 3) rfl)) pa_nil))))))
      (pss_cons (ps_for PassesOwn.never rfl (pi_list (pv 8)) (pg_name (i := 9) sc_law.nd rfl (Or.inl rfl))
      (pss_one (ps_if (pt_not (pt_val (pe_call G_l_made_right hr rfl T.a_l_made_right.g T.a_l_made_right.F.kp T.a_l_made_right.b .nil pass0 (pa_cons (pv 1) (pa_cons (pv 9) (pa_cons (pe_fld (pv 3) rfl) pa_nil))))))
        (pss_one (ps_ret pe_bl))
        pss_nil)))
      (pss_cons (ps_set (i := 10) sc_law.nd rfl (Or.inl rfl) (pe_call G_l_bent (hr.mono (by decide)) rfl T.a_l_bent.g T.a_l_bent.F.kp T.a_l_bent.b .nil pass0 (pa_cons (pe_fld (pv 3) rfl) (pa_cons (pe_op op_add (pv 6) pe_int) (pa_cons (pv 7) pa_nil)))))
      (Evl.pss_cut (ps_set (i := 11) sc_law.nd rfl (Or.inl rfl) (pe_lst (pa_cons (pe_lc (own := [("_law_way", 17)]) (g := gName 17) (tt := tYes) rfl sc_law.nd (pi_list (pe_fld (pv 3) rfl)) (blkOk_by (N := ["_law_script", "_law_row_here", "_law_size", "_law_found", "_law_ways", "_law_k", "_law_cell", "_law_strange", "_law_some", "_law_swaps", "_law_bent_here", "_law_rounds", "_law_told", "_law_good", "_law_bad", "_law_place", "_law_thing", "_law_way"]) (sc := defScope s_law) (by decide +kernel)) (fun _ _ _ _ _ => pg_name (i := 17) sc_law.nd rfl (Or.inl rfl)) (fun _ _ _ _ _ => pts_nil) (fun _ _ _ _ _ => (pe_op op_sub (pv 17) (pv 2)))) (pa_cons (pe_lc (own := [("_law_way", 17)]) (g := gName 17) (tt := tYes) rfl sc_law.nd (pi_list (pe_fld (pv 3) rfl)) (blkOk_by (N := ["_law_script", "_law_row_here", "_law_size", "_law_found", "_law_ways", "_law_k", "_law_cell", "_law_strange", "_law_some", "_law_swaps", "_law_bent_here", "_law_rounds", "_law_told", "_law_good", "_law_bad", "_law_place", "_law_thing", "_law_way"]) (sc := defScope s_law) (by decide +kernel)) (fun _ _ _ _ _ => pg_name (i := 17) sc_law.nd rfl (Or.inl rfl)) (fun _ _ _ _ _ => pts_nil) (fun _ _ _ _ _ => (pe_op op_add (pv 17) (pv 2)))) pa_nil))))
      (pss_one (ps_for PassesOwn.never rfl (pi_list (pe_op op_cat (pe_lst (pa_cons (pe_call G_l_around (hr.mono (by decide)) rfl T.a_l_around.g T.a_l_around.F.kp T.a_l_around.b .nil pass0 (pa_cons (pe_fld (pv 3) rfl) (pa_cons (pv 2) (pa_cons (pv 6) pa_nil)))) (pa_cons (pv 10) (pa_cons (pv 4) (pa_cons (pe_op op_repZ (pe_lst (pa_cons pe_int pa_nil)) (pv 2)) (pa_cons (pe_revL (pe_fld (pv 3) rfl)) (pa_cons (pe_lst pa_nil) pa_nil))))))) (pv 11))) (pg_name (i := 12) sc_law.nd rfl (Or.inl rfl))
      (pss_one (ps_if (pt_not (pt_val (pe_call G_l_made_right hr rfl T.a_l_made_right.g T.a_l_made_right.F.kp T.a_l_made_right.b .nil pass0 (pa_cons (pv 1) (pa_cons (pe_fld (pv 3) rfl) (pa_cons (pv 12) pa_nil))))))
        (pss_one (ps_ret pe_bl))
        pss_nil)))))))))))
    (Evl.pss_cut (ps_set (i := 13) sc_law.nd rfl (Or.inl rfl) (pe_lst (pa_cons (pe_tup (pa_cons (pe_lst (pa_cons pe_int (pa_cons pe_int (pa_cons pe_int pa_nil)))) (pa_cons (pe_lst (pa_cons pe_int pa_nil)) (pa_cons (pe_lst (pa_cons (pe_un un_neg pe_int) (pa_cons pe_int (pa_cons pe_int pa_nil)))) pa_nil)))) (pa_cons (pe_tup (pa_cons (pe_lst (pa_cons pe_int (pa_cons pe_int (pa_cons pe_int pa_nil)))) (pa_cons (pe_lst pa_nil) (pa_cons (pe_lst (pa_cons pe_int (pa_cons pe_int (pa_cons pe_int pa_nil)))) pa_nil)))) (pa_cons (pe_tup (pa_cons (pe_lst (pa_cons pe_int (pa_cons pe_int (pa_cons pe_int pa_nil)))) (pa_cons (pe_lst (pa_cons pe_int pa_nil)) (pa_cons (pe_lst (pa_cons pe_int (pa_cons pe_int (pa_cons (pe_un un_neg pe_int) pa_nil)))) pa_nil)))) pa_nil)))))
    (Evl.pss_cut (ps_set (i := 14) sc_law.nd rfl (Or.inl rfl) (pe_lst (pa_cons (pe_tup (pa_cons (pe_lst (pa_cons pe_int (pa_cons pe_int (pa_cons pe_int pa_nil)))) (pa_cons (pe_lst (pa_cons pe_int (pa_cons pe_int (pa_cons pe_int pa_nil)))) (pa_cons (pe_lst (pa_cons (pe_un un_neg pe_int) (pa_cons pe_int (pa_cons pe_int pa_nil)))) pa_nil)))) (pa_cons (pe_tup (pa_cons (pe_lst (pa_cons pe_int (pa_cons pe_int (pa_cons pe_int pa_nil)))) (pa_cons (pe_lst (pa_cons pe_int pa_nil)) (pa_cons (pe_lst (pa_cons pe_int (pa_cons (pe_un un_neg pe_int) (pa_cons pe_int pa_nil)))) pa_nil)))) (pa_cons (pe_tup (pa_cons (pe_lst (pa_cons pe_int (pa_cons pe_int (pa_cons pe_int pa_nil)))) (pa_cons (pe_lst (pa_cons pe_int (pa_cons pe_int pa_nil))) (pa_cons (pe_lst (pa_cons pe_int (pa_cons pe_int (pa_cons pe_int pa_nil)))) pa_nil)))) pa_nil)))))
    (Evl.pss_cut (ps_set (i := 14) sc_law.nd rfl (Or.inl rfl) (pe_op op_cat (pv 14) (pe_lst (pa_cons (pe_tup (pa_cons (pe_lst (pa_cons pe_int (pa_cons pe_int (pa_cons pe_int pa_nil)))) (pa_cons (pe_lst pa_nil) (pa_cons (pe_lst (pa_cons pe_int (pa_cons pe_int (pa_cons (pe_un un_neg pe_int) pa_nil)))) pa_nil)))) (pa_cons (pe_tup (pa_cons (pe_lst (pa_cons pe_int (pa_cons pe_int (pa_cons pe_int pa_nil)))) (pa_cons (pe_lst (pa_cons pe_int (pa_cons pe_int (pa_cons pe_int pa_nil)))) (pa_cons (pe_lst (pa_cons (pe_un un_neg pe_int) (pa_cons pe_int (pa_cons pe_int pa_nil)))) pa_nil)))) pa_nil)))))
    (pss_cons (ps_if (pt_not (pt_val (pe_callB (allZ rfl) (by rfl) T.z_all (by decide +kernel) (pa_cons (pe_lc (own := [("_law_row_here", 1), ("_law_swaps", 9), ("_law_ways", 4)]) (g := (gTup K 3 (gCons (gName 1) (gCons (gName 9) (gCons (gName 4) gNil))))) (tt := tYes) rfl sc_law.nd (pi_list (pv 13)) (blkOk_by (N := ["_law_script", "_law_row_here", "_law_size", "_law_found", "_law_ways", "_law_k", "_law_cell", "_law_strange", "_law_some", "_law_swaps", "_law_bent_here", "_law_rounds", "_law_told", "_law_good", "_law_bad", "_law_place", "_law_thing", "_law_way"]) (sc := defScope s_law) (by decide +kernel)) (fun _ _ _ _ _ => pg_tup rfl (pgs_cons (pg_name (i := 1) sc_law.nd rfl (Or.inl rfl)) (pgs_cons (pg_name (i := 9) sc_law.nd rfl (Or.inl rfl)) (pgs_cons (pg_name (i := 4) sc_law.nd rfl (Or.inl rfl)) pgs_nil)))) (fun _ _ _ _ _ => pts_nil) (fun _ _ _ _ _ => (pe_call G_l_says (hr.mono (by decide)) rfl T.a_l_says.g T.a_l_says.F.kp T.a_l_says.b .nil pass0 (pa_cons (pe_meth (pe_make ⟨T.mkC, T.a_B_init.m, T.a_B_init.i, T.kC⟩ G_B_init (hr.mono (by decide)) rfl T.gC T.a_B_init.b .nil pass0 (pa_cons (pv 9) (pa_cons (pv 4) pa_nil))) T.cl ⟨T.a_B_shows.m, T.a_B_shows.i, T.a_B_shows.F.kp⟩ G_B_shows (hr.mono (by decide)) T.a_B_shows.b .nil pass0 (pa_cons (pv 1) pa_nil)) (pa_cons pe_bl pa_nil))))) pa_nil))))
    (pss_one (ps_ret pe_bl))
    pss_nil)
    (pss_one (ps_ret (pe_callB (allZ rfl) (by rfl) T.z_all (by decide +kernel) (pa_cons (pe_lc (own := [("_law_row_here", 1), ("_law_swaps", 9), ("_law_ways", 4)]) (g := (gTup K 3 (gCons (gName 1) (gCons (gName 9) (gCons (gName 4) gNil))))) (tt := tYes) rfl sc_law.nd (pi_list (pv 14)) (blkOk_by (N := ["_law_script", "_law_row_here", "_law_size", "_law_found", "_law_ways", "_law_k", "_law_cell", "_law_strange", "_law_some", "_law_swaps", "_law_bent_here", "_law_rounds", "_law_told", "_law_good", "_law_bad", "_law_place", "_law_thing", "_law_way"]) (sc := defScope s_law) (by decide +kernel)) (fun _ _ _ _ _ => pg_tup rfl (pgs_cons (pg_name (i := 1) sc_law.nd rfl (Or.inl rfl)) (pgs_cons (pg_name (i := 9) sc_law.nd rfl (Or.inl rfl)) (pgs_cons (pg_name (i := 4) sc_law.nd rfl (Or.inl rfl)) pgs_nil)))) (fun _ _ _ _ _ => pts_nil) (fun _ _ _ _ _ => (pe_call G_l_says (hr.mono (by decide)) rfl T.a_l_says.g T.a_l_says.F.kp T.a_l_says.b .nil pass0 (pa_cons (pe_meth (pe_make ⟨T.mkC, T.a_B_init.m, T.a_B_init.i, T.kC⟩ G_B_init (hr.mono (by decide)) rfl T.gC T.a_B_init.b .nil pass0 (pa_cons (pv 9) (pa_cons (pv 4) pa_nil))) T.cl ⟨T.a_B_shows.m, T.a_B_shows.i, T.a_B_shows.F.kp⟩ G_B_shows (hr.mono (by decide)) T.a_B_shows.b .nil pass0 (pa_cons (pv 1) pa_nil)) (pa_cons pe_bl pa_nil))))) pa_nil)))))))))))), ?_⟩
    refine ⟨_, rfl, _, rfl, a, ns, _, rfl, ha, cut_take ns 20, fun p hp => ?_⟩
    have s1 := same_new (Same.refl H) hp (o := .lst (vi (ns.take 20)))
    have tl : (ns.take 20).length ≤ 20 := by rw [List.length_take]; omega
    refine ⟨p, _, rfl, SqL.of upd_same, S.part (by omega) (fun n hn => List.mem_of_mem_take hn), fun H1 q row s2 q0 hq R rl => ?_⟩
    have n3 := R.three
    have n20 : row.length ≤ 20 := by omega
    refine ⟨_, rfl, q, row, _, rfl, SqL.of hq, rfl, _, rfl, q, row, rfl, hq, R, by omega, fun H2 x l1 l2 fs ws s3 x0 l10 l20 ne B W F => ⟨(by show 2 ≤ sizeLine; decide), fun t ht => ?_⟩⟩
    have s12 := Same.trans s1 (Same.trans s2 s3)
    refine ⟨t, _, rfl, .inl (Rd.of upd_same), rfl, _, _, rfl, _, _, rfl, rfl, ?_⟩
    have s4 := same_new (Same.refl H2) ht (o := .tup [.int (row.length : Int), .ref x])
    have hd3 : Hd K T.C (upd H2 t (.tup [.int (row.length : Int), .ref x])) a q x l1 l2 ns row fs ws := ⟨(Same.trans s12 s4).seq ha, s4 _ _ (s3 _ _ hq), B.same s4⟩
    have hP3 := Same.trans s12 s4 _ _ hP
    obtain ⟨H3, e3⟩ : ∃ H3, H3 = upd H2 t (.tup [.int (row.length : Int), .ref x]) := ⟨_, rfl⟩
    rw [← e3] at hd3 hP3 ⊢
    -- sorted
    refine ⟨_, rfl, q, row, rfl, SqL.of hd3.row, fun en it n1 n2 nei nae nai f1 f2 => ?_⟩
    refine ⟨en, it, q, row, rfl, upd_same, (by rw [upd_ne (Ne.symm nei)]; exact upd_same), nei, nae, nai, f1, f2, SqL.of (by rw [upd_ne nae, upd_ne nai]; exact hd3.row), ?_, fun H4 D4 ts stay hD4 lt pr => ?_⟩
    · intro pp hpp
      rw [List.mem_singleton.mp hpp]
      exact LamX.TabS.nil (by rw [upd_ne (ne_of_none hP3 n1), upd_ne (ne_of_none hP3 n2)]; exact hP3)
    have st : ∀ b o, H3 b = some o → (∀ ps, o ≠ .tbl ps) → H4 b = some o := fun b o e nt => stay b o (ne_of_none e n1) (ne_of_none e n2) (by rw [upd_ne (ne_of_none e n1), upd_ne (ne_of_none e n2)]; exact e) nt
    have hd4 : Hd K T.C H4 a q x l1 l2 ns row fs ws := by
      refine ⟨?_, st _ _ hd3.row (fun ps z => nomatch z), ?_⟩
      · rcases hd3.scr with (z | ⟨o, z⟩) | z
        · exact .inl (.inl (st _ _ z (fun ps y => nomatch y)))
        · exact .inl (.inr ⟨o, st _ _ z (fun ps y => nomatch y)⟩)
        · exact .inr z
      · obtain ⟨dx, hx⟩ := hd3.br.ob
        exact ⟨⟨dx, st _ _ hx (fun ps z => nomatch z)⟩, st _ _ hd3.br.h1 (fun ps z => nomatch z), st _ _ hd3.br.h2 (fun ps z => nomatch z)⟩
    clear hd3 stay st e3 hP3 hP n1 n2 f1 f2 B
    refine ⟨D4, rfl, ⟨_, SqL.of hD4⟩, fun D hD => lc_list (K := K) (a := D4) (xs := ts.map V.ref) (fun i H' => ∃ zs : List Int, Same H4 H' ∧ H' D = some (.lst (vi zs)) ∧ zs.length = i) ⟨[], same_new (Same.refl H4) hD, upd_same, rfl⟩ (fun i H' _ ⟨_, s', _⟩ => SqL.of (s' _ _ hD4)) ?_ ?_⟩
    · rintro i y H' hi ⟨zs, s', hz, zl⟩
      obtain ⟨u, hu, rfl⟩ : ∃ u ∈ ts, y = .ref u := by
        obtain ⟨u, hu, e⟩ := List.mem_map.mp (List.mem_of_getElem? hi)
        exact ⟨u, hu, e.symm⟩
      obtain ⟨i1, x1, hu'⟩ := pr u hu
      have il := (List.getElem?_eq_some_iff.mp hi).1
      rw [List.length_map] at il
      refine ⟨u, _, rfl, .inl (Rd.of (s' _ _ hu')), rfl, _, _, rfl, _, _, rfl, rfl, rfl, _, rfl, _, rfl, _, _, rfl, rfl, _, hz, (by rw [vi_len, zl]; exact size_lt (by omega)), zs ++ [x1 - i1], same_mut s' hD, (by rw [upd_same, vi_snoc]), by rw [List.length_append, zl]; rfl⟩
    rintro H5 ⟨wz, s5, hz, wzl⟩
    rw [List.length_map, lt] at wzl
    have hd5 := hd4.same s5
    have fl : fs.length ≤ 100 := by
      have m1 := RS.passes_most R W
      have m2 := F.num
      have m3 : (row.length : Int) * row.length ≤ 20 * 20 := Int.mul_le_mul (by omega) (by omega) (by omega) (by omega)
      omega
    have wsl : ws.length = row.length := W.len
    -- the turns
    refine ⟨4, rfl, by decide, by decide, for_range0 (n := 4) (fun i σ H' => ∃ (v5 v6 v7 v8 v9 v10 v11 v12 : Option V), σ = [some (.ref a), some (.ref q), some (.int (row.length : Int)), some (.ref x), some (.ref D), v5, v6, v7, v8, v9, v10, v11, v12, none, none, none, none, none] ∧ Same H5 H')
      ⟨none, none, none, none, none, none, none, none, rfl, Same.refl _⟩ ?_ ?_⟩
    · rintro i σ H6 hi ⟨v5, v6, v7, v8, v9, v10, v11, v12, rfl, s6⟩
      have hd6 := hd5.same s6
      obtain ⟨dx, hx⟩ := id hd6.br.ob
      refine ⟨_, rfl, _, rfl, a, ns, (i : Int), rfl, hd6.scr, by omega, _, rfl, _, _, _, rfl, rfl, .inl (by decide), rfl, _, _, rfl, rfl, _, rfl, _, rfl, _, _, rfl, rfl, a, ns, _, rfl, hd6.scr, by omega, _, _, _, rfl, rfl, .inl (by decide), rfl, _, _, rfl, rfl, ?_⟩
      refine ⟨_, rfl, _, rfl, _, _, rfl, rfl, _, _, _, rfl, by omega, fun H7 z s7 _ _ => ⟨_, _, rfl, rfl, ?_⟩⟩
      have hd7 := hd6.same s7
      obtain ⟨dx7, hx7⟩ := id hd7.br.ob
      refine ⟨fun σ H' => ∃ (cl zz : Int) (o : Addr) (xs : List V), σ = [some (.ref a), some (.ref q), some (.int (row.length : Int)), some (.ref x), some (.ref D), some (.int (i : Int)), some (.int cl), some (.int zz), some (.ref o), v9, v10, v11, v12, none, none, none, none, none] ∧ Same H5 H' ∧ H' o = some (.lst xs) ∧ Lists H' xs, ?_, ?_⟩
      · refine ⟨_, rfl, x, T.C, dx7, _, _, rfl, hx7, T.cl, T.nS, bf_swaps _ _, ?_⟩
        refine ⟨_, rfl, x, T.C, dx7, _, _, rfl, hx7, T.cl, T.nS, bf_swaps _ _, _, rfl, _, rfl, l1, fs, _, _, rfl, SqL.of hd7.br.h1, by omega, fun H8 p8 out8 s8 p80 hp8 lo8 => ?_⟩
        have hd8 := hd7.same s8
        obtain ⟨dx8, hx8⟩ := id hd8.br.ob
        refine ⟨_, rfl, x, T.C, dx8, _, _, rfl, hx8, T.cl, T.nS, bf_swaps _ _, _, rfl, _, rfl, (by show 2 ≤ sizeLine; decide), fun u hu => ?_⟩
        have z9 := same_new (Same.refl _) hu (o := .lst [.int (z - 1), .int (z - 1)])
        refine ⟨l1, u, fs, [z - 1, z - 1], rfl, rfl, z9 _ _ hd8.br.h1, upd_same, (by show fs.length + 2 ≤ 100000; omega), fun v hv => ?_⟩
        have z10 := same_new (Same.refl _) hv (o := .lst (vi (fs ++ [z - 1, z - 1])))
        refine ⟨_, rfl, x, T.C, dx8, _, _, rfl, z10 _ _ (z9 _ _ hx8), T.cl, T.nS, bf_swaps _ _, l1, _, rfl, SqL.of (z10 _ _ (z9 _ _ hd8.br.h1)), fun rr hrr => ⟨(by show 4 ≤ sizeLine; decide), fun o ho => ?_⟩⟩
        have z11 := same_new (Same.refl _) hrr (o := .lst (vi fs).reverse)
        have z12 := same_new (Same.refl _) ho (o := .lst [.ref l1, .ref p8, .ref v, .ref rr])
        have t10 := Same.trans z11 z12
        have t9 := Same.trans z10 t10
        have t8 := Same.trans z9 t9
        refine ⟨_, _, o, _, rfl, Same.trans s6 (Same.trans s7 (Same.trans s8 t8)), upd_same, ?_⟩
        exact Lists.cons (t8 _ _ hd8.br.h1) (by omega) (Lists.cons (t8 _ _ hp8) (by omega) (Lists.cons (t10 _ _ upd_same) (by rw [List.length_append]; show fs.length + 2 ≤ 9000; omega) (Lists.cons (l := fs.reverse) (z12 _ _ (by rw [upd_same, ← List.map_reverse])) (by rw [List.length_reverse]; omega) Lists.nil)))
      rintro σ H8 ⟨cl, zz, o, xs, rfl, s8, ho, Lx⟩
      refine ⟨_, rfl, o, rfl, ⟨_, SqL.of ho⟩, for_list (K := K) (a := o) (xs := xs) (fun j σ H' => ∃ v9 : Option V, σ = [some (.ref a), some (.ref q), some (.int (row.length : Int)), some (.ref x), some (.ref D), some (.int (i : Int)), some (.int cl), some (.int zz), some (.ref o), v9, v10, v11, v12, none, none, none, none, none] ∧ Same H8 H')
        ⟨v9, rfl, Same.refl _⟩ (fun j σ H' _ ⟨_, _, s'⟩ => SqL.of (s' _ _ ho)) ?_ ?_⟩
      · rintro j y σ H9 hj ⟨v9', rfl, s9⟩
        obtain ⟨b, l, rfl, hb, ll⟩ := Lx y (List.mem_of_getElem? hj)
        have hd9 := hd5.same (Same.trans s8 s9)
        obtain ⟨dx9, hx9⟩ := id hd9.br.ob
        refine ⟨_, rfl, _, rfl, _, rfl, x, T.C, dx9, _, _, rfl, hx9, T.cl, T.nW, bf_ways _ _, q, b, l2, row, l, ws, rfl, SqL.of hd9.row, SqL.of (s9 _ _ hb), SqL.of hd9.br.h2, R, by omega, ll, by omega, fun H10 s10 => ⟨_, rfl, ?_⟩⟩
        exact ite_not (fun z => nomatch z) fun _ => ⟨_, rfl, Same.trans s9 s10⟩
      rintro σ H9 ⟨v9', rfl, s9⟩
      have s59 := Same.trans s8 s9
      have hd9 := hd5.same s59
      obtain ⟨dx9, hx9⟩ := id hd9.br.ob
      refine ⟨_, rfl, x, T.C, dx9, _, _, rfl, hx9, T.cl, T.nW, bf_ways _ _, _, rfl, _, _, rfl, rfl, _, rfl, l2, ws, _, _, rfl, SqL.of hd9.br.h2, by omega, fun H10 p10 out10 s10 p100 hp10 lo10 => ?_⟩
      have hd10 := hd9.same s10
      obtain ⟨dx10, hx10⟩ := id hd10.br.ob
      refine ⟨fun σ H' => ∃ (o2 : Addr) (ys : List V), σ = [some (.ref a), some (.ref q), some (.int (row.length : Int)), some (.ref x), some (.ref D), some (.int (i : Int)), some (.int cl), some (.int zz), some (.ref o), v9', some (.ref p10), some (.ref o2), v12, none, none, none, none, none] ∧ Same H10 H' ∧ H' o2 = some (.lst ys) ∧ Lists H' ys ∧ ys.length = 2, ?_, ?_⟩
      · refine ⟨_, rfl, x, T.C, dx10, _, _, rfl, hx10, T.cl, T.nW, bf_ways _ _, l2, rfl, ⟨_, SqL.of hd10.br.h2⟩, fun D1 hD1 => lc_list (K := K) (a := l2) (xs := vi ws) (fun j H' => LI H10 D1 (fun j => .int (RS.fr ws j - (row.length : Int))) j H') (li_start (Same.refl H10) hD1) (fun j H' _ L => SqL.of (L.s _ _ hd10.br.h2)) ?_ ?_⟩
        · rintro j y H11 hj L
          obtain ⟨hj', rfl⟩ := vi_get hj
          exact ⟨rfl, _, rfl, _, rfl, _, _, rfl, rfl, li_step L (Same.refl _) hD1 (by omega) rfl⟩
        intro H11 L1
        have hx11 := L1.s _ _ hx10
        have hw11 := L1.s _ _ hd10.br.h2
        have d1 := li_ints L1
        refine ⟨_, rfl, x, T.C, dx10, _, _, rfl, hx11, T.cl, T.nW, bf_ways _ _, l2, rfl, ⟨_, SqL.of hw11⟩, fun D2 hD2 => lc_list (K := K) (a := l2) (xs := vi ws) (fun j H' => LI H11 D2 (fun j => .int (RS.fr ws j + (row.length : Int))) j H') (li_start (Same.refl H11) hD2) (fun j H' _ L => SqL.of (L.s _ _ hw11)) ?_ ?_⟩
        · rintro j y H12 hj L
          obtain ⟨hj', rfl⟩ := vi_get hj
          exact ⟨rfl, _, rfl, _, rfl, _, _, rfl, rfl, li_step L (Same.refl _) hD2 (by omega) rfl⟩
        intro H12 L2'
        have d2 := li_ints L2'
        refine ⟨(by show 2 ≤ sizeLine; decide), fun o2 ho2 => ?_⟩
        have z13 := same_new (Same.refl _) ho2 (o := .lst [.ref D1, .ref D2])
        refine ⟨o2, _, rfl, Same.trans L1.s (Same.trans L2'.s z13), upd_same, ?_, rfl⟩
        exact Lists.cons (z13 _ _ (L2'.s _ _ d1)) (by rw [List.length_map, List.length_range, vi_len]; omega) (Lists.cons (z13 _ _ d2) (by rw [List.length_map, List.length_range, vi_len]; omega) Lists.nil)
      rintro σ H11 ⟨o2, ys, rfl, s11, ho2, Ly, yl⟩
      have s511 := Same.trans s59 (Same.trans s10 s11)
      have hd11 := hd5.same s511
      obtain ⟨dx11, hx11⟩ := id hd11.br.ob
      have hp11 := s11 _ _ hp10
      refine ⟨_, rfl, x, T.C, dx11, _, _, rfl, hx11, T.cl, T.nW, bf_ways _ _, _, rfl, _, rfl, l2, ws, row.length, _, rfl, SqL.of hd11.br.h2, wsl, by omega, fun H12 p12 out12 s12 p120 hp12 lo12 => ?_⟩
      have hd12 := hd11.same s12
      obtain ⟨dx12, hx12⟩ := id hd12.br.ob
      refine ⟨_, rfl, _, rfl, (by show 1 ≤ sizeLine; decide), fun z0 hz0 => ?_⟩
      have y1 := same_new (Same.refl _) hz0 (o := .lst [.int 0])
      refine ⟨_, rfl, z0, _, 0, rfl, rfl, upd_same, by omega, by omega, fun z1 hz1 => ?_⟩
      have y2 := same_new (Same.refl _) hz1 (o := .lst (vi (List.replicate (row.length : Int).toNat 0)))
      refine ⟨_, rfl, x, T.C, dx12, _, _, rfl, y2 _ _ (y1 _ _ hx12), T.cl, T.nW, bf_ways _ _, l2, _, rfl, SqL.of (y2 _ _ (y1 _ _ hd12.br.h2)), fun rr hrr => ?_⟩
      have y3 := same_new (Same.refl _) hrr (o := .lst (vi ws).reverse)
      refine ⟨Nat.zero_le _, fun em hem => ?_⟩
      have y4 := same_new (Same.refl _) hem (o := .lst [])
      refine ⟨(by show 6 ≤ sizeLine; decide), fun Lh hLh => ?_⟩
      have y5 := same_new (Same.refl _) hLh (o := .lst [.ref p12, .ref p10, .ref D, .ref z1, .ref rr, .ref em])
      have w4 := y5
      have w3 := Same.trans y4 w4
      have w2 := Same.trans y3 w3
      have w1 := Same.trans y2 w2
      have w0 := Same.trans y1 w1
      refine ⟨_, rfl, Lh, o2, _, _, rfl, rfl, upd_same, w0 _ _ (s12 _ _ ho2), (by rw [yl]; exact size_le (by show 6 + 2 ≤ 100000; decide)), fun M hM => ?_⟩
      have y6 := same_new (Same.refl _) hM (o := .lst ([.ref p12, .ref p10, .ref D, .ref z1, .ref rr, .ref em] ++ ys))
      have LM : Lists _ ([.ref p12, .ref p10, .ref D, .ref z1, .ref rr, .ref em] ++ ys) := Lists.same (Lists.app (Lists.cons (w0 _ _ hp12) (by omega) (Lists.cons (w0 _ _ (s12 _ _ hp11)) (by omega) (Lists.cons (w0 _ _ (s12 _ _ (s511 _ _ hz))) (by omega) (Lists.cons (w2 _ _ upd_same) (by rw [List.length_replicate]; omega)
        (Lists.cons (l := ws.reverse) (w3 _ _ (by rw [upd_same, ← List.map_reverse])) (by rw [List.length_reverse]; omega) (Lists.cons (l := []) (w4 _ _ upd_same) (Nat.zero_le _) Lists.nil)))))) ((Ly.same s12).same w0)) y6
      have s13 := Same.trans s511 (Same.trans s12 (Same.trans w0 y6))
      refine ⟨M, rfl, ⟨_, SqL.of upd_same⟩, for_list (K := K) (a := M) (fun j σ H' => ∃ v12 : Option V, σ = [some (.ref a), some (.ref q), some (.int (row.length : Int)), some (.ref x), some (.ref D), some (.int (i : Int)), some (.int cl), some (.int zz), some (.ref o), v9', some (.ref p10), some (.ref o2), v12, none, none, none, none, none] ∧ Same _ H')
        ⟨v12, rfl, Same.refl _⟩ (fun j σ H' _ ⟨_, _, s'⟩ => SqL.of (s' _ _ upd_same)) ?_ ?_⟩
      · rintro j y σ H14 hj ⟨v12', rfl, s14⟩
        obtain ⟨b, l, rfl, hb, ll⟩ := LM y (List.mem_of_getElem? hj)
        have hd14 := hd5.same (Same.trans s13 s14)
        obtain ⟨dx14, hx14⟩ := id hd14.br.ob
        refine ⟨_, rfl, _, rfl, x, T.C, dx14, _, _, rfl, hx14, T.cl, T.nS, bf_swaps _ _, _, rfl, q, l1, b, row, fs, l, rfl, SqL.of hd14.row, SqL.of hd14.br.h1, SqL.of (s14 _ _ hb), R, by omega, by omega, ll, fun H15 s15 => ⟨_, rfl, ?_⟩⟩
        exact ite_not (fun z => nomatch z) fun _ => ⟨_, rfl, Same.trans s14 s15⟩
      rintro σ H14 ⟨v12', rfl, s14⟩
      exact ⟨_, _, _, _, _, _, _, _, rfl, Same.trans s13 s14⟩
    rintro σ H6 ⟨v5, v6, v7, v8, v9, v10, v11, v12, rfl, s6⟩
    clear hd5 hd4
    refine ⟨fun σ H' => ∃ (g : Addr) (xs : List V), σ = [some (.ref a), some (.ref q), some (.int (row.length : Int)), some (.ref x), some (.ref D), v5, v6, v7, v8, v9, v10, v11, v12, some (.ref g), none, none, none, none] ∧ H' g = some (.lst xs) ∧ Trips true H' xs ∧ xs.length = 3, ?_, ?_⟩
    · skip
      refine ⟨(by show 3 ≤ sizeLine; decide), fun gar0 ggar0 => ?_⟩
      have sgar0 := same_new (Same.refl _) ggar0 (o := .lst [.int 1, .int 0, .int 2])
      refine ⟨(by show 1 ≤ sizeLine; decide), fun gab0 ggab0 => ?_⟩
      have sgab0 := same_new (Same.refl _) ggab0 (o := .lst [.int 0])
      refine ⟨_, rfl, (by show 3 ≤ sizeLine; decide), fun gaw0 ggaw0 => ?_⟩
      have sgaw0 := same_new (Same.refl _) ggaw0 (o := .lst [.int (-1), .int 1, .int 0])
      refine ⟨(by show 3 ≤ sizeLine; decide), fun gat0 ggat0 => ?_⟩
      have sgat0 := same_new (Same.refl _) ggat0 (o := .tup [.ref gar0, .ref gab0, .ref gaw0])
      refine ⟨(by show 3 ≤ sizeLine; decide), fun gar1 ggar1 => ?_⟩
      have sgar1 := same_new (Same.refl _) ggar1 (o := .lst [.int 0, .int 1, .int 2])
      refine ⟨(by show 0 ≤ sizeLine; decide), fun gab1 ggab1 => ?_⟩
      have sgab1 := same_new (Same.refl _) ggab1 (o := .lst [])
      refine ⟨(by show 3 ≤ sizeLine; decide), fun gaw1 ggaw1 => ?_⟩
      have sgaw1 := same_new (Same.refl _) ggaw1 (o := .lst [.int 0, .int 0, .int 0])
      refine ⟨(by show 3 ≤ sizeLine; decide), fun gat1 ggat1 => ?_⟩
      have sgat1 := same_new (Same.refl _) ggat1 (o := .tup [.ref gar1, .ref gab1, .ref gaw1])
      refine ⟨(by show 3 ≤ sizeLine; decide), fun gar2 ggar2 => ?_⟩
      have sgar2 := same_new (Same.refl _) ggar2 (o := .lst [.int 2, .int 1, .int 0])
      refine ⟨(by show 1 ≤ sizeLine; decide), fun gab2 ggab2 => ?_⟩
      have sgab2 := same_new (Same.refl _) ggab2 (o := .lst [.int 2])
      refine ⟨_, rfl, (by show 3 ≤ sizeLine; decide), fun gaw2 ggaw2 => ?_⟩
      have sgaw2 := same_new (Same.refl _) ggaw2 (o := .lst [.int 1, .int 0, .int (-1)])
      refine ⟨(by show 3 ≤ sizeLine; decide), fun gat2 ggat2 => ?_⟩
      have sgat2 := same_new (Same.refl _) ggat2 (o := .tup [.ref gar2, .ref gab2, .ref gaw2])
      refine ⟨(by show 3 ≤ sizeLine; decide), fun gaL ggaL => ?_⟩
      have ugat2 := same_new (Same.refl _) ggaL (o := .lst [.ref gat0, .ref gat1, .ref gat2])
      have ugaw2 := Same.trans sgat2 ugat2
      have ugab2 := Same.trans sgaw2 ugaw2
      have ugar2 := Same.trans sgab2 ugab2
      have ugat1 := Same.trans sgar2 ugar2
      have ugaw1 := Same.trans sgat1 ugat1
      have ugab1 := Same.trans sgaw1 ugaw1
      have ugar1 := Same.trans sgab1 ugab1
      have ugat0 := Same.trans sgar1 ugar1
      have ugaw0 := Same.trans sgat0 ugat0
      have ugab0 := Same.trans sgaw0 ugaw0
      have ugar0 := Same.trans sgab0 ugab0
      have uga0 := Same.trans sgar0 ugar0
      exact ⟨gaL, _, rfl, upd_same, (Trips.cons (row := [1, 0, 2]) (sw := [0]) (wy := [-1, 1, 0]) (ugat0 _ _ upd_same) (ugar0 _ _ upd_same) (ugab0 _ _ upd_same) (ugaw0 _ _ upd_same) RS.isRow_102 (by show 3 ≤ 1000; decide) (by show 1 ≤ 100; decide) ⟨(fun _ => RS.shows_g1), fun _ => rfl⟩ (Trips.cons (row := [0, 1, 2]) (sw := []) (wy := [0, 0, 0]) (ugat1 _ _ upd_same) (ugar1 _ _ upd_same) (ugab1 _ _ upd_same) (ugaw1 _ _ upd_same) RS.isRow_012 (by show 3 ≤ 1000; decide) (by show 0 ≤ 100; decide) ⟨(fun _ => RS.shows_g2), fun _ => rfl⟩ (Trips.cons (row := [2, 1, 0]) (sw := [2]) (wy := [1, 0, -1]) (ugat2 _ _ upd_same) (ugar2 _ _ upd_same) (ugab2 _ _ upd_same) (ugaw2 _ _ upd_same) RS.isRow_210 (by show 3 ≤ 1000; decide) (by show 1 ≤ 100; decide) ⟨(fun _ => RS.shows_g3), fun _ => rfl⟩ Trips.nil))), rfl⟩
    rintro σ H7 ⟨g, xs, rfl, hg, Tg, xl⟩
    refine ⟨fun σ H' => ∃ (e : Addr) (ys : List V), σ = [some (.ref a), some (.ref q), some (.int (row.length : Int)), some (.ref x), some (.ref D), v5, v6, v7, v8, v9, v10, v11, v12, some (.ref g), some (.ref e), none, none, none] ∧ H' g = some (.lst xs) ∧ Trips true H' xs ∧ H' e = some (.lst ys) ∧ Trips false H' ys ∧ ys.length = 3, ?_, ?_⟩
    · skip
      refine ⟨(by show 3 ≤ sizeLine; decide), fun bar0 gbar0 => ?_⟩
      have sbar0 := same_new (Same.refl _) gbar0 (o := .lst [.int 1, .int 0, .int 2])
      refine ⟨(by show 3 ≤ sizeLine; decide), fun bab0 gbab0 => ?_⟩
      have sbab0 := same_new (Same.refl _) gbab0 (o := .lst [.int 0, .int 1, .int 1])
      refine ⟨_, rfl, (by show 3 ≤ sizeLine; decide), fun baw0 gbaw0 => ?_⟩
      have sbaw0 := same_new (Same.refl _) gbaw0 (o := .lst [.int (-1), .int 1, .int 0])
      refine ⟨(by show 3 ≤ sizeLine; decide), fun bat0 gbat0 => ?_⟩
      have sbat0 := same_new (Same.refl _) gbat0 (o := .tup [.ref bar0, .ref bab0, .ref baw0])
      refine ⟨(by show 3 ≤ sizeLine; decide), fun bar1 gbar1 => ?_⟩
      have sbar1 := same_new (Same.refl _) gbar1 (o := .lst [.int 1, .int 0, .int 2])
      refine ⟨(by show 1 ≤ sizeLine; decide), fun bab1 gbab1 => ?_⟩
      have sbab1 := same_new (Same.refl _) gbab1 (o := .lst [.int 0])
      refine ⟨_, rfl, (by show 3 ≤ sizeLine; decide), fun baw1 gbaw1 => ?_⟩
      have sbaw1 := same_new (Same.refl _) gbaw1 (o := .lst [.int 1, .int (-1), .int 0])
      refine ⟨(by show 3 ≤ sizeLine; decide), fun bat1 gbat1 => ?_⟩
      have sbat1 := same_new (Same.refl _) gbat1 (o := .tup [.ref bar1, .ref bab1, .ref baw1])
      refine ⟨(by show 3 ≤ sizeLine; decide), fun bar2 gbar2 => ?_⟩
      have sbar2 := same_new (Same.refl _) gbar2 (o := .lst [.int 0, .int 1, .int 2])
      refine ⟨(by show 2 ≤ sizeLine; decide), fun bab2 gbab2 => ?_⟩
      have sbab2 := same_new (Same.refl _) gbab2 (o := .lst [.int 0, .int 0])
      refine ⟨(by show 3 ≤ sizeLine; decide), fun baw2 gbaw2 => ?_⟩
      have sbaw2 := same_new (Same.refl _) gbaw2 (o := .lst [.int 0, .int 0, .int 0])
      refine ⟨(by show 3 ≤ sizeLine; decide), fun bat2 gbat2 => ?_⟩
      have sbat2 := same_new (Same.refl _) gbat2 (o := .tup [.ref bar2, .ref bab2, .ref baw2])
      refine ⟨(by show 3 ≤ sizeLine; decide), fun baL gbaL => ?_⟩
      have ubat2 := same_new (Same.refl _) gbaL (o := .lst [.ref bat0, .ref bat1, .ref bat2])
      have ubaw2 := Same.trans sbat2 ubat2
      have ubab2 := Same.trans sbaw2 ubaw2
      have ubar2 := Same.trans sbab2 ubab2
      have ubat1 := Same.trans sbar2 ubar2
      have ubaw1 := Same.trans sbat1 ubat1
      have ubab1 := Same.trans sbaw1 ubaw1
      have ubar1 := Same.trans sbab1 ubab1
      have ubat0 := Same.trans sbar1 ubar1
      have ubaw0 := Same.trans sbat0 ubat0
      have ubab0 := Same.trans sbaw0 ubaw0
      have ubar0 := Same.trans sbab0 ubab0
      have uba0 := Same.trans sbar0 ubar0
      exact ⟨baL, _, rfl, uba0 _ _ hg, Tg.same uba0, upd_same, (Trips.cons (row := [1, 0, 2]) (sw := [0, 1, 1]) (wy := [-1, 1, 0]) (ubat0 _ _ upd_same) (ubar0 _ _ upd_same) (ubab0 _ _ upd_same) (ubaw0 _ _ upd_same) RS.isRow_102 (by show 3 ≤ 1000; decide) (by show 3 ≤ 100; decide) ⟨(fun z => nomatch z), fun z => (RS.shows_b1 z).elim⟩ (Trips.cons (row := [1, 0, 2]) (sw := [0]) (wy := [1, -1, 0]) (ubat1 _ _ upd_same) (ubar1 _ _ upd_same) (ubab1 _ _ upd_same) (ubaw1 _ _ upd_same) RS.isRow_102 (by show 3 ≤ 1000; decide) (by show 1 ≤ 100; decide) ⟨(fun z => nomatch z), fun z => (RS.shows_b2 z).elim⟩ (Trips.cons (row := [0, 1, 2]) (sw := [0, 0]) (wy := [0, 0, 0]) (ubat2 _ _ upd_same) (ubar2 _ _ upd_same) (ubab2 _ _ upd_same) (ubaw2 _ _ upd_same) RS.isRow_012 (by show 3 ≤ 1000; decide) (by show 2 ≤ 100; decide) ⟨(fun z => nomatch z), fun z => (RS.shows_b3 z).elim⟩ Trips.nil))), rfl⟩
    rintro σ H8 ⟨e, ys, rfl, hg, Tg, he, Te, yl⟩
    refine ⟨fun σ H' => ∃ (e : Addr) (ys : List V), σ = [some (.ref a), some (.ref q), some (.int (row.length : Int)), some (.ref x), some (.ref D), v5, v6, v7, v8, v9, v10, v11, v12, some (.ref g), some (.ref e), none, none, none] ∧ H' g = some (.lst xs) ∧ Trips true H' xs ∧ H' e = some (.lst ys) ∧ Trips false H' ys ∧ ys.length = 5, ?_, ?_⟩
    · refine ⟨_, rfl, ?_⟩
      refine ⟨(by show 3 ≤ sizeLine; decide), fun bbr0 gbbr0 => ?_⟩
      have sbbr0 := same_new (Same.refl _) gbbr0 (o := .lst [.int 0, .int 1, .int 2])
      refine ⟨(by show 0 ≤ sizeLine; decide), fun bbb0 gbbb0 => ?_⟩
      have sbbb0 := same_new (Same.refl _) gbbb0 (o := .lst [])
      refine ⟨_, rfl, (by show 3 ≤ sizeLine; decide), fun bbw0 gbbw0 => ?_⟩
      have sbbw0 := same_new (Same.refl _) gbbw0 (o := .lst [.int 3, .int 0, .int (-3)])
      refine ⟨(by show 3 ≤ sizeLine; decide), fun bbt0 gbbt0 => ?_⟩
      have sbbt0 := same_new (Same.refl _) gbbt0 (o := .tup [.ref bbr0, .ref bbb0, .ref bbw0])
      refine ⟨(by show 3 ≤ sizeLine; decide), fun bbr1 gbbr1 => ?_⟩
      have sbbr1 := same_new (Same.refl _) gbbr1 (o := .lst [.int 2, .int 1, .int 0])
      refine ⟨(by show 3 ≤ sizeLine; decide), fun bbb1 gbbb1 => ?_⟩
      have sbbb1 := same_new (Same.refl _) gbbb1 (o := .lst [.int 0, .int 1, .int 0])
      refine ⟨_, rfl, (by show 3 ≤ sizeLine; decide), fun bbw1 gbbw1 => ?_⟩
      have sbbw1 := same_new (Same.refl _) gbbw1 (o := .lst [.int (-2), .int 0, .int 2])
      refine ⟨(by show 3 ≤ sizeLine; decide), fun bbt1 gbbt1 => ?_⟩
      have sbbt1 := same_new (Same.refl _) gbbt1 (o := .tup [.ref bbr1, .ref bbb1, .ref bbw1])
      refine ⟨(by show 2 ≤ sizeLine; decide), fun bbL gbbL => ?_⟩
      have ubbt1 := same_new (Same.refl _) gbbL (o := .lst [.ref bbt0, .ref bbt1])
      have ubbw1 := Same.trans sbbt1 ubbt1
      have ubbb1 := Same.trans sbbw1 ubbw1
      have ubbr1 := Same.trans sbbb1 ubbb1
      have ubbt0 := Same.trans sbbr1 ubbr1
      have ubbw0 := Same.trans sbbt0 ubbt0
      have ubbb0 := Same.trans sbbw0 ubbw0
      have ubbr0 := Same.trans sbbb0 ubbb0
      have ubb0 := Same.trans sbbr0 ubbr0
      refine ⟨e, bbL, _, _, rfl, rfl, ubb0 _ _ he, upd_same, (by rw [yl]; exact size_le (by show 3 + 2 ≤ 100000; decide)), fun M hM => ?_⟩
      have zM := same_new (Same.refl _) hM (o := .lst (ys ++ [.ref bbt0, .ref bbt1]))
      have all := Same.trans ubb0 zM
      exact ⟨M, _, rfl, all _ _ hg, Tg.same all, upd_same, Trips.app (Te.same all) (Trips.same (Trips.cons (row := [0, 1, 2]) (sw := []) (wy := [3, 0, -3]) (ubbt0 _ _ upd_same) (ubbr0 _ _ upd_same) (ubbb0 _ _ upd_same) (ubbw0 _ _ upd_same) RS.isRow_012 (by show 3 ≤ 1000; decide) (by show 0 ≤ 100; decide) ⟨(fun z => nomatch z), fun z => (RS.shows_b4 z).elim⟩ (Trips.cons (row := [2, 1, 0]) (sw := [0, 1, 0]) (wy := [-2, 0, 2]) (ubbt1 _ _ upd_same) (ubbr1 _ _ upd_same) (ubbb1 _ _ upd_same) (ubbw1 _ _ upd_same) RS.isRow_210 (by show 3 ≤ 1000; decide) (by show 3 ≤ 100; decide) ⟨(fun z => nomatch z), fun z => (RS.shows_b5 z).elim⟩ Trips.nil)) zM), by rw [List.length_append, yl]; rfl⟩
    rintro σ H9 ⟨e', ys', rfl, hg, Tg, he, Te, yl'⟩
    refine ⟨_, rfl, g, rfl, ⟨_, SqL.of hg⟩, fun E1 hE1 => lc_list (K := K) (a := g) (fun j H' => LI H9 E1 (fun _ => .bl true) j H') (li_start (Same.refl H9) hE1) (fun j H' _ L => SqL.of (L.s _ _ hg)) ?_ ?_⟩
    · rintro j y J1 hj L
      have hj' := (List.getElem?_eq_some_iff.mp hj).1
      obtain ⟨t1, r1, b1, w1, row1, sw1, wy1, rfl, ht1, hr1, hb1, hw1, R1, rl1, sl1, iff1⟩ := Tg y (List.mem_of_getElem? hj)
      replace ht1 := L.s _ _ ht1
      replace hr1 := L.s _ _ hr1
      replace hb1 := L.s _ _ hb1
      replace hw1 := L.s _ _ hw1
      refine ⟨t1, _, rfl, .inl (Rd.of ht1), rfl, _, _, rfl, _, _, rfl, _, _, rfl, rfl, rfl, ?_⟩
      refine ⟨_, rfl, _, rfl, fun x1 dx1 nx1 ndx1 nex1 => ?_⟩
      have keep1 : ∀ b o, J1 b = some o → (upd (upd J1 dx1 (.own x1)) x1 (.ins T.C dx1 [])) b = some o := fun b o e => by
        rw [upd_ne (ne_of_none e nx1), upd_ne (ne_of_none e ndx1)]
        exact e
      refine ⟨x1, dx1, b1, w1, sw1, wy1, rfl, upd_same, SqL.of (keep1 _ _ hb1), SqL.of (keep1 _ _ hw1), fun J2 m1 m2 s2' h1' h2' ne' B' => ⟨rfl, ?_⟩⟩
      have s12' : Same J1 J2 := fun b o e => s2' b o (keep1 b o e) (ne_of_none e nx1)
      obtain ⟨dx2, hx2⟩ := id B'.ob
      refine ⟨x1, dx2, _, rfl, hx2, bf_no _ _ (by decide +kernel) (by decide +kernel), _, rfl, x1, m1, m2, r1, sw1, wy1, row1, rfl, B', SqL.of (s12' _ _ hr1), R1, rl1, by omega, fun J3 cs s3' hcs => ?_⟩
      refine ⟨cs, true, rfl, fun c hc => ?_⟩
      have ecs : cs = true := hcs.mpr (iff1.mp rfl)
      have ec : c = true := hc.mpr ecs
      rw [ec]
      exact li_step L (Same.trans s12' s3') hE1 (by omega) rfl
    intro J4 L4
    refine ⟨E1, _, rfl, SqL.of (li_bls L4), fun c4 hc4 => ?_⟩
    have ec4 : c4 = true := hc4.mpr fun b hb => by
      obtain ⟨_, _, rfl⟩ := List.mem_map.mp hb
      rfl
    subst ec4
    refine ⟨_, rfl, ?_⟩
    refine ite_not (fun z => nomatch z) fun _ => ?_
    replace he := L4.s _ _ he
    replace Te := Te.same L4.s
    refine ⟨_, rfl, e', rfl, ⟨_, SqL.of he⟩, fun E1 hE1 => lc_list (K := K) (a := e') (fun j H' => LI J4 E1 (fun _ => .bl true) j H') (li_start (Same.refl J4) hE1) (fun j H' _ L => SqL.of (L.s _ _ he)) ?_ ?_⟩
    · rintro j y J1 hj L
      have hj' := (List.getElem?_eq_some_iff.mp hj).1
      obtain ⟨t1, r1, b1, w1, row1, sw1, wy1, rfl, ht1, hr1, hb1, hw1, R1, rl1, sl1, iff1⟩ := Te y (List.mem_of_getElem? hj)
      replace ht1 := L.s _ _ ht1
      replace hr1 := L.s _ _ hr1
      replace hb1 := L.s _ _ hb1
      replace hw1 := L.s _ _ hw1
      refine ⟨t1, _, rfl, .inl (Rd.of ht1), rfl, _, _, rfl, _, _, rfl, _, _, rfl, rfl, rfl, ?_⟩
      refine ⟨_, rfl, _, rfl, fun x1 dx1 nx1 ndx1 nex1 => ?_⟩
      have keep1 : ∀ b o, J1 b = some o → (upd (upd J1 dx1 (.own x1)) x1 (.ins T.C dx1 [])) b = some o := fun b o e => by
        rw [upd_ne (ne_of_none e nx1), upd_ne (ne_of_none e ndx1)]
        exact e
      refine ⟨x1, dx1, b1, w1, sw1, wy1, rfl, upd_same, SqL.of (keep1 _ _ hb1), SqL.of (keep1 _ _ hw1), fun J2 m1 m2 s2' h1' h2' ne' B' => ⟨rfl, ?_⟩⟩
      have s12' : Same J1 J2 := fun b o e => s2' b o (keep1 b o e) (ne_of_none e nx1)
      obtain ⟨dx2, hx2⟩ := id B'.ob
      refine ⟨x1, dx2, _, rfl, hx2, bf_no _ _ (by decide +kernel) (by decide +kernel), _, rfl, x1, m1, m2, r1, sw1, wy1, row1, rfl, B', SqL.of (s12' _ _ hr1), R1, rl1, by omega, fun J3 cs s3' hcs => ?_⟩
      refine ⟨cs, false, rfl, fun c hc => ?_⟩
      have ecs : cs = false := not_iff_false hcs fun z => nomatch (iff1.mpr z)
      have ec : c = true := hc.mpr ecs
      rw [ec]
      exact li_step L (Same.trans s12' s3') hE1 (by omega) rfl
    intro J4 L4
    refine ⟨E1, _, rfl, SqL.of (li_bls L4), fun c4 hc4 => ?_⟩
    have ec4 : c4 = true := hc4.mpr fun b hb => by
      obtain ⟨_, _, rfl⟩ := List.mem_map.mp hb
      rfl
    rw [ec4]
    exact kq _
end
end Toy
set_option Elab.async false
set_option linter.all false
set_option maxRecDepth 100000
namespace Toy
open PySem L2
/-! ### what the top has left, the end -/
theorem all_mk {l : PySem.W.OpenLaw} {w : World} {K : PySem.W.Frag} {h : Heap} {mg : Str → Option Value} {fa C f0 f1 f2 f3 f4 f5 f6 f7 f8 f9 f10 f11 f12 f13 f14 f15 f16 f17 f18 f19 f20 f21 f22 f23 f24 f25 f26 : Addr} (X : K.In h) (G : h.Ns mainGlobals mg) (hfa : mg "law" = some (.ref fa))
    {od0 an0 : Option Addr} {sl0 : Array (Option Value)} {oc0 kV0 dc0 pm0 cd0 ct0 : Value}
    {od1 an1 : Option Addr} {sl1 : Array (Option Value)} {oc1 kV1 dc1 pm1 cd1 ct1 : Value}
    {od2 an2 : Option Addr} {sl2 : Array (Option Value)} {oc2 kV2 dc2 pm2 cd2 ct2 : Value}
    {od3 an3 : Option Addr} {sl3 : Array (Option Value)} {oc3 kV3 dc3 pm3 cd3 ct3 : Value}
    {od4 an4 : Option Addr} {sl4 : Array (Option Value)} {oc4 kV4 dc4 pm4 cd4 ct4 : Value}
    {od5 an5 : Option Addr} {sl5 : Array (Option Value)} {oc5 kV5 dc5 pm5 cd5 ct5 : Value}
    {od6 an6 : Option Addr} {sl6 : Array (Option Value)} {oc6 kV6 dc6 pm6 cd6 ct6 : Value}
    {od7 an7 : Option Addr} {sl7 : Array (Option Value)} {oc7 kV7 dc7 pm7 cd7 ct7 : Value}
    {od8 an8 : Option Addr} {sl8 : Array (Option Value)} {oc8 kV8 dc8 pm8 cd8 ct8 : Value}
    {od9 an9 : Option Addr} {sl9 : Array (Option Value)} {oc9 kV9 dc9 pm9 cd9 ct9 : Value}
    {od10 an10 : Option Addr} {sl10 : Array (Option Value)} {oc10 kV10 dc10 pm10 cd10 ct10 : Value}
    {od11 an11 : Option Addr} {sl11 : Array (Option Value)} {oc11 kV11 dc11 pm11 cd11 ct11 : Value}
    {od12 an12 : Option Addr} {sl12 : Array (Option Value)} {oc12 kV12 dc12 pm12 cd12 ct12 : Value}
    {od13 an13 : Option Addr} {sl13 : Array (Option Value)} {oc13 kV13 dc13 pm13 cd13 ct13 : Value}
    {od14 an14 : Option Addr} {sl14 : Array (Option Value)} {oc14 kV14 dc14 pm14 cd14 ct14 : Value}
    {od15 an15 : Option Addr} {sl15 : Array (Option Value)} {oc15 kV15 dc15 pm15 cd15 ct15 : Value}
    {od16 an16 : Option Addr} {sl16 : Array (Option Value)} {oc16 kV16 dc16 pm16 cd16 ct16 : Value}
    {od17 an17 : Option Addr} {sl17 : Array (Option Value)} {oc17 kV17 dc17 pm17 cd17 ct17 : Value}
    {od18 an18 : Option Addr} {sl18 : Array (Option Value)} {oc18 kV18 dc18 pm18 cd18 ct18 : Value}
    {od19 an19 : Option Addr} {sl19 : Array (Option Value)} {oc19 kV19 dc19 pm19 cd19 ct19 : Value}
    {od20 an20 : Option Addr} {sl20 : Array (Option Value)} {oc20 kV20 dc20 pm20 cd20 ct20 : Value}
    {od21 an21 : Option Addr} {sl21 : Array (Option Value)} {oc21 kV21 dc21 pm21 cd21 ct21 : Value}
    {od22 an22 : Option Addr} {sl22 : Array (Option Value)} {oc22 kV22 dc22 pm22 cd22 ct22 : Value}
    {od23 an23 : Option Addr} {sl23 : Array (Option Value)} {oc23 kV23 dc23 pm23 cd23 ct23 : Value}
    {od24 an24 : Option Addr} {sl24 : Array (Option Value)} {oc24 kV24 dc24 pm24 cd24 ct24 : Value}
    {od25 an25 : Option Addr} {sl25 : Array (Option Value)} {oc25 kV25 dc25 pm25 cd25 ct25 : Value}
    {od26 an26 : Option Addr} {sl26 : Array (Option Value)} {oc26 kV26 dc26 pm26 cd26 ct26 : Value}
    (aC : PySem.W.nsIn K mainGlobals "Brought" = some (some (.ref C))) (pg : PySem.W.plainGet K C Str.empty = true) (hd : PySem.W.hasDictIn K C = true) (po : PySem.W.plainOver K C = true) (sa : PySem.W.findIn K (.ref C) "__setattr__" = some (some (.builtin "object.__setattr__"))) (mk : PySem.W.makesIn K C = true) (kc : PySem.W.keepIn K (.ref C) = true)
    (nS : PySem.W.findIn K (.ref C) "swaps" = some none) (nW : PySem.W.findIn K (.ref C) "ways" = some none)
    (a0 : PySem.W.nsIn K mainGlobals "is_whole" = some (some (.ref f0))) (l0 : K.lookup f0 = some ⟨oc0, od0, .func (PySem.W.fnOf "is_whole" "is_whole" (defArgs s_is_whole) (defBody s_is_whole) (defScope s_is_whole) .none kV0 dc0 pm0 an0 cd0 ct0), sl0⟩) (c0 : PySem.W.codeIn K cd0 "is_whole" = true) (k0 : PySem.W.keepIn K (.ref f0) = true)
    (a1 : PySem.W.nsIn K mainGlobals "check_row" = some (some (.ref f1))) (l1 : K.lookup f1 = some ⟨oc1, od1, .func (PySem.W.fnOf "check_row" "check_row" (defArgs s_check_row) (defBody s_check_row) (defScope s_check_row) .none kV1 dc1 pm1 an1 cd1 ct1), sl1⟩) (c1 : PySem.W.codeIn K cd1 "check_row" = true) (k1 : PySem.W.keepIn K (.ref f1) = true)
    (a2 : PySem.W.nsIn K mainGlobals "are_places" = some (some (.ref f2))) (l2 : K.lookup f2 = some ⟨oc2, od2, .func (PySem.W.fnOf "are_places" "are_places" (defArgs s_are_places) (defBody s_are_places) (defScope s_are_places) .none kV2 dc2 pm2 an2 cd2 ct2), sl2⟩) (c2 : PySem.W.codeIn K cd2 "are_places" = true) (k2 : PySem.W.keepIn K (.ref f2) = true)
    (a3 : PySem.W.nsIn K mainGlobals "behind" = some (some (.ref f3))) (l3 : K.lookup f3 = some ⟨oc3, od3, .func (PySem.W.fnOf "behind" "behind" (defArgs s_behind) (defBody s_behind) (defScope s_behind) .none kV3 dc3 pm3 an3 cd3 ct3), sl3⟩) (c3 : PySem.W.codeIn K cd3 "behind" = true) (k3 : PySem.W.keepIn K (.ref f3) = true)
    (a4 : PySem.W.nsIn K mainGlobals "passes" = some (some (.ref f4))) (l4 : K.lookup f4 = some ⟨oc4, od4, .func (PySem.W.fnOf "passes" "passes" (defArgs s_passes) (defBody s_passes) (defScope s_passes) .none kV4 dc4 pm4 an4 cd4 ct4), sl4⟩) (c4 : PySem.W.codeIn K cd4 "passes" = true) (k4 : PySem.W.keepIn K (.ref f4) = true)
    (a5 : PySem.W.nsIn K mainGlobals "are_ways" = some (some (.ref f5))) (l5 : K.lookup f5 = some ⟨oc5, od5, .func (PySem.W.fnOf "are_ways" "are_ways" (defArgs s_are_ways) (defBody s_are_ways) (defScope s_are_ways) .none kV5 dc5 pm5 an5 cd5 ct5), sl5⟩) (c5 : PySem.W.codeIn K cd5 "are_ways" = true) (k5 : PySem.W.keepIn K (.ref f5) = true)
    (a6 : PySem.W.findIn K (.ref C) "__init__" = some (some (.ref f6))) (i6 : PySem.W.isFn K (.ref f6) = true) (l6 : K.lookup f6 = some ⟨oc6, od6, .func (PySem.W.fnOf "__init__" "Brought.__init__" (defArgs s_B_init) (defBody s_B_init) (defScope s_B_init) .none kV6 dc6 pm6 an6 cd6 ct6), sl6⟩) (c6 : PySem.W.codeIn K cd6 "Brought.__init__" = true) (k6 : PySem.W.keepIn K (.ref f6) = true)
    (a7 : PySem.W.findIn K (.ref C) "shows" = some (some (.ref f7))) (i7 : PySem.W.isFn K (.ref f7) = true) (l7 : K.lookup f7 = some ⟨oc7, od7, .func (PySem.W.fnOf "shows" "Brought.shows" (defArgs s_B_shows) (defBody s_B_shows) (defScope s_B_shows) .none kV7 dc7 pm7 an7 cd7 ct7), sl7⟩) (c7 : PySem.W.codeIn K cd7 "Brought.shows" = true) (k7 : PySem.W.keepIn K (.ref f7) = true)
    (a8 : PySem.W.nsIn K mainGlobals "ways_of" = some (some (.ref f8))) (l8 : K.lookup f8 = some ⟨oc8, od8, .func (PySem.W.fnOf "ways_of" "ways_of" (defArgs s_ways_of) (defBody s_ways_of) (defScope s_ways_of) .none kV8 dc8 pm8 an8 cd8 ct8), sl8⟩) (c8 : PySem.W.codeIn K cd8 "ways_of" = true) (k8 : PySem.W.keepIn K (.ref f8) = true)
    (a9 : PySem.W.nsIn K mainGlobals "swaps_by" = some (some (.ref f9))) (l9 : K.lookup f9 = some ⟨oc9, od9, .func (PySem.W.fnOf "swaps_by" "swaps_by" (defArgs s_swaps_by) (defBody s_swaps_by) (defScope s_swaps_by) .none kV9 dc9 pm9 an9 cd9 ct9), sl9⟩) (c9 : PySem.W.codeIn K cd9 "swaps_by" = true) (k9 : PySem.W.keepIn K (.ref f9) = true)
    (a10 : PySem.W.nsIn K mainGlobals "way_of" = some (some (.ref f10))) (l10 : K.lookup f10 = some ⟨oc10, od10, .func (PySem.W.fnOf "way_of" "way_of" (defArgs s_way_of) (defBody s_way_of) (defScope s_way_of) .none kV10 dc10 pm10 an10 cd10 ct10), sl10⟩) (c10 : PySem.W.codeIn K cd10 "way_of" = true) (k10 : PySem.W.keepIn K (.ref f10) = true)
    (a11 : PySem.W.nsIn K mainGlobals "brought" = some (some (.ref f11))) (l11 : K.lookup f11 = some ⟨oc11, od11, .func (PySem.W.fnOf "brought" "brought" (defArgs s_brought) (defBody s_brought) (defScope s_brought) .none kV11 dc11 pm11 an11 cd11 ct11), sl11⟩) (c11 : PySem.W.codeIn K cd11 "brought" = true) (k11 : PySem.W.keepIn K (.ref f11) = true)
    (a12 : PySem.W.nsIn K mainGlobals "_law_cell_at" = some (some (.ref f12))) (l12 : K.lookup f12 = some ⟨oc12, od12, .func (PySem.W.fnOf "_law_cell_at" "_law_cell_at" (defArgs s_l_cell_at) (defBody s_l_cell_at) (defScope s_l_cell_at) .none kV12 dc12 pm12 an12 cd12 ct12), sl12⟩) (c12 : PySem.W.codeIn K cd12 "_law_cell_at" = true) (k12 : PySem.W.keepIn K (.ref f12) = true)
    (a13 : PySem.W.nsIn K mainGlobals "_law_draw" = some (some (.ref f13))) (l13 : K.lookup f13 = some ⟨oc13, od13, .func (PySem.W.fnOf "_law_draw" "_law_draw" (defArgs s_l_draw) (defBody s_l_draw) (defScope s_l_draw) .none kV13 dc13 pm13 an13 cd13 ct13), sl13⟩) (c13 : PySem.W.codeIn K cd13 "_law_draw" = true) (k13 : PySem.W.keepIn K (.ref f13) = true)
    (a14 : PySem.W.nsIn K mainGlobals "_law_number" = some (some (.ref f14))) (l14 : K.lookup f14 = some ⟨oc14, od14, .func (PySem.W.fnOf "_law_number" "_law_number" (defArgs s_l_number) (defBody s_l_number) (defScope s_l_number) .none kV14 dc14 pm14 an14 cd14 ct14), sl14⟩) (c14 : PySem.W.codeIn K cd14 "_law_number" = true) (k14 : PySem.W.keepIn K (.ref f14) = true)
    (a15 : PySem.W.nsIn K mainGlobals "_law_order" = some (some (.ref f15))) (l15 : K.lookup f15 = some ⟨oc15, od15, .func (PySem.W.fnOf "_law_order" "_law_order" (defArgs s_l_order) (defBody s_l_order) (defScope s_l_order) .none kV15 dc15 pm15 an15 cd15 ct15), sl15⟩) (c15 : PySem.W.codeIn K cd15 "_law_order" = true) (k15 : PySem.W.keepIn K (.ref f15) = true)
    (a16 : PySem.W.nsIn K mainGlobals "_law_turned" = some (some (.ref f16))) (l16 : K.lookup f16 = some ⟨oc16, od16, .func (PySem.W.fnOf "_law_turned" "_law_turned" (defArgs s_l_turned) (defBody s_l_turned) (defScope s_l_turned) .none kV16 dc16 pm16 an16 cd16 ct16), sl16⟩) (c16 : PySem.W.codeIn K cd16 "_law_turned" = true) (k16 : PySem.W.keepIn K (.ref f16) = true)
    (a17 : PySem.W.nsIn K mainGlobals "_law_done" = some (some (.ref f17))) (l17 : K.lookup f17 = some ⟨oc17, od17, .func (PySem.W.fnOf "_law_done" "_law_done" (defArgs s_l_done) (defBody s_l_done) (defScope s_l_done) .none kV17 dc17 pm17 an17 cd17 ct17), sl17⟩) (c17 : PySem.W.codeIn K cd17 "_law_done" = true) (k17 : PySem.W.keepIn K (.ref f17) = true)
    (a18 : PySem.W.nsIn K mainGlobals "_law_row" = some (some (.ref f18))) (l18 : K.lookup f18 = some ⟨oc18, od18, .func (PySem.W.fnOf "_law_row" "_law_row" (defArgs s_l_row) (defBody s_l_row) (defScope s_l_row) .none kV18 dc18 pm18 an18 cd18 ct18), sl18⟩) (c18 : PySem.W.codeIn K cd18 "_law_row" = true) (k18 : PySem.W.keepIn K (.ref f18) = true)
    (a19 : PySem.W.nsIn K mainGlobals "_law_passes" = some (some (.ref f19))) (l19 : K.lookup f19 = some ⟨oc19, od19, .func (PySem.W.fnOf "_law_passes" "_law_passes" (defArgs s_l_passes) (defBody s_l_passes) (defScope s_l_passes) .none kV19 dc19 pm19 an19 cd19 ct19), sl19⟩) (c19 : PySem.W.codeIn K cd19 "_law_passes" = true) (k19 : PySem.W.keepIn K (.ref f19) = true)
    (a20 : PySem.W.nsIn K mainGlobals "_law_whole" = some (some (.ref f20))) (l20 : K.lookup f20 = some ⟨oc20, od20, .func (PySem.W.fnOf "_law_whole" "_law_whole" (defArgs s_l_whole) (defBody s_l_whole) (defScope s_l_whole) .none kV20 dc20 pm20 an20 cd20 ct20), sl20⟩) (c20 : PySem.W.codeIn K cd20 "_law_whole" = true) (k20 : PySem.W.keepIn K (.ref f20) = true)
    (a21 : PySem.W.nsIn K mainGlobals "_law_due" = some (some (.ref f21))) (l21 : K.lookup f21 = some ⟨oc21, od21, .func (PySem.W.fnOf "_law_due" "_law_due" (defArgs s_l_due) (defBody s_l_due) (defScope s_l_due) .none kV21 dc21 pm21 an21 cd21 ct21), sl21⟩) (c21 : PySem.W.codeIn K cd21 "_law_due" = true) (k21 : PySem.W.keepIn K (.ref f21) = true)
    (a22 : PySem.W.nsIn K mainGlobals "_law_says" = some (some (.ref f22))) (l22 : K.lookup f22 = some ⟨oc22, od22, .func (PySem.W.fnOf "_law_says" "_law_says" (defArgs s_l_says) (defBody s_l_says) (defScope s_l_says) .none kV22 dc22 pm22 an22 cd22 ct22), sl22⟩) (c22 : PySem.W.codeIn K cd22 "_law_says" = true) (k22 : PySem.W.keepIn K (.ref f22) = true)
    (a23 : PySem.W.nsIn K mainGlobals "_law_bent" = some (some (.ref f23))) (l23 : K.lookup f23 = some ⟨oc23, od23, .func (PySem.W.fnOf "_law_bent" "_law_bent" (defArgs s_l_bent) (defBody s_l_bent) (defScope s_l_bent) .none kV23 dc23 pm23 an23 cd23 ct23), sl23⟩) (c23 : PySem.W.codeIn K cd23 "_law_bent" = true) (k23 : PySem.W.keepIn K (.ref f23) = true)
    (a24 : PySem.W.nsIn K mainGlobals "_law_around" = some (some (.ref f24))) (l24 : K.lookup f24 = some ⟨oc24, od24, .func (PySem.W.fnOf "_law_around" "_law_around" (defArgs s_l_around) (defBody s_l_around) (defScope s_l_around) .none kV24 dc24 pm24 an24 cd24 ct24), sl24⟩) (c24 : PySem.W.codeIn K cd24 "_law_around" = true) (k24 : PySem.W.keepIn K (.ref f24) = true)
    (a25 : PySem.W.nsIn K mainGlobals "_law_made_right" = some (some (.ref f25))) (l25 : K.lookup f25 = some ⟨oc25, od25, .func (PySem.W.fnOf "_law_made_right" "_law_made_right" (defArgs s_l_made_right) (defBody s_l_made_right) (defScope s_l_made_right) .none kV25 dc25 pm25 an25 cd25 ct25), sl25⟩) (c25 : PySem.W.codeIn K cd25 "_law_made_right" = true) (k25 : PySem.W.keepIn K (.ref f25) = true)
    (a26 : PySem.W.nsIn K mainGlobals "law" = some (some (.ref f26))) (l26 : K.lookup f26 = some ⟨oc26, od26, .func (PySem.W.fnOf "law" "law" (defArgs s_law) (defBody s_law) (defScope s_law) .none kV26 dc26 pm26 an26 cd26 ct26), sl26⟩) (c26 : PySem.W.codeIn K cd26 "law" = true) (k26 : PySem.W.keepIn K (.ref f26) = true)
    (z_isinstance : PySem.W.nsIn K mainGlobals "isinstance" = some none)
    (z_int : PySem.W.nsIn K mainGlobals "int" = some none)
    (z_bool : PySem.W.nsIn K mainGlobals "bool" = some none)
    (z_sorted : PySem.W.nsIn K mainGlobals "sorted" = some none)
    (z_list : PySem.W.nsIn K mainGlobals "list" = some none)
    (z_len : PySem.W.nsIn K mainGlobals "len" = some none)
    (z_all : PySem.W.nsIn K mainGlobals "all" = some none)
    (z_range : PySem.W.nsIn K mainGlobals "range" = some none)
    (z_abs : PySem.W.nsIn K mainGlobals "abs" = some none)
    (z_sum : PySem.W.nsIn K mainGlobals "sum" = some none)
    (z_max : PySem.W.nsIn K mainGlobals "max" = some none)
    (z_min : PySem.W.nsIn K mainGlobals "min" = some none)
    (z_enumerate : PySem.W.nsIn K mainGlobals "enumerate" = some none)
    {cc P0 : Addr} {ddc : Option Addr} {vc : Array Value} {slc : Array (Option Value)} {fileS : Str} {tf tg tt : Tok} {flagsI textI : Int} {inFB : Bool}
    (lc : K.lookup cc = some ⟨.type "code", ddc, .fields vc, slc⟩) (v11 : vc[11]? = some (.ref P0)) (g11 : vc.getD 11 .none = .ref P0) (g18 : vc.getD 18 .none = .str fileS tf) (g7 : vc.getD 7 .none = .int flagsI tg) (g9 : vc.getD 9 .none = .bool inFB) (g10 : vc.getD 10 .none = .int textI tt) (nc : cc ≠ P0) (nP : K.lookup P0 = none) (eqc : cd26 = .ref cc) (hTab : h.get? P0 = some { cls := .none, data := .fields #[] })
    : LamX.LawAtS l w K CX0 5 63 "_law_script" mg fa h := by
  have e := hfa.symm.trans (PySem.W.mg_of X G a26)
  cases e
  have F0 := fun_mk (st := s_is_whole) l0 c0 k0
  have b0 := F0.binds (ps := ["thing"]) fun _ _ _ _ _ _ us hl => match us, hl with | [_], _ => rfl
  have F1 := fun_mk (st := s_check_row) l1 c1 k1
  have b1 := F1.binds (ps := ["row"]) fun _ _ _ _ _ _ us hl => match us, hl with | [_], _ => rfl
  have F2 := fun_mk (st := s_are_places) l2 c2 k2
  have b2 := F2.binds (ps := ["swaps", "many"]) fun _ _ _ _ _ _ us hl => match us, hl with | [_, _], _ => rfl
  have F3 := fun_mk (st := s_behind) l3 c3 k3
  have b3 := F3.binds (ps := ["row", "swaps"]) fun _ _ _ _ _ _ us hl => match us, hl with | [_, _], _ => rfl
  have F4 := fun_mk (st := s_passes) l4 c4 k4
  have b4 := F4.binds (ps := ["row", "ways"]) fun _ _ _ _ _ _ us hl => match us, hl with | [_, _], _ => rfl
  have F5 := fun_mk (st := s_are_ways) l5 c5 k5
  have b5 := F5.binds (ps := ["row", "ways"]) fun _ _ _ _ _ _ us hl => match us, hl with | [_, _], _ => rfl
  have F6 := fun_mk (st := s_B_init) l6 c6 k6
  have b6 := F6.binds (ps := ["self", "swaps", "ways"]) fun _ _ _ _ _ _ us hl => match us, hl with | [_, _, _], _ => rfl
  have F7 := fun_mk (st := s_B_shows) l7 c7 k7
  have b7 := F7.binds (ps := ["self", "row"]) fun _ _ _ _ _ _ us hl => match us, hl with | [_, _], _ => rfl
  have F8 := fun_mk (st := s_ways_of) l8 c8 k8
  have b8 := F8.binds (ps := ["row"]) fun _ _ _ _ _ _ us hl => match us, hl with | [_], _ => rfl
  have F9 := fun_mk (st := s_swaps_by) l9 c9 k9
  have b9 := F9.binds (ps := ["row", "ways"]) fun _ _ _ _ _ _ us hl => match us, hl with | [_, _], _ => rfl
  have F10 := fun_mk (st := s_way_of) l10 c10 k10
  have b10 := F10.binds (ps := ["row"]) fun _ _ _ _ _ _ us hl => match us, hl with | [_], _ => rfl
  have F11 := fun_mk (st := s_brought) l11 c11 k11
  have b11 := F11.binds (ps := ["row"]) fun _ _ _ _ _ _ us hl => match us, hl with | [_], _ => rfl
  have F12 := fun_mk (st := s_l_cell_at) l12 c12 k12
  have b12 := F12.binds (ps := ["_law_script", "_law_k"]) fun _ _ _ _ _ _ us hl => match us, hl with | [_, _], _ => rfl
  have F13 := fun_mk (st := s_l_draw) l13 c13 k13
  have b13 := F13.binds (ps := ["_law_cell", "_law_k", "_law_many"]) fun _ _ _ _ _ _ us hl => match us, hl with | [_, _, _], _ => rfl
  have F14 := fun_mk (st := s_l_number) l14 c14 k14
  have b14 := F14.binds (ps := ["_law_cell", "_law_k"]) fun _ _ _ _ _ _ us hl => match us, hl with | [_, _], _ => rfl
  have F15 := fun_mk (st := s_l_order) l15 c15 k15
  have b15 := F15.binds (ps := ["_law_script", "_law_by"]) fun _ _ _ _ _ _ us hl => match us, hl with | [_, _], _ => rfl
  have F16 := fun_mk (st := s_l_turned) l16 c16 k16
  have b16 := F16.binds (ps := ["_law_row_here", "_law_by"]) fun _ _ _ _ _ _ us hl => match us, hl with | [_, _], _ => rfl
  have F17 := fun_mk (st := s_l_done) l17 c17 k17
  have b17 := F17.binds (ps := ["_law_row_here", "_law_swaps"]) fun _ _ _ _ _ _ us hl => match us, hl with | [_, _], _ => rfl
  have F18 := fun_mk (st := s_l_row) l18 c18 k18
  have b18 := F18.binds (ps := ["_law_script"]) fun _ _ _ _ _ _ us hl => match us, hl with | [_], _ => rfl
  have F19 := fun_mk (st := s_l_passes) l19 c19 k19
  have b19 := F19.binds (ps := ["_law_row_here", "_law_ways"]) fun _ _ _ _ _ _ us hl => match us, hl with | [_, _], _ => rfl
  have F20 := fun_mk (st := s_l_whole) l20 c20 k20
  have b20 := F20.binds (ps := ["_law_number_here"]) fun _ _ _ _ _ _ us hl => match us, hl with | [_], _ => rfl
  have F21 := fun_mk (st := s_l_due) l21 c21 k21
  have b21 := F21.binds (ps := ["_law_row_here", "_law_swaps", "_law_ways"]) fun _ _ _ _ _ _ us hl => match us, hl with | [_, _, _], _ => rfl
  have F22 := fun_mk (st := s_l_says) l22 c22 k22
  have b22 := F22.binds (ps := ["_law_said", "_law_due_here"]) fun _ _ _ _ _ _ us hl => match us, hl with | [_, _], _ => rfl
  have F23 := fun_mk (st := s_l_bent) l23 c23 k23
  have b23 := F23.binds (ps := ["_law_some", "_law_cell", "_law_strange"]) fun _ _ _ _ _ _ us hl => match us, hl with | [_, _, _], _ => rfl
  have F24 := fun_mk (st := s_l_around) l24 c24 k24
  have b24 := F24.binds (ps := ["_law_ways", "_law_size", "_law_cell"]) fun _ _ _ _ _ _ us hl => match us, hl with | [_, _, _], _ => rfl
  have F25 := fun_mk (st := s_l_made_right) l25 c25 k25
  have b25 := F25.binds (ps := ["_law_row_here", "_law_swaps", "_law_ways"]) fun _ _ _ _ _ _ us hl => match us, hl with | [_, _, _], _ => rfl
  have F26 := fun_mk (st := s_law) l26 c26 k26
  have b26 := F26.binds (ps := ["_law_script"]) fun _ _ _ _ _ _ us hl => match us, hl with | [_], _ => rfl
  let T : Txt K mg := {
    f_is_whole := f0, d_is_whole := _,
    f_check_row := f1, d_check_row := _,
    f_are_places := f2, d_are_places := _,
    f_behind := f3, d_behind := _,
    f_passes := f4, d_passes := _,
    f_are_ways := f5, d_are_ways := _,
    f_B_init := f6, d_B_init := _,
    f_B_shows := f7, d_B_shows := _,
    f_ways_of := f8, d_ways_of := _,
    f_swaps_by := f9, d_swaps_by := _,
    f_way_of := f10, d_way_of := _,
    f_brought := f11, d_brought := _,
    f_l_cell_at := f12, d_l_cell_at := _,
    f_l_draw := f13, d_l_draw := _,
    f_l_number := f14, d_l_number := _,
    f_l_order := f15, d_l_order := _,
    f_l_turned := f16, d_l_turned := _,
    f_l_done := f17, d_l_done := _,
    f_l_row := f18, d_l_row := _,
    f_l_passes := f19, d_l_passes := _,
    f_l_whole := f20, d_l_whole := _,
    f_l_due := f21, d_l_due := _,
    f_l_says := f22, d_l_says := _,
    f_l_bent := f23, d_l_bent := _,
    f_l_around := f24, d_l_around := _,
    f_l_made_right := f25, d_l_made_right := _,
    f_law := fa, d_law := _,
    C := C, cl := ⟨pg, hd, po, sa⟩, mkC := mk, kC := kc, gC := PySem.W.mg_of X G aC, nS := nS, nW := nW,
    a_is_whole := ⟨F0, b0, PySem.W.mg_of X G a0⟩,
    a_check_row := ⟨F1, b1, PySem.W.mg_of X G a1⟩,
    a_are_places := ⟨F2, b2, PySem.W.mg_of X G a2⟩,
    a_behind := ⟨F3, b3, PySem.W.mg_of X G a3⟩,
    a_passes := ⟨F4, b4, PySem.W.mg_of X G a4⟩,
    a_are_ways := ⟨F5, b5, PySem.W.mg_of X G a5⟩,
    a_B_init := ⟨F6, b6, a6, i6⟩,
    a_B_shows := ⟨F7, b7, a7, i7⟩,
    a_ways_of := ⟨F8, b8, PySem.W.mg_of X G a8⟩,
    a_swaps_by := ⟨F9, b9, PySem.W.mg_of X G a9⟩,
    a_way_of := ⟨F10, b10, PySem.W.mg_of X G a10⟩,
    a_brought := ⟨F11, b11, PySem.W.mg_of X G a11⟩,
    a_l_cell_at := ⟨F12, b12, PySem.W.mg_of X G a12⟩,
    a_l_draw := ⟨F13, b13, PySem.W.mg_of X G a13⟩,
    a_l_number := ⟨F14, b14, PySem.W.mg_of X G a14⟩,
    a_l_order := ⟨F15, b15, PySem.W.mg_of X G a15⟩,
    a_l_turned := ⟨F16, b16, PySem.W.mg_of X G a16⟩,
    a_l_done := ⟨F17, b17, PySem.W.mg_of X G a17⟩,
    a_l_row := ⟨F18, b18, PySem.W.mg_of X G a18⟩,
    a_l_passes := ⟨F19, b19, PySem.W.mg_of X G a19⟩,
    a_l_whole := ⟨F20, b20, PySem.W.mg_of X G a20⟩,
    a_l_due := ⟨F21, b21, PySem.W.mg_of X G a21⟩,
    a_l_says := ⟨F22, b22, PySem.W.mg_of X G a22⟩,
    a_l_bent := ⟨F23, b23, PySem.W.mg_of X G a23⟩,
    a_l_around := ⟨F24, b24, PySem.W.mg_of X G a24⟩,
    a_l_made_right := ⟨F25, b25, PySem.W.mg_of X G a25⟩,
    a_law := ⟨F26, b26, PySem.W.mg_of X G a26⟩,
    z_isinstance := PySem.W.mg_none_of X G z_isinstance, z_int := PySem.W.mg_none_of X G z_int, z_bool := PySem.W.mg_none_of X G z_bool, z_sorted := PySem.W.mg_none_of X G z_sorted, z_list := PySem.W.mg_none_of X G z_list, z_len := PySem.W.mg_none_of X G z_len, z_all := PySem.W.mg_none_of X G z_all, z_range := PySem.W.mg_none_of X G z_range, z_abs := PySem.W.mg_none_of X G z_abs, z_sum := PySem.W.mg_none_of X G z_sum, z_max := PySem.W.mg_none_of X G z_max, z_min := PySem.W.mg_none_of X G z_min, z_enumerate := PySem.W.mg_none_of X G z_enumerate }
  have l := l26
  have c := c26
  rw [eqc] at l c
  have one : ∀ p ∈ [(cc, P0)], p = (cc, P0) := fun p hp => List.mem_singleton.mp hp
  have me : (cc, P0) ∈ [(cc, P0)] := List.mem_singleton.mpr rfl
  refine ⟨_, [(cc, P0)], sp_law K P0, fun p hp => ?_, fun p hp => ?_, fun p hp => ?_, fun s v => .of_eq rfl, fun H a ns hl hb hT hS => ⟨a, ns, rfl, hS, ⟨hl, fun n hn => bm_of_bits (hb n hn)⟩, hT _ me, fun _ => rfl⟩, fun base _ _ TB => ok_law T l c (TB _ me)⟩
  · rw [one p hp]
    exact hTab
  · rw [one p hp]
    exact nP
  · rw [one p hp]
    exact ⟨_, vc, fileS, tf, flagsI, tg, inFB, textI, tt, X _ _ lc, rfl, rfl, v11, g11, g18, g7, g9, g10, nc⟩
theorem walk {l : PySem.W.OpenLaw} {q : Program} {loose : List Str} {XP : (Str → Option Value) → Heap → Prop} {YP : World → Heap → Prop} {d : DefRec} {K : Params → PySem.W.Frag} (hn : l.most = some 63) (hdf : d.params.defaults = [])
    (hY : ∀ (w : World) (h : Heap), YP w h → (K w.params).In h)
    (F : ∀ (w : World) (mg : Str → Option Value) (fa : Addr) (h : Heap), YP w h → (K w.params).In h → h.Ns mainGlobals mg → mg d.name = some (.ref fa) → LamX.LawAtS l w (K w.params) CX0 5 63 "_law_script" mg fa h) :
    PySem.W.WalkO q loose XP YP l.row.toRowW d [] (fun f vs => PySem.call f vs) :=
  LamX.walk_ofTs (CX := fun _ => CX0) hn (by decide) hdf ⟨rfl, by decide, by decide⟩ hY F fun _ _ _ _ _ z => z
end Toy
open PySem PySem.W PyProof.Rows
set_option maxRecDepth 100000 in
set_option maxHeartbeats 0 in
theorem PySem.Challenge.cw_ringswap_k04_answers_by_hand_holds : PySem.Challenge.rw_ringswap_k04_answers_by_hand.Holds := by
  w_on; o_law; k_head; (case hw => w_witness2)
  k_fill
  refine Toy.walk (l := PySem.Challenge.rw_ringswap_k04_answers_by_hand) rfl rfl (fun w h Y => PySem.W.km_in_of Y) ?F
  case F =>
    intro w mg fa h Y KX G hmg
    refine' Toy.all_mk KX G hmg ?aC ?pg ?hd ?po ?sa ?mk ?kc ?nS ?nW ?a0 ?l0 ?c0 ?k0 ?a1 ?l1 ?c1 ?k1 ?a2 ?l2 ?c2 ?k2 ?a3 ?l3 ?c3 ?k3 ?a4 ?l4 ?c4 ?k4 ?a5 ?l5 ?c5 ?k5 ?a6 ?i6 ?l6 ?c6 ?k6 ?a7 ?i7 ?l7 ?c7 ?k7 ?a8 ?l8 ?c8 ?k8 ?a9 ?l9 ?c9 ?k9 ?a10 ?l10 ?c10 ?k10 ?a11 ?l11 ?c11 ?k11 ?a12 ?l12 ?c12 ?k12 ?a13 ?l13 ?c13 ?k13 ?a14 ?l14 ?c14 ?k14 ?a15 ?l15 ?c15 ?k15 ?a16 ?l16 ?c16 ?k16 ?a17 ?l17 ?c17 ?k17 ?a18 ?l18 ?c18 ?k18 ?a19 ?l19 ?c19 ?k19 ?a20 ?l20 ?c20 ?k20 ?a21 ?l21 ?c21 ?k21 ?a22 ?l22 ?c22 ?k22 ?a23 ?l23 ?c23 ?k23 ?a24 ?l24 ?c24 ?k24 ?a25 ?l25 ?c25 ?k25 ?a26 ?l26 ?c26 ?k26 ?z_isinstance ?z_int ?z_bool ?z_sorted ?z_list ?z_len ?z_all ?z_range ?z_abs ?z_sum ?z_max ?z_min ?z_enumerate ?t_lc ?t_v11 ?t_g11 ?t_g18 ?t_g7 ?t_g9 ?t_g10 ?t_nc ?t_nP rfl ?t_tab
    (case aC => k_is)
    (case pg => k_is)
    (case hd => k_is)
    (case po => k_is)
    (case sa => k_is)
    (case mk => k_is)
    (case kc => k_is)
    (case nS => k_is)
    (case nW => k_is)
    (case a0 => k_is)
    (case l0 => k_is)
    (case c0 => k_is)
    (case k0 => k_is)
    (case a1 => k_is)
    (case l1 => k_is)
    (case c1 => k_is)
    (case k1 => k_is)
    (case a2 => k_is)
    (case l2 => k_is)
    (case c2 => k_is)
    (case k2 => k_is)
    (case a3 => k_is)
    (case l3 => k_is)
    (case c3 => k_is)
    (case k3 => k_is)
    (case a4 => k_is)
    (case l4 => k_is)
    (case c4 => k_is)
    (case k4 => k_is)
    (case a5 => k_is)
    (case l5 => k_is)
    (case c5 => k_is)
    (case k5 => k_is)
    (case a6 => k_is)
    (case i6 => k_is)
    (case l6 => k_is)
    (case c6 => k_is)
    (case k6 => k_is)
    (case a7 => k_is)
    (case i7 => k_is)
    (case l7 => k_is)
    (case c7 => k_is)
    (case k7 => k_is)
    (case a8 => k_is)
    (case l8 => k_is)
    (case c8 => k_is)
    (case k8 => k_is)
    (case a9 => k_is)
    (case l9 => k_is)
    (case c9 => k_is)
    (case k9 => k_is)
    (case a10 => k_is)
    (case l10 => k_is)
    (case c10 => k_is)
    (case k10 => k_is)
    (case a11 => k_is)
    (case l11 => k_is)
    (case c11 => k_is)
    (case k11 => k_is)
    (case a12 => k_is)
    (case l12 => k_is)
    (case c12 => k_is)
    (case k12 => k_is)
    (case a13 => k_is)
    (case l13 => k_is)
    (case c13 => k_is)
    (case k13 => k_is)
    (case a14 => k_is)
    (case l14 => k_is)
    (case c14 => k_is)
    (case k14 => k_is)
    (case a15 => k_is)
    (case l15 => k_is)
    (case c15 => k_is)
    (case k15 => k_is)
    (case a16 => k_is)
    (case l16 => k_is)
    (case c16 => k_is)
    (case k16 => k_is)
    (case a17 => k_is)
    (case l17 => k_is)
    (case c17 => k_is)
    (case k17 => k_is)
    (case a18 => k_is)
    (case l18 => k_is)
    (case c18 => k_is)
    (case k18 => k_is)
    (case a19 => k_is)
    (case l19 => k_is)
    (case c19 => k_is)
    (case k19 => k_is)
    (case a20 => k_is)
    (case l20 => k_is)
    (case c20 => k_is)
    (case k20 => k_is)
    (case a21 => k_is)
    (case l21 => k_is)
    (case c21 => k_is)
    (case k21 => k_is)
    (case a22 => k_is)
    (case l22 => k_is)
    (case c22 => k_is)
    (case k22 => k_is)
    (case a23 => k_is)
    (case l23 => k_is)
    (case c23 => k_is)
    (case k23 => k_is)
    (case a24 => k_is)
    (case l24 => k_is)
    (case c24 => k_is)
    (case k24 => k_is)
    (case a25 => k_is)
    (case l25 => k_is)
    (case c25 => k_is)
    (case k25 => k_is)
    (case a26 => k_is)
    (case l26 => k_is)
    (case c26 => k_is)
    (case k26 => k_is)
    (case z_isinstance => k_is)
    (case z_int => k_is)
    (case z_bool => k_is)
    (case z_sorted => k_is)
    (case z_list => k_is)
    (case z_len => k_is)
    (case z_all => k_is)
    (case z_range => k_is)
    (case z_abs => k_is)
    (case z_sum => k_is)
    (case z_max => k_is)
    (case z_min => k_is)
    (case z_enumerate => k_is)
    (case t_lc => k_is)
    (case t_v11 => first | rfl | decide)
    (case t_g11 => first | rfl | decide)
    (case t_g18 => first | rfl | decide)
    (case t_g7 => first | rfl | decide)
    (case t_g9 => first | rfl | decide)
    (case t_g10 => first | rfl | decide)
    (case t_nc => decide)
    (case t_nP => first | rfl | kernel_rfl | decide +kernel)
    (case t_tab => exact PySem.W.km_tabs_of Y _ (List.mem_singleton.mpr rfl))
