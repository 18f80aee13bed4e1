import PyProof.Rows.All
import Wide.All
import OpenK.AllK
import Wide.FinOn
import HandS.ForMost
import HandS.Walk
import HandS.IsInst
import HandS.SortInts
import HandS.Conv
import HandS.Style
import HandS.More
import HandS.Wide
import HandS.Evl
import HandS.Codes
import HandS.EndBits
import HandS.TryOnly
import HandS.Exc
import HandS.ExcOwn
import HandS.ExcIs
import HandS.WordsExc
import HandS.HotCalls
import HandS.CallLocal
import PySem.Challenge.RW_ringswap_k05_refused
namespace RS
set_option autoImplicit false
/-! ## sums over 0 .. n-1 -/
def S : Nat → (Nat → Int) → Int
  | 0, _ => 0
  | n + 1, h => S n h + h n
theorem S_congr {n : Nat} {f g : Nat → Int} (h : ∀ i, i < n → f i = g i) : S n f = S n g := by
  induction n with
  | zero => rfl
  | succ n ih =>
    show S n f + f n = S n g + g n
    rw [ih fun i hi => h i (Nat.lt_succ_of_lt hi), h n (Nat.lt_succ_self n)]
theorem S_le {n : Nat} {f g : Nat → Int} (h : ∀ i, i < n → f i ≤ g i) : S n f ≤ S n g := by
  induction n with
  | zero => exact Int.le_refl _
  | succ n ih =>
    show S n f + f n ≤ S n g + g n
    have := ih fun i hi => h i (Nat.lt_succ_of_lt hi)
    have := h n (Nat.lt_succ_self n)
    omega
theorem S_add (n : Nat) (f g : Nat → Int) : S n (fun i => f i + g i) = S n f + S n g := by
  induction n with
  | zero => rfl
  | succ n ih =>
    show S n _ + (f n + g n) = (S n f + f n) + (S n g + g n)
    rw [ih]; omega
theorem S_sub (n : Nat) (f g : Nat → Int) : S n (fun i => f i - g i) = S n f - S n g := by
  induction n with
  | zero => rfl
  | succ n ih =>
    show S n _ + (f n - g n) = (S n f + f n) - (S n g + g n)
    rw [ih]; omega
theorem S_zero (n : Nat) : S n (fun _ => 0) = 0 := by
  induction n with
  | zero => rfl
  | succ n ih =>
    show S n _ + _ = _
    rw [ih]; rfl
theorem S_mul (n : Nat) (k : Int) (f : Nat → Int) : S n (fun i => k * f i) = k * S n f := by
  induction n with
  | zero => show (0 : Int) = k * 0; omega
  | succ n ih =>
    show S n _ + _ = k * (S n f + f n)
    rw [ih, Int.mul_add]
theorem S_const (n : Nat) (k : Int) : S n (fun _ => k) = (n : Int) * k := by
  induction n with
  | zero => show (0 : Int) = ((0 : Nat) : Int) * k; simp
  | succ n ih =>
    show S n _ + k = _
    rw [ih, Int.natCast_succ, Int.add_mul]; omega
theorem S_nonneg {n : Nat} {f : Nat → Int} (h : ∀ i, i < n → 0 ≤ f i) : 0 ≤ S n f := by
  have := S_le (n := n) (f := fun _ => 0) (g := f) h
  rw [S_zero] at this; exact this
/-- one place changed -/
def up (h : Nat → Int) (a : Nat) (v : Int) : Nat → Int := fun i => if i = a then v else h i
theorem up_same (h : Nat → Int) (a : Nat) (v : Int) : up h a v a = v := by unfold up; rw [if_pos rfl]
theorem up_ne (h : Nat → Int) {a i : Nat} (v : Int) (e : i ≠ a) : up h a v i = h i := by unfold up; rw [if_neg e]
theorem S_up {n : Nat} (h : Nat → Int) {a : Nat} (v : Int) (ha : a < n) : S n (up h a v) = S n h + v - h a := by
  induction n with
  | zero => omega
  | succ n ih =>
    show S n _ + up h a v n = (S n h + h n) + v - h a
    by_cases e : a = n
    · subst e
      rw [up_same, S_congr (f := up h a v) (g := h) fun i hi => up_ne h v (by omega)]
      omega
    · rw [ih (by omega), up_ne h v (by omega)]; omega
/-- all but one, all but two -/
def ex1 (a : Nat) (h : Nat → Int) : Nat → Int := fun i => if i = a then 0 else h i
def ex2 (a b : Nat) (h : Nat → Int) : Nat → Int := fun i => if i = a ∨ i = b then 0 else h i
theorem S_ex1 {n : Nat} (h : Nat → Int) {a : Nat} (ha : a < n) : S n h = S n (ex1 a h) + h a := by
  have := S_up h 0 ha
  have e : S n (up h a 0) = S n (ex1 a h) := S_congr fun i _ => rfl
  omega
theorem S_ex2 {n : Nat} (h : Nat → Int) {a b : Nat} (ha : a < n) (hb : b < n) (ne : a ≠ b) : S n h = S n (ex2 a b h) + h a + h b := by
  have e1 := S_ex1 h ha
  have e2 := S_ex1 (ex1 a h) hb
  have e3 : S n (ex1 b (ex1 a h)) = S n (ex2 a b h) := S_congr fun i _ => by
    unfold ex1 ex2
    by_cases e : i = b
    · rw [if_pos e, if_pos (.inr e)]
    · rw [if_neg e]
      by_cases e' : i = a
      · rw [if_pos e', if_pos (.inl e')]
      · rw [if_neg e', if_neg (by omega)]
  have e4 : ex1 a h b = h b := by unfold ex1; rw [if_neg (Ne.symm ne)]
  omega
theorem S_swap (n m : Nat) (h : Nat → Nat → Int) : S n (fun i => S m (fun j => h i j)) = S m (fun j => S n (fun i => h i j)) := by
  induction n with
  | zero =>
    show (0 : Int) = S m fun _ => 0
    rw [S_zero]
  | succ n ih =>
    show S n (fun i => S m fun j => h i j) + S m (fun j => h n j) = S m fun j => S n (fun i => h i j) + h n j
    rw [ih, S_add]
/-- the transposition of a and b -/
def tr (a b i : Nat) : Nat := if i = a then b else if i = b then a else i
theorem S_tr {n : Nat} (h : Nat → Int) {a b : Nat} (ha : a < n) (hb : b < n) : S n (fun i => h (tr a b i)) = S n h := by
  by_cases ne : a = b
  · subst ne
    refine S_congr fun i _ => ?_
    unfold tr
    by_cases e : i = a
    · rw [if_pos e, e]
    · rw [if_neg e, if_neg e]
  · rw [S_ex2 (fun i => h (tr a b i)) ha hb ne, S_ex2 h ha hb ne]
    have e1 : tr a b a = b := by unfold tr; rw [if_pos rfl]
    have e2 : tr a b b = a := by unfold tr; rw [if_neg (Ne.symm ne), if_pos rfl]
    have e3 : S n (ex2 a b fun i => h (tr a b i)) = S n (ex2 a b h) := S_congr fun i _ => by
      unfold ex2
      by_cases e : i = a ∨ i = b
      · rw [if_pos e, if_pos e]
      · rw [if_neg e, if_neg e]
        show h (tr a b i) = h i
        unfold tr
        rw [if_neg (by omega), if_neg (by omega)]
    rw [e3, e1, e2]; omega
theorem tr_lt {n a b i : Nat} (ha : a < n) (hb : b < n) (hi : i < n) : tr a b i < n := by
  unfold tr; split
  · exact hb
  · split
    · exact ha
    · exact hi
/-- an injection of 0 .. n-1 into itself reorders a sum -/
theorem S_ind_eq {n : Nat} (h : Nat → Int) {a : Nat} (ha : a < n) : S n (fun j => if a = j then h j else 0) = h a := by
  rw [S_ex1 _ ha, if_pos rfl]
  have : S n (ex1 a fun j => if a = j then h j else 0) = 0 := by
    refine (S_congr (g := fun _ => 0) fun i _ => ?_).trans (S_zero n)
    unfold ex1
    by_cases e : i = a
    · rw [if_pos e]
    · rw [if_neg e]
      exact if_neg (Ne.symm e)
  omega
theorem S_most_one {n : Nat} {p : Nat → Prop} [DecidablePred p] (h : ∀ i j, i < n → j < n → p i → p j → i = j) : S n (fun i => if p i then 1 else 0) ≤ 1 := by
  induction n with
  | zero => exact (by decide : (0 : Int) ≤ 1)
  | succ n ih =>
    show S n _ + (if p n then 1 else 0) ≤ _
    by_cases e : p n
    · rw [if_pos e]
      have : S n (fun i => if p i then 1 else 0) = 0 := by
        refine (S_congr (g := fun _ => 0) fun i hi => ?_).trans (S_zero n)
        rw [if_neg]
        intro q
        have := h i n (by omega) (by omega) q e
        omega
      omega
    · rw [if_neg e]
      have := ih fun i j hi hj => h i j (by omega) (by omega)
      omega
theorem S_tight {n : Nat} {f g : Nat → Int} (h : ∀ i, i < n → f i ≤ g i) (e : S n g ≤ S n f) : ∀ i, i < n → f i = g i := by
  intro i hi
  have h1 := S_ex1 f hi
  have h2 := S_ex1 g hi
  have h3 : S n (ex1 i f) ≤ S n (ex1 i g) := S_le fun j hj => by
    unfold ex1
    by_cases e : j = i
    · rw [if_pos e, if_pos e]; exact Int.le_refl _
    · rw [if_neg e, if_neg e]; exact h j hj
  have := h i hi
  omega
theorem S_perm {n : Nat} (σ : Nat → Nat) (hσ : ∀ i, i < n → σ i < n) (inj : ∀ i j, i < n → j < n → σ i = σ j → i = j) (h : Nat → Int) : S n (fun i => h (σ i)) = S n h := by
  have e1 : S n (fun i => h (σ i)) = S n fun i => S n fun j => if σ i = j then h j else 0 := S_congr fun i hi => (S_ind_eq h (hσ i hi)).symm
  have one : ∀ j, j < n → S n (fun i => if σ i = j then 1 else 0) = 1 := by
    refine S_tight (f := fun j => S n fun i => if σ i = j then 1 else 0) (g := fun _ => 1) (fun j _ => ?_) ?_
    · exact S_most_one fun i k hi hk e e' => inj i k hi hk (e.trans e'.symm)
    · rw [S_swap n n fun j i => if σ i = j then 1 else 0]
      refine Int.le_of_eq (S_congr fun i hi => ?_)
      exact (S_ind_eq (fun _ => 1) (hσ i hi)).symm
  rw [e1, S_swap n n fun i j => if σ i = j then h j else 0]
  refine S_congr fun j hj => ?_
  have : S n (fun i => if σ i = j then h j else 0) = S n fun i => h j * (if σ i = j then 1 else 0) := S_congr fun i _ => by
    by_cases e : σ i = j
    · rw [if_pos e, if_pos e]; omega
    · rw [if_neg e, if_neg e]; omega
  rw [this, S_mul, one j hj]; omega
/-- .. and hits every place -/
theorem perm_hits {n : Nat} (σ : Nat → Nat) (hσ : ∀ i, i < n → σ i < n) (inj : ∀ i j, i < n → j < n → σ i = σ j → i = j) {j : Nat} (hj : j < n) : ∃ i, i < n ∧ σ i = j := by
  apply Classical.byContradiction
  intro no
  have h1 := S_perm σ hσ inj (fun i => if i = j then 1 else 0)
  have h2 : S n (fun i => if σ i = j then 1 else 0) = 0 := by
    refine (S_congr (g := fun _ => 0) fun i hi => ?_).trans (S_zero n)
    rw [if_neg]
    exact fun e => no ⟨i, hi, e⟩
  have h3 := S_ex1 (fun i => if i = j then (1 : Int) else 0) hj
  rw [if_pos rfl] at h3
  have h4 : 0 ≤ S n (ex1 j fun i => if i = j then (1 : Int) else 0) := S_nonneg fun i _ => by
    unfold ex1
    dsimp only
    by_cases e : i = j
    · rw [if_pos e]; exact Int.le_refl _
    · rw [if_neg e, if_neg e]; exact Int.le_refl _
  have h1' : S n (fun i => if σ i = j then 1 else 0) = S n (fun i => if i = j then 1 else 0) := h1
  rw [h2] at h1'
  omega
theorem S_pos_of {n : Nat} {f : Nat → Int} (h0 : ∀ i, i < n → 0 ≤ f i) {a : Nat} (ha : a < n) : f a ≤ S n f := by
  have h1 := S_ex1 f ha
  have h2 : 0 ≤ S n (ex1 a f) := S_nonneg fun i hi => by
    unfold ex1
    by_cases e : i = a
    · rw [if_pos e]; exact Int.le_refl _
    · rw [if_neg e]; exact h0 i hi
  omega

/-! ## crossing systems: X a b, how often a passes b -/
abbrev nab (x : Int) : Int := (x.natAbs : Int)
/-- X is antisymmetric; of three, X a c + X c b is X a b less eP and more eF, each 0 or 1 -/
structure Sys (n : Nat) (eP eF : Nat → Nat → Nat → Int) (X : Nat → Nat → Int) : Prop where
  anti : ∀ a b, a < n → b < n → X b a = - X a b
  three : ∀ a c b, a < n → c < n → b < n → a ≠ b → c ≠ a → c ≠ b → X a c + X c b = X a b - eP a c b + eF a c b
structure Eps (n : Nat) (e : Nat → Nat → Nat → Int) : Prop where
  lo : ∀ a c b, 0 ≤ e a c b
  hi : ∀ a c b, e a c b ≤ 1
/-- the sum of all |X|, each pair twice -/
def NN (n : Nat) (X : Nat → Nat → Int) : Int := S n fun i => S n fun j => nab (X i j)
def vv (n : Nat) (X : Nat → Nat → Int) (a : Nat) : Int := S n fun c => X a c
/-- a's way is made one round shorter, b's one longer -/
def shiftX (a b : Nat) (X : Nat → Nat → Int) : Nat → Nat → Int := fun i j =>
  X i j - (if i = a then 1 else 0) + (if i = b then 1 else 0) + (if j = a then 1 else 0) - (if j = b then 1 else 0)
theorem Sys.self {n : Nat} {eP eF : Nat → Nat → Nat → Int} {X : Nat → Nat → Int} (s : Sys n eP eF X) {a : Nat} (ha : a < n) : X a a = 0 := by
  have := s.anti a a ha ha
  omega
theorem Sys.shift {n : Nat} {eP eF : Nat → Nat → Nat → Int} {X : Nat → Nat → Int} (s : Sys n eP eF X) (a b : Nat) : Sys n eP eF (shiftX a b X) := by
  refine ⟨fun i j hi hj => ?_, fun i c j hi hc hj h1 h2 h3 => ?_⟩
  · have := s.anti i j hi hj
    unfold shiftX
    omega
  · have := s.three i c j hi hc hj h1 h2 h3
    unfold shiftX
    omega
theorem NN_shift {n : Nat} {eP eF : Nat → Nat → Nat → Int} {X : Nat → Nat → Int} (s : Sys n eP eF X) {a b : Nat} (ha : a < n) (hb : b < n) (ne : a ≠ b) :
    NN n (shiftX a b X) = NN n X + 2 * (S n (ex2 a b fun c => (nab (X a c - 1) - nab (X a c)) + (nab (X c b - 1) - nab (X c b))) + (nab (X a b - 2) - nab (X a b))) := by
  have diff : NN n (shiftX a b X) - NN n X = S n fun i => S n fun j => nab (shiftX a b X i j) - nab (X i j) := by
    unfold NN
    rw [← S_sub]
    exact S_congr fun i _ => (S_sub n _ _).symm
  -- the rows a, b, and another
  have row : ∀ i, i < n → i ≠ a → i ≠ b → (S n fun j => nab (shiftX a b X i j) - nab (X i j)) = (nab (X a i - 1) - nab (X a i)) + (nab (X i b - 1) - nab (X i b)) := by
    intro i hi h1 h2
    rw [S_ex2 _ ha hb ne]
    have e0 : S n (ex2 a b fun j => nab (shiftX a b X i j) - nab (X i j)) = 0 := by
      refine (S_congr (g := fun _ => 0) fun j _ => ?_).trans (S_zero n)
      unfold ex2 shiftX
      by_cases e : j = a ∨ j = b
      · rw [if_pos e]
      · rw [if_neg e, if_neg h1, if_neg h2]
        dsimp only
        rw [if_neg (by omega), if_neg (by omega)]
        have : X i j - 0 + 0 + 0 - 0 = X i j := by omega
        rw [this]; omega
    have h3 := s.anti i a hi ha
    have e1 : shiftX a b X i a = X i a + 1 := by
      unfold shiftX
      rw [if_neg h1, if_neg h2, if_pos rfl, if_neg ne]; omega
    have e2 : shiftX a b X i b = X i b - 1 := by
      unfold shiftX
      rw [if_neg h1, if_neg h2, if_pos rfl, if_neg (Ne.symm ne)]; omega
    rw [e0, e1, e2]
    unfold nab
    omega
  have self1 := s.self ha
  have self2 := s.self hb
  have ab := s.anti a b ha hb
  have rowa : (S n fun j => nab (shiftX a b X a j) - nab (X a j)) = S n (ex2 a b fun c => nab (X a c - 1) - nab (X a c)) + (nab (X a b - 2) - nab (X a b)) := by
    rw [S_ex2 _ ha hb ne]
    have e0 : S n (ex2 a b fun j => nab (shiftX a b X a j) - nab (X a j)) = S n (ex2 a b fun c => nab (X a c - 1) - nab (X a c)) := S_congr fun j _ => by
      unfold ex2
      by_cases e : j = a ∨ j = b
      · rw [if_pos e, if_pos e]
      · rw [if_neg e, if_neg e]
        dsimp only
        have : shiftX a b X a j = X a j - 1 := by
          unfold shiftX
          rw [if_pos rfl, if_neg ne, if_neg (by omega), if_neg (by omega)]
          omega
        rw [this]
    have e1 : shiftX a b X a a = X a a := by
      unfold shiftX
      rw [if_pos rfl, if_neg ne]; omega
    have e2 : shiftX a b X a b = X a b - 2 := by
      unfold shiftX
      rw [if_pos rfl, if_neg ne, if_pos rfl, if_neg (Ne.symm ne)]; omega
    rw [e0, e1, e2]
    unfold nab
    omega
  have rowb : (S n fun j => nab (shiftX a b X b j) - nab (X b j)) = S n (ex2 a b fun c => nab (X c b - 1) - nab (X c b)) + (nab (X a b - 2) - nab (X a b)) := by
    rw [S_ex2 _ ha hb ne]
    have e0 : S n (ex2 a b fun j => nab (shiftX a b X b j) - nab (X b j)) = S n (ex2 a b fun c => nab (X c b - 1) - nab (X c b)) := S_congr fun j hj => by
      unfold ex2
      by_cases e : j = a ∨ j = b
      · rw [if_pos e, if_pos e]
      · rw [if_neg e, if_neg e]
        have h3 := s.anti b j hb hj
        have : shiftX a b X b j = X b j + 1 := by
          unfold shiftX
          rw [if_neg (Ne.symm ne), if_pos rfl, if_neg (by omega), if_neg (by omega)]; omega
        dsimp only
        rw [this]; unfold nab; omega
    have e1 : shiftX a b X b b = X b b := by
      unfold shiftX
      rw [if_pos rfl, if_neg (Ne.symm ne)]; omega
    have e2 : shiftX a b X b a = X b a + 2 := by
      unfold shiftX
      rw [if_pos rfl, if_neg ne, if_pos rfl, if_neg (Ne.symm ne)]; omega
    rw [e0, e1, e2]
    unfold nab
    omega
  have tot : (S n fun i => S n fun j => nab (shiftX a b X i j) - nab (X i j)) = _ := S_ex2 _ ha hb ne
  have e0 : S n (ex2 a b fun i => S n fun j => nab (shiftX a b X i j) - nab (X i j)) = S n (ex2 a b fun c => (nab (X a c - 1) - nab (X a c)) + (nab (X c b - 1) - nab (X c b))) := S_congr fun i hi => by
    unfold ex2
    by_cases e : i = a ∨ i = b
    · rw [if_pos e, if_pos e]
    · rw [if_neg e, if_neg e]
      exact row i hi (by omega) (by omega)
  have e1 : S n (ex2 a b fun c => (nab (X a c - 1) - nab (X a c)) + (nab (X c b - 1) - nab (X c b))) = S n (ex2 a b fun c => nab (X a c - 1) - nab (X a c)) + S n (ex2 a b fun c => nab (X c b - 1) - nab (X c b)) := by
    rw [← S_add]
    refine S_congr fun i _ => ?_
    unfold ex2
    by_cases e : i = a ∨ i = b
    · rw [if_pos e, if_pos e, if_pos e]; rfl
    · rw [if_neg e, if_neg e, if_neg e]
  rw [e0, rowa, rowb] at tot
  omega

theorem NN_congr {n : Nat} {X Y : Nat → Nat → Int} (h : ∀ i j, i < n → j < n → X i j = Y i j) : NN n X = NN n Y :=
  S_congr fun i hi => S_congr fun j hj => by rw [h i j hi hj]
theorem NN_nonneg (n : Nat) (X : Nat → Nat → Int) : 0 ≤ NN n X := S_nonneg fun i _ => S_nonneg fun j _ => by unfold nab; omega
theorem vv_congr {n : Nat} {X Y : Nat → Nat → Int} (h : ∀ i j, i < n → j < n → X i j = Y i j) {a : Nat} (ha : a < n) : vv n X a = vv n Y a := S_congr fun j hj => h a j ha hj
/-- ways lengthened by z rounds -/
def zX (z : Nat → Int) (X : Nat → Nat → Int) : Nat → Nat → Int := fun i j => X i j + z i - z j
/-- the rounds of shiftX a b -/
def zab (a b : Nat) : Nat → Int := fun i => (if i = b then 1 else 0) - (if i = a then 1 else 0)
theorem shift_z (a b : Nat) (X : Nat → Nat → Int) : shiftX a b X = zX (zab a b) X := by
  funext i j
  unfold shiftX zX zab
  omega
theorem vv_z (n : Nat) (z : Nat → Int) (X : Nat → Nat → Int) (a : Nat) : vv n (zX z X) a = vv n X a + (n : Int) * z a - S n z := by
  show S n (fun c => X a c + z a - z c) = S n (fun c => X a c) + (n : Int) * z a - S n z
  rw [S_sub n (fun c => X a c + z a) z, S_add n (fun c => X a c) fun _ => z a, S_const]
theorem S_zab {n : Nat} {a b : Nat} (ha : a < n) (hb : b < n) : S n (zab a b) = 0 := by
  have e1 : S n (fun i => if i = b then (1 : Int) else 0) = 1 := by
    have := S_ind_eq (fun _ => 1) hb
    refine Eq.trans (S_congr fun i _ => ?_) this
    by_cases e : i = b
    · rw [if_pos e, if_pos e.symm]
    · rw [if_neg e, if_neg (Ne.symm e)]
  have e2 : S n (fun i => if i = a then (1 : Int) else 0) = 1 := by
    have := S_ind_eq (fun _ => 1) ha
    refine Eq.trans (S_congr fun i _ => ?_) this
    by_cases e : i = a
    · rw [if_pos e, if_pos e.symm]
    · rw [if_neg e, if_neg (Ne.symm e)]
  show S n (fun i => (if i = b then 1 else 0) - (if i = a then 1 else 0)) = 0
  rw [S_sub, e1, e2]; rfl
theorem vv_shift {n : Nat} (X : Nat → Nat → Int) {a b : Nat} (ha : a < n) (hb : b < n) (c : Nat) : vv n (shiftX a b X) c = vv n X c + (n : Int) * zab a b c := by
  rw [shift_z, vv_z, S_zab ha hb]; omega
theorem S_ex2_const {n : Nat} {a b : Nat} (ha : a < n) (hb : b < n) (ne : a ≠ b) (k : Int) : S n (ex2 a b fun _ => k) = (n : Int) * k - 2 * k := by
  have := S_ex2 (fun _ => k) ha hb ne
  rw [S_const] at this
  omega
section
variable {n : Nat} {eP eF : Nat → Nat → Nat → Int} {X : Nat → Nat → Int}
/-- how many (beside a, b) have e = 1 -/
def EE (n : Nat) (e : Nat → Nat → Nat → Int) (a b : Nat) : Int := S n (ex2 a b fun c => e a c b)
theorem EE_bounds {e : Nat → Nat → Nat → Int} (E : Eps n e) {a b : Nat} (ha : a < n) (hb : b < n) (ne : a ≠ b) : 0 ≤ EE n e a b ∧ EE n e a b ≤ (n : Int) - 2 := by
  constructor
  · refine S_nonneg fun c _ => ?_
    unfold ex2
    split
    · exact Int.le_refl _
    · exact E.lo a c b
  · have h1 := S_ex2_const ha hb ne 1
    have h2 : EE n e a b ≤ S n (ex2 a b fun _ => 1) := S_le fun c _ => by
      unfold ex2
      split
      · exact Int.le_refl _
      · exact E.hi a c b
    omega
theorem cocycle (s : Sys n eP eF X) {a b : Nat} (ha : a < n) (hb : b < n) (ne : a ≠ b) : vv n X a - vv n X b = (n : Int) * X a b - EE n eP a b + EE n eF a b := by
  have h1 : vv n X a - vv n X b = S n fun c => X a c - X b c := (S_sub n _ _).symm
  have h2 := S_ex2 (fun c => X a c - X b c) ha hb ne
  have h3 : S n (ex2 a b fun c => X a c - X b c) = S n (ex2 a b fun _ => X a b) - EE n eP a b + EE n eF a b := by
    unfold EE
    rw [← S_sub, ← S_add]
    refine S_congr fun c hc => ?_
    unfold ex2
    by_cases e : c = a ∨ c = b
    · rw [if_pos e, if_pos e, if_pos e, if_pos e]; rfl
    · rw [if_neg e, if_neg e, if_neg e, if_neg e]
      have := s.three a c b ha hc hb ne (by omega) (by omega)
      have := s.anti c b hc hb
      dsimp only
      omega
  have h4 := S_ex2_const ha hb ne (X a b)
  have h5 := s.self ha
  have h6 := s.self hb
  have h7 := s.anti a b ha hb
  omega
/-- a over b twice: a round less for a, a round more for b lowers the passes -/
theorem shift_two (s : Sys n eP eF X) (EP : Eps n eP) (EF : Eps n eF) {a b : Nat} (ha : a < n) (hb : b < n) (ne : a ≠ b) (h : 2 ≤ X a b) : NN n (shiftX a b X) ≤ NN n X - 4 := by
  have h1 := NN_shift s ha hb ne
  have h2 : S n (ex2 a b fun c => (nab (X a c - 1) - nab (X a c)) + (nab (X c b - 1) - nab (X c b))) ≤ S n fun _ => 0 := S_le fun c hc => by
    unfold ex2
    by_cases e : c = a ∨ c = b
    · rw [if_pos e]; exact Int.le_refl _
    · rw [if_neg e]
      have := s.three a c b ha hc hb ne (by omega) (by omega)
      have := EP.hi a c b
      have := EF.lo a c b
      unfold nab
      dsimp only
      omega
  rw [S_zero] at h2
  have h3 : nab (X a b - 2) - nab (X a b) = -2 := by unfold nab; omega
  omega
/-- no two pass more than once, v a - v b at least n -/
theorem shift_one (s : Sys n eP eF X) (one : ∀ i j, i < n → j < n → X i j ≤ 1) {a b : Nat} (ha : a < n) (hb : b < n) (ne : a ≠ b) (hx : X a b = 1) : NN n (shiftX a b X) ≤ NN n X + 4 * ((n : Int) - (vv n X a - vv n X b)) := by
  have h1 := NN_shift s ha hb ne
  have h2 : S n (ex2 a b fun c => (nab (X a c - 1) - nab (X a c)) + (nab (X c b - 1) - nab (X c b))) ≤ 2 * EE n eP a b - 2 * EE n eF a b := by
    unfold EE
    rw [← S_mul, ← S_mul, ← S_sub]
    refine S_le fun c hc => ?_
    unfold ex2
    by_cases e : c = a ∨ c = b
    · rw [if_pos e, if_pos e, if_pos e]; exact Int.le_refl _
    · rw [if_neg e, if_neg e, if_neg e]
      have h4 := s.three a c b ha hc hb ne (by omega) (by omega)
      have h5 := one a c ha hc
      have h6 := one c b hc hb
      have h7 := s.anti a c ha hc
      have h8 := s.anti c b hc hb
      have h9 := one c a hc ha
      have h10 := one b c hb hc
      unfold nab
      dsimp only
      omega
  have h3 := cocycle s ha hb ne
  rw [hx] at h3
  have h4 : nab (X a b - 2) - nab (X a b) = 0 := by rw [hx]; rfl
  omega
/-- no way is greater than another by more than there are places -/
def Nrm (n : Nat) (X : Nat → Nat → Int) : Prop := ∀ a b, a < n → b < n → vv n X a - vv n X b ≤ (n : Int)
theorem Nrm.one (N : Nrm n X) (s : Sys n eP eF X) (EP : Eps n eP) (EF : Eps n eF) {a b : Nat} (ha : a < n) (hb : b < n) : X a b ≤ 1 := by
  by_cases ne : a = b
  · subst ne
    have := s.self ha
    omega
  · have h1 := cocycle s ha hb ne
    have h2 := EE_bounds EP ha hb ne
    have h3 := EE_bounds EF ha hb ne
    have h4 := N a b ha hb
    apply Classical.byContradiction
    intro h
    have h5 : (n : Int) * 2 ≤ (n : Int) * X a b := Int.mul_le_mul_of_nonneg_left (by omega) (by omega)
    omega
/-- v a - v b > n - (n - 2): a passes b -/
theorem pass_pos (s : Sys n eP eF X) (EP : Eps n eP) (EF : Eps n eF) {a b : Nat} (ha : a < n) (hb : b < n) (ne : a ≠ b) (h : (n : Int) - 1 ≤ vv n X a - vv n X b) : 1 ≤ X a b := by
  have h1 := cocycle s ha hb ne
  have h2 := EE_bounds EP ha hb ne
  have h3 := EE_bounds EF ha hb ne
  apply Classical.byContradiction
  intro q
  have h5 : (n : Int) * X a b ≤ (n : Int) * 0 := Int.mul_le_mul_of_nonneg_left (by omega) (by omega)
  omega
/-- what is not normal can be lowered -/
theorem lower (s : Sys n eP eF X) (EP : Eps n eP) (EF : Eps n eF) (no : ¬ Nrm n X) : ∃ a b, a < n ∧ b < n ∧ a ≠ b ∧ NN n (shiftX a b X) < NN n X := by
  by_cases h : ∃ i j, i < n ∧ j < n ∧ 2 ≤ X i j
  · obtain ⟨i, j, hi, hj, h2⟩ := h
    have ne : i ≠ j := by
      intro e
      subst e
      have := s.self hi
      omega
    have := shift_two s EP EF hi hj ne h2
    exact ⟨i, j, hi, hj, ne, by omega⟩
  · have one : ∀ i j, i < n → j < n → X i j ≤ 1 := fun i j hi hj => by
      apply Classical.byContradiction
      intro q
      exact h ⟨i, j, hi, hj, by omega⟩
    have : ∃ a b, a < n ∧ b < n ∧ (n : Int) < vv n X a - vv n X b := by
      apply Classical.byContradiction
      intro q
      apply no
      intro a b ha hb
      apply Classical.byContradiction
      intro q2
      exact q ⟨a, b, ha, hb, by omega⟩
    obtain ⟨a, b, ha, hb, hv⟩ := this
    have ne : a ≠ b := by
      intro e
      subst e
      omega
    have h1 := pass_pos s EP EF ha hb ne (by omega)
    have h2 := one a b ha hb
    have := shift_one s one ha hb ne (by omega)
    exact ⟨a, b, ha, hb, ne, by omega⟩
theorem zX_zX (z y : Nat → Int) (X : Nat → Nat → Int) : zX y (zX z X) = zX (fun i => z i + y i) X := by
  funext i j
  unfold zX
  dsimp only
  omega
theorem Sys.z (s : Sys n eP eF X) (z : Nat → Int) : Sys n eP eF (zX z X) := by
  refine ⟨fun i j hi hj => ?_, fun i c j hi hc hj h1 h2 h3 => ?_⟩
  · have := s.anti i j hi hj
    unfold zX
    omega
  · have := s.three i c j hi hc hj h1 h2 h3
    unfold zX
    omega
/-- any ways can be made normal, with no more passes -/
theorem normal_of (s : Sys n eP eF X) (EP : Eps n eP) (EF : Eps n eF) : ∃ z, S n z = 0 ∧ Nrm n (zX z X) ∧ NN n (zX z X) ≤ NN n X := by
  have main : ∀ (k : Nat) (X : Nat → Nat → Int), Sys n eP eF X → (NN n X).toNat ≤ k → ∃ z, S n z = 0 ∧ Nrm n (zX z X) ∧ NN n (zX z X) ≤ NN n X := by
    intro k
    induction k with
    | zero =>
      intro X s hk
      by_cases h : Nrm n X
      · have e : zX (fun _ => 0) X = X := by funext i j; unfold zX; dsimp only; omega
        exact ⟨fun _ => 0, S_zero n, by rw [e]; exact h, by rw [e]; exact Int.le_refl _⟩
      · obtain ⟨a, b, _, _, _, hl⟩ := lower s EP EF h
        have := NN_nonneg n (shiftX a b X)
        omega
    | succ k ih =>
      intro X s hk
      by_cases h : Nrm n X
      · have e : zX (fun _ => 0) X = X := by funext i j; unfold zX; dsimp only; omega
        exact ⟨fun _ => 0, S_zero n, by rw [e]; exact h, by rw [e]; exact Int.le_refl _⟩
      · obtain ⟨a, b, ha, hb, _, hl⟩ := lower s EP EF h
        have := NN_nonneg n (shiftX a b X)
        obtain ⟨z, z0, zn, zl⟩ := ih (shiftX a b X) (s.shift a b) (by omega)
        rw [shift_z, zX_zX] at zn zl
        refine ⟨_, ?_, zn, ?_⟩
        · rw [S_add, S_zab ha hb, z0]; rfl
        · rw [shift_z] at hl
          omega
  exact main _ X s (Nat.le_refl _)
/-- two normal ways of one row have as many passes -/
theorem normal_same (EP : Eps n eP) (EF : Eps n eF) : ∀ (k : Nat) (X : Nat → Nat → Int) (z : Nat → Int), Sys n eP eF X → Nrm n X → Nrm n (zX z X) → S n z = 0 → (S n fun i => nab (z i)).toNat ≤ k → NN n X ≤ NN n (zX z X) := by
  intro k
  have base : ∀ (X : Nat → Nat → Int) (z : Nat → Int), (∀ i, i < n → z i = 0) → NN n X ≤ NN n (zX z X) := by
    intro X z h
    refine Int.le_of_eq (NN_congr fun i j hi hj => ?_)
    unfold zX
    rw [h i hi, h j hj]; omega
  have nn : ∀ z : Nat → Int, ∀ i, i < n → 0 ≤ nab (z i) := fun z i _ => by unfold nab; omega
  induction k with
  | zero =>
    intro X z s N N' z0 hk
    refine base X z fun i hi => ?_
    have h1 := S_pos_of (nn z) hi
    have : nab (z i) ≤ 0 := by omega
    unfold nab at this
    omega
  | succ k ih =>
    intro X z s N N' z0 hk
    by_cases all : ∀ i, i < n → z i = 0
    · exact base X z all
    · -- one that goes more rounds, one that goes fewer
      have up : ∃ a, a < n ∧ 1 ≤ z a := by
        apply Classical.byContradiction
        intro q
        have le : ∀ i, i < n → z i ≤ 0 := fun i hi => by
          apply Classical.byContradiction
          intro q2
          exact q ⟨i, hi, by omega⟩
        apply all
        exact fun i hi => S_tight (f := z) (g := fun _ => 0) le (by rw [S_zero, z0]; exact Int.le_refl _) i hi
      have down : ∃ b, b < n ∧ z b ≤ -1 := by
        apply Classical.byContradiction
        intro q
        have ge : ∀ i, i < n → 0 ≤ z i := fun i hi => by
          apply Classical.byContradiction
          intro q2
          exact q ⟨i, hi, by omega⟩
        apply all
        exact fun i hi => (S_tight (f := fun _ => 0) (g := z) ge (by rw [S_zero, z0]; exact Int.le_refl _) i hi).symm
      obtain ⟨a, ha, za⟩ := up
      obtain ⟨b, hb, zb⟩ := down
      have ne : a ≠ b := by intro e; subst e; omega
      have h1 := N' a b ha hb
      rw [vv_z, vv_z, z0] at h1
      have h2 := N b a hb ha
      have h3 : (n : Int) * 2 ≤ (n : Int) * (z a - z b) := Int.mul_le_mul_of_nonneg_left (by omega) (by omega)
      rw [Int.mul_sub] at h3
      have npos : (0 : Int) < n := by omega
      have hv : vv n X b - vv n X a = n := by omega
      have hz : (n : Int) * z a - (n : Int) * z b = (n : Int) * 2 := by omega
      have hz2 : z a - z b = 2 := by
        rw [← Int.mul_sub] at hz
        exact Int.eq_of_mul_eq_mul_left (by omega) hz
      -- the step from X: b less, a more
      have nba : b ≠ a := Ne.symm ne
      have hX' := vv_shift X hb ha
      have N1 : Nrm n (shiftX b a X) := by
        intro i j hi hj
        rw [hX' i, hX' j]
        have mb := N b i hb hi
        have mi := N i a hi ha
        have mbj := N b j hb hj
        have mj := N j a hj ha
        have nij := N i j hi hj
        unfold zab
        by_cases e1 : i = a
        · by_cases e2 : j = a
          · rw [e1, e2]; omega
          · by_cases e3 : j = b
            · subst e1; subst e3
              rw [if_pos rfl, if_neg ne, if_neg nba, if_pos rfl]; omega
            · subst e1
              rw [if_pos rfl, if_neg ne, if_neg e2, if_neg e3]; omega
        · by_cases e1' : i = b
          · by_cases e2 : j = a
            · subst e1'; subst e2
              rw [if_neg nba, if_pos rfl, if_pos rfl, if_neg ne]; omega
            · by_cases e3 : j = b
              · rw [e1', e3]; omega
              · subst e1'
                rw [if_neg nba, if_pos rfl, if_neg e2, if_neg e3]; omega
          · by_cases e2 : j = a
            · subst e2
              rw [if_neg e1, if_neg e1', if_pos rfl, if_neg ne]; omega
            · by_cases e3 : j = b
              · subst e3
                rw [if_neg e1, if_neg e1', if_neg nba, if_pos rfl]; omega
              · rw [if_neg e1, if_neg e1', if_neg e2, if_neg e3]; omega
      have s1 := s.shift b a
      -- back again
      have back : shiftX a b (shiftX b a X) = X := by
        funext i j
        unfold shiftX
        omega
      have hx1 : vv n (shiftX b a X) a - vv n (shiftX b a X) b = n := by
        rw [hX' a, hX' b]
        unfold zab
        rw [if_pos rfl, if_neg ne, if_neg nba, if_pos rfl]; omega
      have x1 := pass_pos s1 EP EF ha hb ne (by omega)
      have x2 := N1.one s1 EP EF ha hb
      have le1 := shift_one s1 (fun i j hi hj => N1.one s1 EP EF hi hj) ha hb ne (by omega)
      rw [back] at le1
      have e0 : zX z X = zX (fun i => z i - zab b a i) (shiftX b a X) := by
        rw [shift_z, zX_zX]
        congr 1
        funext i
        omega
      have z0' : S n (fun i => z i - zab b a i) = 0 := by rw [S_sub, z0, S_zab hb ha]; rfl
      have less : S n (fun i => nab (z i - zab b a i)) < S n fun i => nab (z i) := by
        have d1 := S_ex2 (fun i => nab (z i - zab b a i)) ha hb ne
        have d2 := S_ex2 (fun i => nab (z i)) ha hb ne
        have d3 : S n (ex2 a b fun i => nab (z i - zab b a i)) = S n (ex2 a b fun i => nab (z i)) := S_congr fun i _ => by
          unfold ex2
          by_cases e : i = a ∨ i = b
          · rw [if_pos e, if_pos e]
          · rw [if_neg e, if_neg e]
            unfold zab
            dsimp only
            rw [if_neg (by omega), if_neg (by omega)]
            congr 1
            omega
        have d4 : zab b a a = 1 := by unfold zab; rw [if_pos rfl, if_neg ne]; rfl
        have d5 : zab b a b = -1 := by unfold zab; rw [if_neg nba, if_pos rfl]; rfl
        rw [d4, d5] at d1
        unfold nab at *
        omega
      have := ih (shiftX b a X) (fun i => z i - zab b a i) s1 N1 (by rw [← e0]; exact N') z0' (by omega)
      rw [← e0] at this
      omega
/-- THE LEAST: normal ways have no more passes than any -/
theorem normal_least (s : Sys n eP eF X) (EP : Eps n eP) (EF : Eps n eF) (N : Nrm n X) (z : Nat → Int) (z0 : S n z = 0) : NN n X ≤ NN n (zX z X) := by
  obtain ⟨y, y0, yN, yl⟩ := normal_of (s.z z) EP EF
  rw [zX_zX] at yN yl
  have := normal_same EP EF _ X _ s N yN (by rw [S_add, z0, y0]; rfl) (Nat.le_refl _)
  omega
end

/-! ## no more passes than a quarter of n * n -/
def SM (n : Nat) (m : Nat → Bool) (h : Nat → Int) : Int := S n fun i => if m i = true then h i else 0
def del (m : Nat → Bool) (x : Nat) : Nat → Bool := fun i => m i && !decide (i = x)
theorem del_of {m : Nat → Bool} {x i : Nat} (h : del m x i = true) : m i = true ∧ i ≠ x := by
  unfold del at h
  simpa using h
theorem del_mk {m : Nat → Bool} {x i : Nat} (h : m i = true) (ne : i ≠ x) : del m x i = true := by
  unfold del
  simpa using ⟨h, ne⟩
theorem SM_del {n : Nat} {m : Nat → Bool} (h : Nat → Int) {x : Nat} (hx : x < n) (mx : m x = true) : SM n m h = SM n (del m x) h + h x := by
  unfold SM
  rw [S_ex1 _ hx, if_pos mx]
  congr 1
  refine S_congr fun i _ => ?_
  unfold ex1
  by_cases e : i = x
  · rw [if_pos e, if_neg]
    intro q
    exact (del_of q).2 e
  · rw [if_neg e]
    dsimp only
    by_cases q : m i = true
    · rw [if_pos q, if_pos (del_mk q e)]
    · rw [if_neg q, if_neg]
      exact fun z => q (del_of z).1
theorem SM_congr {n : Nat} {m : Nat → Bool} {f g : Nat → Int} (h : ∀ i, i < n → m i = true → f i = g i) : SM n m f = SM n m g := S_congr fun i hi => by
  by_cases q : m i = true
  · rw [if_pos q, if_pos q, h i hi q]
  · rw [if_neg q, if_neg q]
theorem SM_le {n : Nat} {m : Nat → Bool} {f g : Nat → Int} (h : ∀ i, i < n → m i = true → f i ≤ g i) : SM n m f ≤ SM n m g := S_le fun i hi => by
  by_cases q : m i = true
  · rw [if_pos q, if_pos q]; exact h i hi q
  · rw [if_neg q, if_neg q]; exact Int.le_refl _
theorem SM_add (n : Nat) (m : Nat → Bool) (f g : Nat → Int) : SM n m (fun i => f i + g i) = SM n m f + SM n m g := by
  unfold SM
  rw [← S_add]
  refine S_congr fun i _ => ?_
  by_cases q : m i = true
  · rw [if_pos q, if_pos q, if_pos q]
  · rw [if_neg q, if_neg q, if_neg q]; rfl
theorem SM_sub (n : Nat) (m : Nat → Bool) (f g : Nat → Int) : SM n m (fun i => f i - g i) = SM n m f - SM n m g := by
  unfold SM
  rw [← S_sub]
  refine S_congr fun i _ => ?_
  by_cases q : m i = true
  · rw [if_pos q, if_pos q, if_pos q]
  · rw [if_neg q, if_neg q, if_neg q]; rfl
theorem SM_const (n : Nat) (m : Nat → Bool) (k : Int) : SM n m (fun _ => k) = SM n m (fun _ => 1) * k := by
  unfold SM
  rw [Int.mul_comm, ← S_mul]
  refine S_congr fun i _ => ?_
  by_cases q : m i = true
  · rw [if_pos q, if_pos q]; exact (Int.mul_one k).symm
  · rw [if_neg q, if_neg q]; omega
theorem SM_nonneg {n : Nat} {m : Nat → Bool} {f : Nat → Int} (h : ∀ i, i < n → m i = true → 0 ≤ f i) : 0 ≤ SM n m f := S_nonneg fun i hi => by
  by_cases q : m i = true
  · rw [if_pos q]; exact h i hi q
  · rw [if_neg q]; exact Int.le_refl _
theorem greatest {n : Nat} {p : Nat → Prop} (f : Nat → Int) (h : ∃ a, a < n ∧ p a) : ∃ x, x < n ∧ p x ∧ ∀ b, b < n → p b → f b ≤ f x := by
  induction n with
  | zero => obtain ⟨a, ha, _⟩ := h; omega
  | succ n ih =>
    by_cases q : ∃ a, a < n ∧ p a
    · obtain ⟨x, hx, px, mx⟩ := ih q
      by_cases pn : p n
      · by_cases le : f n ≤ f x
        · refine ⟨x, by omega, px, fun b hb pb => ?_⟩
          by_cases e : b = n
          · rw [e]; exact le
          · exact mx b (by omega) pb
        · refine ⟨n, by omega, pn, fun b hb pb => ?_⟩
          by_cases e : b = n
          · rw [e]; exact Int.le_refl _
          · have := mx b (by omega) pb
            omega
      · refine ⟨x, by omega, px, fun b hb pb => ?_⟩
        by_cases e : b = n
        · rw [e] at pb; exact (pn pb).elim
        · exact mx b (by omega) pb
    · obtain ⟨a, ha, pa⟩ := h
      have e : a = n := by
        apply Classical.byContradiction
        intro ne
        exact q ⟨a, by omega, pa⟩
      subst e
      refine ⟨a, by omega, pa, fun b hb pb => ?_⟩
      by_cases e : b = a
      · rw [e]; exact Int.le_refl _
      · exact (q ⟨b, by omega, pb⟩).elim
section
variable {n : Nat} {eP eF : Nat → Nat → Nat → Int} {X : Nat → Nat → Int}
def sz (n : Nat) (m : Nat → Bool) : Int := SM n m fun _ => 1
def vm (n : Nat) (X : Nat → Nat → Int) (m : Nat → Bool) (a : Nat) : Int := SM n m fun c => X a c
def DM (n : Nat) (X : Nat → Nat → Int) (m : Nat → Bool) : Int := SM n m fun i => SM n m fun j => nab (X i j)
/-- the cocycle over the things of a mask -/
theorem cocycleM (s : Sys n eP eF X) (EP : Eps n eP) (EF : Eps n eF) {m : Nat → Bool} {a b : Nat} (ha : a < n) (hb : b < n) (ne : a ≠ b) (ma : m a = true) (mb : m b = true) :
    ∃ p f : Int, 0 ≤ p ∧ p ≤ sz n m - 2 ∧ 0 ≤ f ∧ f ≤ sz n m - 2 ∧ vm n X m a - vm n X m b = sz n m * X a b - p + f := by
  have mb' : del m a b = true := del_mk mb (Ne.symm ne)
  have z1 : sz n m = SM n (del (del m a) b) (fun _ => 1) + 1 + 1 := by
    unfold sz
    rw [SM_del _ ha ma, SM_del _ hb mb']
  have h1 : vm n X m a - vm n X m b = SM n m fun c => X a c - X b c := (SM_sub n m _ _).symm
  rw [SM_del _ ha ma, SM_del _ hb mb'] at h1
  have h3 : SM n (del (del m a) b) (fun c => X a c - X b c) = SM n (del (del m a) b) (fun _ => X a b) - SM n (del (del m a) b) (fun c => eP a c b) + SM n (del (del m a) b) (fun c => eF a c b) := by
    rw [← SM_sub, ← SM_add]
    refine SM_congr fun c hc mc => ?_
    have q1 := del_of mc
    have q2 := del_of q1.1
    have := s.three a c b ha hc hb ne q2.2 q1.2
    have := s.anti c b hc hb
    omega
  have h4 := SM_const n (del (del m a) b) (X a b)
  have h5 := s.self ha
  have h6 := s.self hb
  have h7 := s.anti a b ha hb
  refine ⟨SM n (del (del m a) b) (fun c => eP a c b), SM n (del (del m a) b) (fun c => eF a c b), SM_nonneg fun i _ _ => EP.lo a i b, ?_, SM_nonneg fun i _ _ => EF.lo a i b, ?_, ?_⟩
  · have : SM n (del (del m a) b) (fun c => eP a c b) ≤ SM n (del (del m a) b) (fun _ => 1) := SM_le fun i _ _ => EP.hi a i b
    omega
  · have : SM n (del (del m a) b) (fun c => eF a c b) ≤ SM n (del (del m a) b) (fun _ => 1) := SM_le fun i _ _ => EF.hi a i b
    omega
  · have e : sz n m * X a b = SM n (del (del m a) b) (fun _ => 1) * X a b + X a b + X a b := by
      rw [z1, Int.add_mul, Int.add_mul]; omega
    omega
theorem mul_up {k x y : Int} (hk : 0 ≤ k) (h : x ≤ y) : k * x ≤ k * y := Int.mul_le_mul_of_nonneg_left h hk
/-- what the cocycle tells of two things of a mask -/
theorem tells (s : Sys n eP eF X) (EP : Eps n eP) (EF : Eps n eF) {m : Nat → Bool} {a b : Nat} (ha : a < n) (hb : b < n) (ne : a ≠ b) (ma : m a = true) (mb : m b = true) (N : vm n X m a - vm n X m b ≤ sz n m) (N' : vm n X m b - vm n X m a ≤ sz n m) :
    -1 ≤ X a b ∧ X a b ≤ 1 ∧ (1 ≤ X a b → vm n X m b + 2 ≤ vm n X m a) ∧ (X a b ≤ -1 → vm n X m a + 2 ≤ vm n X m b) ∧ (sz n m - 1 ≤ vm n X m a - vm n X m b → 1 ≤ X a b) := by
  obtain ⟨p, f, p0, p1, f0, f1, e⟩ := cocycleM s EP EF ha hb ne ma mb
  have z : 2 ≤ sz n m := by omega
  refine ⟨?_, ?_, fun h => ?_, fun h => ?_, fun h => ?_⟩
  · apply Classical.byContradiction
    intro q
    have := mul_up (k := sz n m) (by omega) (show X a b ≤ -2 by omega)
    omega
  · apply Classical.byContradiction
    intro q
    have := mul_up (k := sz n m) (by omega) (show 2 ≤ X a b by omega)
    omega
  · have := mul_up (k := sz n m) (by omega) h
    omega
  · have := mul_up (k := sz n m) (by omega) h
    omega
  · apply Classical.byContradiction
    intro q
    have := mul_up (k := sz n m) (by omega) (show X a b ≤ 0 by omega)
    omega
theorem quarterM (s : Sys n eP eF X) (EP : Eps n eP) (EF : Eps n eF) : ∀ (k : Nat) (m : Nat → Bool), sz n m ≤ k → (∀ a b, a < n → b < n → m a = true → m b = true → vm n X m a - vm n X m b ≤ sz n m) → 2 * DM n X m ≤ sz n m * sz n m := by
  intro k
  induction k using Nat.strongRecOn with
  | _ k ih =>
    intro m hk N
    have z0 : 0 ≤ sz n m := SM_nonneg fun _ _ _ => by decide
    by_cases two : ∃ a b, a < n ∧ b < n ∧ m a = true ∧ m b = true ∧ a ≠ b
    · obtain ⟨a0, b0, ha0, hb0, ma0, mb0, ne0⟩ := two
      obtain ⟨x, hx, mx, gx⟩ := greatest (p := fun i => m i = true) (vm n X m) ⟨a0, ha0, ma0⟩
      have other : ∃ c, c < n ∧ (m c = true ∧ c ≠ x) := by
        by_cases e : a0 = x
        · exact ⟨b0, hb0, mb0, fun z => ne0 (e.trans z.symm)⟩
        · exact ⟨a0, ha0, ma0, e⟩
      obtain ⟨y, hy, ⟨my, nyx⟩, ly⟩ := greatest (p := fun i => m i = true ∧ i ≠ x) (fun i => - vm n X m i) other
      have nxy : x ≠ y := Ne.symm nyx
      have least : ∀ c, c < n → m c = true → vm n X m y ≤ vm n X m c := fun c hc mc => by
        by_cases e : c = x
        · rw [e]; exact gx y hy my
        · have := ly c hc ⟨mc, e⟩
          omega
      have my' : del m x y = true := del_mk my nyx
      let m' := del (del m x) y
      have in' : ∀ c, m' c = true → m c = true ∧ c ≠ x ∧ c ≠ y := fun c hc => ⟨(del_of (del_of hc).1).1, (del_of (del_of hc).1).2, (del_of hc).2⟩
      have z1 : sz n m = sz n m' + 1 + 1 := by
        show SM n m _ = SM n m' _ + 1 + 1
        rw [SM_del _ hx mx, SM_del _ hy my']
      have z1' : 0 ≤ sz n m' := SM_nonneg fun _ _ _ => by decide
      have v1 : ∀ c, vm n X m c = vm n X m' c + X c y + X c x := fun c => by
        show SM n m _ = SM n m' _ + X c y + X c x
        rw [SM_del _ hx mx, SM_del _ hy my']
      have txy := tells s EP EF hx hy nxy mx my (N x y hx hy mx my) (N y x hy hx my mx)
      have tc : ∀ c, c < n → m' c = true → (X x c = 0 ∨ X x c = 1) ∧ (X c y = 0 ∨ X c y = 1) ∧ (X x c = 1 → vm n X m c + 2 ≤ vm n X m x) ∧ (X c y = 1 → vm n X m y + 2 ≤ vm n X m c) ∧
          (sz n m - 1 ≤ vm n X m x - vm n X m c → X x c = 1) ∧ (sz n m - 1 ≤ vm n X m c - vm n X m y → X c y = 1) := fun c hc mc => by
        obtain ⟨mc, ncx, ncy⟩ := in' c mc
        have t1 := tells s EP EF hx hc (Ne.symm ncx) mx mc (N x c hx hc mx mc) (N c x hc hx mc mx)
        have t2 := tells s EP EF hc hy ncy mc my (N c y hc hy mc my) (N y c hy hc my mc)
        have := gx c hc mc
        have := least c hc mc
        have p1 := t1.2.2.1
        have p2 := t1.2.2.2.1
        have p3 := t1.2.2.2.2
        have q1 := t2.2.2.1
        have q2 := t2.2.2.2.1
        have q3 := t2.2.2.2.2
        refine ⟨?_, ?_, ?_, ?_, ?_, ?_⟩ <;> omega
      have N' : ∀ a b, a < n → b < n → m' a = true → m' b = true → vm n X m' a - vm n X m' b ≤ sz n m' := fun a b ha hb ma mb => by
        have t1 := tc a ha ma
        have t2 := tc b hb mb
        have w1 := v1 a
        have w2 := v1 b
        have a1 := s.anti x a hx ha
        have a2 := s.anti x b hx hb
        have g1 := gx a ha (in' a ma).1
        have g2 := gx b hb (in' b mb).1
        have l1 := least a ha (in' a ma).1
        have l2 := least b hb (in' b mb).1
        have nn := N x y hx hy mx my
        obtain ⟨p1, p2, p3, p4, p5, p6⟩ := t1
        obtain ⟨q1, q2, q3, q4, q5, q6⟩ := t2
        rcases p1 with p1 | p1 <;> rcases p2 with p2 | p2 <;> rcases q1 with q1 | q1 <;> rcases q2 with q2 | q2 <;> omega
      have I := ih (sz n m').toNat (by omega) m' (by omega) N'
      -- the passes of x and of y
      have d1 : DM n X m = DM n X m' + 2 * (vm n X m x - vm n X m y - X x y) := by
        have row : ∀ i, SM n m (fun j => nab (X i j)) = SM n m' (fun j => nab (X i j)) + nab (X i y) + nab (X i x) := fun i => by
          rw [SM_del _ hx mx, SM_del _ hy my']
        have e1 : DM n X m = SM n m' (fun i => SM n m fun j => nab (X i j)) + SM n m (fun j => nab (X y j)) + SM n m (fun j => nab (X x j)) := by
          unfold DM
          rw [SM_del _ hx mx, SM_del _ hy my']
        have e2 : SM n m' (fun i => SM n m fun j => nab (X i j)) = DM n X m' + SM n m' (fun i => nab (X i y)) + SM n m' (fun i => nab (X i x)) := by
          unfold DM
          rw [← SM_add, ← SM_add]
          exact SM_congr fun i _ _ => row i
        have e3 : SM n m' (fun i => nab (X i y)) = SM n m' (fun i => X i y) := SM_congr fun i hi mi => by
          have := (tc i hi mi).2.1
          unfold nab
          omega
        have e4 : SM n m' (fun i => nab (X i x)) = SM n m' (fun i => X x i) := SM_congr fun i hi mi => by
          have := (tc i hi mi).1
          have := s.anti x i hx hi
          unfold nab
          omega
        have e5 : SM n m' (fun j => nab (X y j)) = SM n m' (fun i => X i y) := SM_congr fun i hi mi => by
          have := (tc i hi mi).2.1
          have := s.anti i y hi hy
          unfold nab
          omega
        have e6 : SM n m' (fun j => nab (X x j)) = SM n m' (fun i => X x i) := SM_congr fun i hi mi => by
          have := (tc i hi mi).1
          unfold nab
          omega
        have e7 := row y
        have e8 := row x
        have e9 : vm n X m x = SM n m' (fun i => X x i) + X x y + X x x := v1 x
        have e10 : vm n X m' y = SM n m' (fun i => 0 - X i y) := SM_congr fun i hi mi => by
          have := s.anti i y hi hy
          omega
        rw [SM_sub] at e10
        have e11 : SM n m' (fun _ => (0 : Int)) = 0 := by
          rw [SM_const]; omega
        have e12 := v1 y
        have e13 := s.self hx
        have e14 := s.self hy
        have e15 := s.anti x y hx hy
        have e16 := gx y hy my
        unfold nab at *
        omega
      have le : vm n X m x - vm n X m y - X x y ≤ sz n m - 1 := by
        have := N x y hx hy mx my
        have := txy.1
        have p1 := txy.2.1
        have p2 := txy.2.2.1
        have p3 := txy.2.2.2.2
        have p4 := txy.2.2.2.1
        have := gx y hy my
        omega
      have e : sz n m * sz n m = sz n m' * sz n m' + 4 * sz n m' + 4 := by
        rw [z1, show sz n m' + 1 + 1 = sz n m' + 2 by omega, Int.add_mul, Int.mul_add]; omega
      omega
    · have e : DM n X m = 0 := by
        have e1 : DM n X m = SM n m fun _ => 0 := SM_congr fun i hi mi => by
          have e2 : (SM n m fun j => nab (X i j)) = SM n m fun _ => 0 := SM_congr fun j hj mj => by
            have e3 : i = j := by
              apply Classical.byContradiction
              intro q
              exact two ⟨i, j, hi, hj, mi, mj, q⟩
            subst e3
            rw [s.self hi]
            rfl
          rw [e2, SM_const]; omega
        rw [e1, SM_const]; omega
      have := mul_up z0 z0
      omega
/-- THE MOST: normal ways have no more passes than a quarter of n * n (NN counts each pair twice) -/
theorem normal_most (s : Sys n eP eF X) (EP : Eps n eP) (EF : Eps n eF) (N : Nrm n X) : 2 * NN n X ≤ (n : Int) * n := by
  have z : sz n (fun _ => true) = n := by
    unfold sz SM
    refine (S_congr (g := fun _ => 1) fun i _ => if_pos rfl).trans ?_
    rw [S_const]; omega
  have v : ∀ a, vm n X (fun _ => true) a = vv n X a := fun a => S_congr fun i _ => if_pos rfl
  have d : DM n X (fun _ => true) = NN n X := S_congr fun i _ => (if_pos rfl).trans (S_congr fun j _ => if_pos rfl)
  have := quarterM s EP EF n (fun _ => true) (by omega) (fun a b ha hb _ _ => by rw [v, v, z]; exact N a b ha hb)
  rw [d, z] at this
  exact this
end
end RS
namespace RS
set_option autoImplicit false
/-! ## floors by n -/
theorem fl_two {n : Int} (hn : 0 < n) (s t : Int) : 0 ≤ (s + t) / n - s / n - t / n ∧ (s + t) / n - s / n - t / n ≤ 1 := by
  have hs := Int.mul_ediv_add_emod s n
  have ht := Int.mul_ediv_add_emod t n
  have h1 := Int.emod_nonneg s (show n ≠ 0 by omega)
  have h2 := Int.emod_lt_of_pos s hn
  have h3 := Int.emod_nonneg t (show n ≠ 0 by omega)
  have h4 := Int.emod_lt_of_pos t hn
  have e : (s + t) / n = (s % n + t % n) / n + (s / n + t / n) := by
    have : s + t = (s % n + t % n) + n * (s / n + t / n) := by rw [Int.mul_add]; omega
    rw [this, Int.add_mul_ediv_left _ _ (show n ≠ 0 by omega)]
  have d : 0 ≤ (s % n + t % n) / n := Int.ediv_nonneg (by omega) (by omega)
  have d2 : (s % n + t % n) / n < 2 := Int.ediv_lt_of_lt_mul hn (by omega)
  omega
theorem fl_neg {n : Int} (hn : 0 < n) {s : Int} (h : s % n ≠ 0) : (-s) / n = - (s / n) - 1 := by
  have hs := Int.mul_ediv_add_emod s n
  have h1 := Int.emod_nonneg s (show n ≠ 0 by omega)
  have h2 := Int.emod_lt_of_pos s hn
  have : -s = (n - s % n) + n * (- (s / n) - 1) := by
    rw [Int.mul_sub, Int.mul_neg]; omega
  rw [this, Int.add_mul_ediv_left _ _ (show n ≠ 0 by omega), Int.ediv_eq_zero_of_lt (by omega) (by omega)]
  omega
theorem fl_add {n : Int} (hn : 0 < n) (s k : Int) : (s + n * k) / n = s / n + k := Int.add_mul_ediv_left _ _ (show n ≠ 0 by omega)
theorem fl_small {n s : Int} (h0 : 0 ≤ s) (h : s < n) : s / n = 0 := Int.ediv_eq_zero_of_lt h0 h
theorem fl_back {n s : Int} (h0 : s < 0) (h : -n ≤ s) : s / n = -1 := by
  have hn : 0 < n := by omega
  have : s = (s + n) + n * (-1) := by omega
  rw [this, fl_add hn, fl_small (by omega) (by omega)]; rfl
theorem md_add {n : Int} (s k : Int) : (s + n * k) % n = s % n := by simp
/-! ## ways of places: L p, how far the thing at p goes -/
def F (L : Nat → Int) (p : Nat) : Int := (p : Int) + L p
/-- no two end at one place -/
def Apart (n : Nat) (L : Nat → Int) : Prop := ∀ i j, i < n → j < n → i ≠ j → (F L j - F L i) % (n : Int) ≠ 0
def XC (n : Nat) (L : Nat → Int) (i j : Nat) : Int := ((j : Int) - i) / (n : Int) - (F L j - F L i) / (n : Int)
def eC (n : Nat) (G : Nat → Int) (a c b : Nat) : Int := (G b - G a) / (n : Int) - (G c - G a) / (n : Int) - (G b - G c) / (n : Int)
theorem eC_eps {n : Nat} (hn : 0 < n) (G : Nat → Int) : Eps n (eC n G) := by
  have h : ∀ a c b, 0 ≤ eC n G a c b ∧ eC n G a c b ≤ 1 := fun a c b => by
    have := fl_two (n := (n : Int)) (by omega) (G c - G a) (G b - G c)
    have e : G c - G a + (G b - G c) = G b - G a := by omega
    rw [e] at this
    exact this
  exact ⟨fun a c b => (h a c b).1, fun a c b => (h a c b).2⟩
theorem md_places {n i j : Nat} (hi : i < n) (hj : j < n) (ne : i ≠ j) : ((j : Int) - i) % (n : Int) ≠ 0 := by
  intro q
  obtain ⟨k, e⟩ := Int.dvd_of_emod_eq_zero q
  rcases Int.lt_trichotomy k 0 with h | h | h
  · have := Int.mul_le_mul_of_nonneg_left (show k ≤ -1 by omega) (show (0 : Int) ≤ n by omega)
    omega
  · subst h; omega
  · have := Int.mul_le_mul_of_nonneg_left (show 1 ≤ k by omega) (show (0 : Int) ≤ n by omega)
    omega
theorem XC_sys {n : Nat} (hn : 0 < n) {L : Nat → Int} (A : Apart n L) : Sys n (eC n fun i => (i : Int)) (eC n (F L)) (XC n L) := by
  refine ⟨fun a b ha hb => ?_, fun a c b _ _ _ _ _ _ => ?_⟩
  · by_cases e : a = b
    · subst e
      unfold XC
      simp
    · have h1 := fl_neg (n := (n : Int)) (by omega) (md_places ha hb e)
      have h2 := fl_neg (n := (n : Int)) (by omega) (A a b ha hb e)
      unfold XC
      have e1 : (a : Int) - b = -((b : Int) - a) := by omega
      have e2 : F L a - F L b = -(F L b - F L a) := by omega
      rw [e1, e2, h1, h2]
      omega
  · unfold XC eC
    try dsimp only
    omega
theorem S_mod {n : Nat} (hn : 0 < n) {G : Nat → Int} (A : ∀ i j, i < n → j < n → i ≠ j → (G j - G i) % (n : Int) ≠ 0) (k : Int) : S n (fun c => (G c - k) % (n : Int)) = S n fun c => (c : Int) := by
  have npos : (0 : Int) < n := by omega
  have h0 : ∀ c, 0 ≤ (G c - k) % (n : Int) := fun c => Int.emod_nonneg _ (by omega)
  have h1 : ∀ c, (G c - k) % (n : Int) < n := fun c => Int.emod_lt_of_pos _ npos
  have := S_perm (n := n) (fun c => ((G c - k) % (n : Int)).toNat) (fun i _ => by have := h1 i; have := h0 i; omega) (fun i j hi hj e => by
    apply Classical.byContradiction
    intro ne
    apply A i j hi hj ne
    have e2 : (G i - k) % (n : Int) = (G j - k) % (n : Int) := by have := h0 i; have := h0 j; omega
    have e3 : G j - G i = (G j - k) - (G i - k) := by omega
    rw [e3, Int.sub_emod, e2]
    simp) fun i => (i : Int)
  rw [← this]
  refine S_congr fun c _ => ?_
  have := h0 c
  try dsimp only
  omega
theorem vv_XC {n : Nat} (hn : 0 < n) {L : Nat → Int} (A : Apart n L) (z : S n L = 0) {a : Nat} (_ : a < n) : vv n (XC n L) a = L a := by
  have npos : (0 : Int) < n := by omega
  have h1 := S_mod hn (G := fun i => (i : Int)) (fun i j hi hj ne => md_places hi hj ne) (a : Int)
  have h2 := S_mod hn (G := F L) A (F L a)
  have h3 : (n : Int) * vv n (XC n L) a = S n fun c => (n : Int) * XC n L a c := (S_mul n n _).symm
  have h4 : (S n fun c => (n : Int) * XC n L a c) = S n fun c => (((L a - L c) - (((c : Int) - a) % (n : Int))) + ((F L c - F L a) % (n : Int))) := S_congr fun c _ => by
    unfold XC
    rw [Int.mul_sub]
    have e1 := Int.mul_ediv_add_emod ((c : Int) - a) (n : Int)
    have e2 := Int.mul_ediv_add_emod (F L c - F L a) (n : Int)
    unfold F at *
    omega
  rw [S_add n (fun c => (L a - L c) - (((c : Int) - a) % (n : Int))) fun c => (F L c - F L a) % (n : Int), S_sub n (fun c => L a - L c) fun c => ((c : Int) - a) % (n : Int), S_sub n (fun _ => L a) L, S_const, h1, h2, z] at h4
  rw [h4] at h3
  have : (n : Int) * vv n (XC n L) a = (n : Int) * L a := by omega
  exact Int.eq_of_mul_eq_mul_left (by omega) this
/-! ## the count of passes -/
def shi (n : Nat) (L : Nat → Int) : Int := S n fun j => S j fun i => nab (((j : Int) - i + L j - L i) / (n : Int))
theorem S_tri {h : Nat → Nat → Int} (n : Nat) (sym : ∀ i j, i < n → j < n → h i j = h j i) (dia : ∀ i, i < n → h i i = 0) : (S n fun i => S n fun j => h i j) = 2 * S n fun j => S j fun i => h i j := by
  induction n with
  | zero => rfl
  | succ n ih =>
    have ih := ih (fun i j hi hj => sym i j (by omega) (by omega)) fun i hi => dia i (by omega)
    show (S n fun i => S n (fun j => h i j) + h i n) + (S n (fun j => h n j) + h n n) = 2 * ((S n fun j => S j fun i => h i j) + S n fun i => h i n)
    rw [S_add n (fun i => S n fun j => h i j) fun i => h i n, ih, dia n (by omega)]
    have : S n (fun j => h n j) = S n fun i => h i n := S_congr fun j hj => sym n j (by omega) (by omega)
    rw [this]
    omega
theorem NN_shi {n : Nat} (hn : 0 < n) {L : Nat → Int} (A : Apart n L) : NN n (XC n L) = 2 * shi n L := by
  have s := XC_sys hn A
  have h1 := S_tri (h := fun i j => nab (XC n L i j)) n (fun i j hi hj => by
    have := s.anti i j hi hj
    try dsimp only
    unfold nab
    omega) fun i hi => by
    try dsimp only
    rw [s.self hi]; rfl
  refine Eq.trans h1 ?_
  unfold shi
  congr 1
  refine S_congr fun j hj => S_congr fun i hi => ?_
  unfold XC F
  have e1 : ((j : Int) - i) / (n : Int) = 0 := fl_small (by omega) (by omega)
  have e2 : ((j : Int) + L j - ((i : Int) + L i)) = (j : Int) - i + L j - L i := by omega
  rw [e1, e2]
  unfold nab
  omega
theorem shi_nonneg (n : Nat) (L : Nat → Int) : 0 ≤ shi n L := S_nonneg fun i _ => S_nonneg fun j _ => by unfold nab; omega
theorem shi_congr {n : Nat} {L M : Nat → Int} (h : ∀ i, i < n → L i = M i) : shi n L = shi n M := S_congr fun j hj => S_congr fun i hi => by
  rw [h j hj, h i (by omega)]
/-! ## ways of a row -/
structure Row (n : Nat) (r : Nat → Int) : Prop where
  pos : 0 < n
  lo : ∀ p, p < n → 0 ≤ r p
  hi : ∀ p, p < n → r p < n
  inj : ∀ p q, p < n → q < n → r p = r q → p = q
structure Val (n : Nat) (r L : Nat → Int) : Prop where
  cong : ∀ p, p < n → ((p : Int) + L p - r p) % (n : Int) = 0
  sum : S n L = 0
/-- none greater than another by more than there are places -/
def Nor (n : Nat) (L : Nat → Int) : Prop := ∀ i j, i < n → j < n → L i - L j ≤ (n : Int)
theorem md_small {n x : Int} (h : x % n = 0) (h1 : -n < x) (h2 : x < n) : x = 0 := by
  obtain ⟨k, e⟩ := Int.dvd_of_emod_eq_zero h
  rcases Int.lt_trichotomy k 0 with h | h | h
  · have := Int.mul_le_mul_of_nonneg_left (show k ≤ -1 by omega) (show (0 : Int) ≤ n by omega)
    omega
  · subst h; omega
  · have := Int.mul_le_mul_of_nonneg_left (show 1 ≤ k by omega) (show (0 : Int) ≤ n by omega)
    omega
theorem Val.apart {n : Nat} {r L : Nat → Int} (R : Row n r) (V : Val n r L) : Apart n L := by
  intro i j hi hj ne q
  have h1 := V.cong i hi
  have h2 := V.cong j hj
  have : (r j - r i) % (n : Int) = 0 := by
    have e : r j - r i = (F L j - F L i) - (((j : Int) + L j - r j) - ((i : Int) + L i - r i)) := by unfold F; omega
    rw [e, Int.sub_emod, q, Int.sub_emod ((j : Int) + L j - r j), h1, h2]
    simp
  have l1 := R.lo i hi
  have l2 := R.lo j hj
  have u1 := R.hi i hi
  have u2 := R.hi j hj
  have := md_small this (by omega) (by omega)
  exact ne (R.inj i j hi hj (by omega))
/-- two ways of one row differ by rounds, together none -/
theorem Val.rounds {n : Nat} {r L M : Nat → Int} (hn : 0 < n) (V : Val n r L) (W : Val n r M) : ∃ z, S n z = 0 ∧ ∀ p, p < n → M p = L p + (n : Int) * z p := by
  have e : ∀ p, p < n → M p = L p + (n : Int) * ((M p - L p) / (n : Int)) := fun p hp => by
    have h1 := V.cong p hp
    have h2 := W.cong p hp
    have h3 : (M p - L p) % (n : Int) = 0 := by
      have e : M p - L p = ((p : Int) + M p - r p) - ((p : Int) + L p - r p) := by omega
      rw [e, Int.sub_emod, h1, h2]
      simp
    have := Int.mul_ediv_add_emod (M p - L p) (n : Int)
    omega
  refine ⟨fun p => (M p - L p) / (n : Int), ?_, e⟩
  have h1 := S_mul n (n : Int) fun p => (M p - L p) / (n : Int)
  have h2 : S n (fun p => (n : Int) * ((M p - L p) / (n : Int))) = S n fun p => M p - L p := S_congr fun p hp => by have := e p hp; omega
  rw [h2, S_sub, V.sum, W.sum] at h1
  have : (n : Int) * S n (fun p => (M p - L p) / (n : Int)) = (n : Int) * 0 := by omega
  exact Int.eq_of_mul_eq_mul_left (by omega) this
theorem XC_z {n : Nat} (hn : 0 < n) {L M z : Nat → Int} (e : ∀ p, p < n → M p = L p + (n : Int) * z p) {i j : Nat} (hi : i < n) (hj : j < n) : XC n M i j = zX z (XC n L) i j := by
  unfold XC zX F
  have h : ((j : Int) + M j - ((i : Int) + M i)) = ((j : Int) + L j - ((i : Int) + L i)) + (n : Int) * (z j - z i) := by
    rw [e i hi, e j hj, Int.mul_sub]; omega
  rw [h, fl_add (by omega)]
  show _ = ((j : Int) - i) / (n : Int) - ((j : Int) + L j - ((i : Int) + L i)) / (n : Int) + z i - z j
  omega
theorem Nor.nrm {n : Nat} (hn : 0 < n) {L : Nat → Int} (A : Apart n L) (z : S n L = 0) (N : Nor n L) : Nrm n (XC n L) := fun a b ha hb => by
  rw [vv_XC hn A z ha, vv_XC hn A z hb]
  exact N a b ha hb
/-- THE LEAST -/
theorem shi_least {n : Nat} {r L M : Nat → Int} (R : Row n r) (V : Val n r L) (N : Nor n L) (W : Val n r M) : shi n L ≤ shi n M := by
  obtain ⟨z, z0, e⟩ := V.rounds R.pos W
  have A := V.apart R
  have h := normal_least (XC_sys R.pos A) (eC_eps R.pos _) (eC_eps R.pos _) (N.nrm R.pos A V.sum) z z0
  have h2 := NN_congr (n := n) fun i j hi hj => XC_z R.pos e hi hj
  rw [← h2, NN_shi R.pos A, NN_shi R.pos (W.apart R)] at h
  omega
theorem shi_same {n : Nat} {r L M : Nat → Int} (R : Row n r) (V : Val n r L) (N : Nor n L) (W : Val n r M) (N' : Nor n M) : shi n L = shi n M :=
  Int.le_antisymm (shi_least R V N W) (shi_least R W N' V)
/-- THE MOST -/
theorem shi_most {n : Nat} {r L : Nat → Int} (R : Row n r) (V : Val n r L) (N : Nor n L) : shi n L ≤ ((n : Int) * n) / 4 := by
  have A := V.apart R
  have h := normal_most (XC_sys R.pos A) (eC_eps R.pos _) (eC_eps R.pos _) (N.nrm R.pos A V.sum)
  rw [NN_shi R.pos A] at h
  omega
/-- any ways can be made normal -/
theorem nor_ex {n : Nat} {r L : Nat → Int} (R : Row n r) (V : Val n r L) : ∃ M, Val n r M ∧ Nor n M := by
  have A := V.apart R
  obtain ⟨z, z0, zN, _⟩ := normal_of (XC_sys R.pos A) (eC_eps R.pos _) (eC_eps R.pos _)
  have V' : Val n r fun p => L p + (n : Int) * z p := by
    refine ⟨fun p hp => ?_, ?_⟩
    · have e : (p : Int) + (L p + (n : Int) * z p) - r p = ((p : Int) + L p - r p) + (n : Int) * z p := by omega
      rw [e, md_add, V.cong p hp]
    · rw [S_add, V.sum, S_mul, z0]; simp
  refine ⟨_, V', fun i j hi hj => ?_⟩
  have h := zN i j hi hj
  have e : ∀ a, a < n → vv n (zX z (XC n L)) a = vv n (XC n fun p => L p + (n : Int) * z p) a := fun a ha => vv_congr (fun i j hi hj => (XC_z R.pos (fun p _ => rfl) hi hj).symm) ha
  rw [e i hi, e j hj, vv_XC R.pos (V'.apart R) V'.sum hi, vv_XC R.pos (V'.apart R) V'.sum hj] at h
  exact h
/-! ## odd and even -/
theorem S_even {n : Nat} {f g : Nat → Int} (h : ∀ i, i < n → (f i - g i) % 2 = 0) : (S n f - S n g) % 2 = 0 := by
  induction n with
  | zero => rfl
  | succ n ih =>
    have h1 := ih fun i hi => h i (by omega)
    have h2 := h n (by omega)
    show ((S n f + f n) - (S n g + g n)) % 2 = 0
    omega
theorem tri_even (z : Nat → Int) (n : Nat) : ((S n fun j => S j fun i => z j - z i) - ((n : Int) - 1) * S n z) % 2 = 0 := by
  induction n with
  | zero => simp [S]
  | succ n ih =>
    show (((S n fun j => S j fun i => z j - z i) + S n fun i => z n - z i) - (((n + 1 : Nat) : Int) - 1) * (S n z + z n)) % 2 = 0
    rw [S_sub n (fun _ => z n) z, S_const, Int.natCast_succ]
    have e : ((n : Int) + 1 - 1) * (S n z + z n) = ((n : Int) - 1) * S n z + S n z + (n : Int) * z n := by
      have : ((n : Int) + 1 - 1) = n := by omega
      rw [this, Int.mul_add, Int.sub_mul]; omega
    rw [e]
    omega
theorem shi_even {n : Nat} {r L M : Nat → Int} (R : Row n r) (V : Val n r L) (W : Val n r M) : (shi n M - shi n L) % 2 = 0 := by
  obtain ⟨z, z0, e⟩ := V.rounds R.pos W
  have h0 := tri_even z n
  rw [z0, Int.mul_zero] at h0
  have h1 : (shi n M - S n fun j => S j fun i => nab (((j : Int) - i + L j - L i) / (n : Int)) + (z j - z i)) % 2 = 0 := S_even fun j hj => S_even fun i hi => by
    have e1 : (j : Int) - i + M j - M i = ((j : Int) - i + L j - L i) + (n : Int) * (z j - z i) := by
      rw [e j hj, e i (by omega), Int.mul_sub]; omega
    have npos := R.pos
    rw [e1, fl_add (by omega)]
    unfold nab
    omega
  have h2 : (S n fun j => S j fun i => nab (((j : Int) - i + L j - L i) / (n : Int)) + (z j - z i)) = shi n L + S n fun j => S j fun i => z j - z i := by
    unfold shi
    rw [← S_add]
    exact S_congr fun j _ => S_add j _ _
  rw [h2] at h1
  omega
/-! ## an exchange -/
def nx (n p : Nat) : Nat := (p + 1) % n
theorem nx_lt {n p : Nat} (hp : p < n) : nx n p < n := Nat.mod_lt _ (by omega)
theorem nx_cases {n p : Nat} (hp : p < n) : (p + 1 < n ∧ nx n p = p + 1) ∨ (p + 1 = n ∧ nx n p = 0) := by
  unfold nx
  by_cases h : p + 1 < n
  · exact .inl ⟨h, Nat.mod_eq_of_lt h⟩
  · have e : p + 1 = n := by omega
    exact .inr ⟨e, by rw [e, Nat.mod_self]⟩
/-- the row behind an exchange at p, the ways behind it -/
def swR (n : Nat) (r : Nat → Int) (p : Nat) : Nat → Int := fun i => r (tr p (nx n p) i)
def swL (n : Nat) (L : Nat → Int) (p : Nat) : Nat → Int := fun i => if i = p then L (nx n p) + 1 else if i = nx n p then L p - 1 else L i
theorem tr_a {a b : Nat} : tr a b a = b := by unfold tr; rw [if_pos rfl]
theorem tr_b {a b : Nat} : tr a b b = a := by
  unfold tr
  by_cases h : b = a
  · rw [if_pos h, h]
  · rw [if_neg h, if_pos rfl]
theorem tr_o {a b i : Nat} (h : i ≠ a) (h' : i ≠ b) : tr a b i = i := by unfold tr; rw [if_neg h, if_neg h']
theorem tr_tr {a b i : Nat} : tr a b (tr a b i) = i := by
  by_cases h : i = a
  · rw [h, tr_a, tr_b]
  · by_cases h' : i = b
    · rw [h', tr_b, tr_a]
    · rw [tr_o h h', tr_o h h']
theorem Row.sw {n p : Nat} {r : Nat → Int} (R : Row n r) (hp : p < n) : Row n (swR n r p) := by
  have hq := nx_lt hp
  refine ⟨R.pos, fun i hi => R.lo _ (tr_lt hp hq hi), fun i hi => R.hi _ (tr_lt hp hq hi), fun i j hi hj e => ?_⟩
  have := R.inj _ _ (tr_lt hp hq hi) (tr_lt hp hq hj) e
  have h := congrArg (tr p (nx n p)) this
  rwa [tr_tr, tr_tr] at h
theorem swL_sum {n p : Nat} {L : Nat → Int} (two : 2 ≤ n) (hp : p < n) : S n (swL n L p) = S n L := by
  have hq := nx_lt hp
  have ne : p ≠ nx n p := by rcases nx_cases hp with h | h <;> omega
  have h1 := S_ex2 (swL n L p) hp hq ne
  have h2 := S_ex2 L hp hq ne
  have h3 : S n (ex2 p (nx n p) (swL n L p)) = S n (ex2 p (nx n p) L) := S_congr fun i _ => by
    unfold ex2
    by_cases e : i = p ∨ i = nx n p
    · rw [if_pos e, if_pos e]
    · rw [if_neg e, if_neg e]
      unfold swL
      rw [if_neg (by omega), if_neg (by omega)]
  have h4 : swL n L p p = L (nx n p) + 1 := by unfold swL; rw [if_pos rfl]
  have h5 : swL n L p (nx n p) = L p - 1 := by unfold swL; rw [if_neg (Ne.symm ne), if_pos rfl]
  omega
theorem Val.sw {n p : Nat} {r L : Nat → Int} (two : 2 ≤ n) (V : Val n r L) (hp : p < n) : Val n (swR n r p) (swL n L p) := by
  have hq := nx_lt hp
  refine ⟨fun i hi => ?_, (swL_sum two hp).trans V.sum⟩
  unfold swR swL
  by_cases e : i = p
  · rw [if_pos e, e, tr_a]
    have := V.cong _ hq
    rcases nx_cases hp with h | h
    · have e2 : (p : Int) + (L (nx n p) + 1) - r (nx n p) = ((nx n p : Nat) : Int) + L (nx n p) - r (nx n p) := by omega
      rw [e2]; exact this
    · have e2 : (p : Int) + (L (nx n p) + 1) - r (nx n p) = (((nx n p : Nat) : Int) + L (nx n p) - r (nx n p)) + (n : Int) * 1 := by omega
      rw [e2, md_add]; exact this
  · rw [if_neg e]
    by_cases e' : i = nx n p
    · rw [if_pos e', e', tr_b]
      have := V.cong _ hp
      rcases nx_cases hp with h | h
      · have e2 : ((nx n p : Nat) : Int) + (L p - 1) - r p = (p : Int) + L p - r p := by omega
        rw [e2]; exact this
      · have e2 : ((nx n p : Nat) : Int) + (L p - 1) - r p = ((p : Int) + L p - r p) + (n : Int) * (-1) := by omega
        rw [e2, md_add]; exact this
    · rw [if_neg e', tr_o e e']
      exact V.cong i hi
/-- one entry of an antisymmetric system raised -/
theorem NN_entry {n p q : Nat} {Y Z : Nat → Nat → Int} (hp : p < n) (hq : q < n) (ne : p ≠ q) (anti : Y q p = - Y p q) (h1 : Z p q = Y p q + 1) (h2 : Z q p = Y q p - 1)
    (h : ∀ i j, i < n → j < n → ¬ (i = p ∧ j = q) → ¬ (i = q ∧ j = p) → Z i j = Y i j) : NN n Z = NN n Y + 2 * (nab (Y p q + 1) - nab (Y p q)) := by
  have d : NN n Z - NN n Y = S n fun i => S n fun j => nab (Z i j) - nab (Y i j) := by
    unfold NN
    rw [← S_sub]
    exact S_congr fun i _ => (S_sub n _ _).symm
  have rest : ∀ i, i < n → i ≠ p → i ≠ q → (S n fun j => nab (Z i j) - nab (Y i j)) = 0 := fun i hi e e' => by
    refine (S_congr (g := fun _ => 0) fun j hj => ?_).trans (S_zero n)
    rw [h i j hi hj (fun z => e z.1) fun z => e' z.1]; omega
  have rp : (S n fun j => nab (Z p j) - nab (Y p j)) = nab (Y p q + 1) - nab (Y p q) := by
    have h3 := S_ex1 (fun j => nab (Z p j) - nab (Y p j)) hq
    have h4 : S n (ex1 q fun j => nab (Z p j) - nab (Y p j)) = 0 := by
      refine (S_congr (g := fun _ => 0) fun j hj => ?_).trans (S_zero n)
      unfold ex1
      by_cases e : j = q
      · rw [if_pos e]
      · rw [if_neg e]
        try dsimp only
        rw [h p j hp hj (fun z => e z.2) fun z => ne z.1]; omega
    try dsimp only at h3
    rw [h1] at h3
    omega
  have rq : (S n fun j => nab (Z q j) - nab (Y q j)) = nab (Y p q + 1) - nab (Y p q) := by
    have h3 := S_ex1 (fun j => nab (Z q j) - nab (Y q j)) hp
    have h4 : S n (ex1 p fun j => nab (Z q j) - nab (Y q j)) = 0 := by
      refine (S_congr (g := fun _ => 0) fun j hj => ?_).trans (S_zero n)
      unfold ex1
      by_cases e : j = p
      · rw [if_pos e]
      · rw [if_neg e]
        try dsimp only
        rw [h q j hq hj (fun z => ne z.1.symm) fun z => e z.2]; omega
    try dsimp only at h3
    rw [h2] at h3
    unfold nab at *
    omega
  have h5 := S_ex2 (fun i => S n fun j => nab (Z i j) - nab (Y i j)) hp hq ne
  have h6 : S n (ex2 p q fun i => S n fun j => nab (Z i j) - nab (Y i j)) = 0 := by
    refine (S_congr (g := fun _ => 0) fun i hi => ?_).trans (S_zero n)
    unfold ex2
    by_cases e : i = p ∨ i = q
    · rw [if_pos e]
    · rw [if_neg e]
      exact rest i hi (by omega) (by omega)
  try dsimp only at h5
  rw [rp, rq, h6] at h5
  omega
theorem NN_tr {n p q : Nat} (X : Nat → Nat → Int) (hp : p < n) (hq : q < n) : NN n (fun i j => X (tr p q i) (tr p q j)) = NN n X := by
  unfold NN
  have : (S n fun i => S n fun j => nab (X (tr p q i) (tr p q j))) = S n fun i => S n fun j => nab (X (tr p q i) j) := S_congr fun i _ => S_tr (fun j => nab (X (tr p q i) j)) hp hq
  rw [this]
  exact S_tr (fun i => S n fun j => nab (X i j)) hp hq
/-- THE STEP: an exchange changes the passes by one; by one fewer where the first one goes farther -/
theorem shi_step {n p : Nat} {r L : Nat → Int} (two : 2 ≤ n) (R : Row n r) (V : Val n r L) (hp : p < n) :
    (L (nx n p) < L p → shi n (swL n L p) = shi n L - 1) ∧ (L p ≤ L (nx n p) → shi n (swL n L p) = shi n L + 1) := by
  have hq := nx_lt hp
  have A := V.apart R
  have R' := R.sw hp
  have V' := V.sw two hp
  have A' := V'.apart R'
  have npos : (0 : Int) < n := by omega
  have ne : p ≠ nx n p := by rcases nx_cases hp with h | h <;> omega
  have s := XC_sys R.pos A
  have fp : F (swL n L p) p = (p : Int) + (L (nx n p) + 1) := by unfold F swL; rw [if_pos rfl]
  have fq : F (swL n L p) (nx n p) = ((nx n p : Nat) : Int) + (L p - 1) := by unfold F swL; rw [if_neg (Ne.symm ne), if_pos rfl]
  have fo : ∀ i, i ≠ p → i ≠ nx n p → F (swL n L p) i = F L i := fun i h h' => by unfold F swL; rw [if_neg h, if_neg h']
  have main : NN n (XC n (swL n L p)) = NN n (fun i j => XC n L (tr p (nx n p) i) (tr p (nx n p) j)) + 2 * (nab (XC n L (nx n p) p + 1) - nab (XC n L (nx n p) p)) := by
    have an := s.anti p (nx n p) hp hq
    have := NN_entry (n := n) (p := p) (q := nx n p) (Y := fun i j => XC n L (tr p (nx n p) i) (tr p (nx n p) j)) (Z := XC n (swL n L p)) hp hq ne
      (by rw [tr_a, tr_b]; omega) ?_ ?_ ?_
    · try dsimp only at this
      rw [tr_a, tr_b] at this
      exact this
    · try dsimp only
      rw [tr_a, tr_b]
      unfold XC
      rw [fp, fq]
      rcases nx_cases hp with ⟨h, e⟩ | ⟨h, e⟩
      · rw [e]
        have e1 : (((p + 1 : Nat) : Int) - p) / (n : Int) = 0 := fl_small (by omega) (by omega)
        have e2 : ((p : Int) - ((p + 1 : Nat) : Int)) / (n : Int) = -1 := fl_back (by omega) (by omega)
        have e3 : (((p + 1 : Nat) : Int) + (L p - 1) - ((p : Int) + (L (p + 1) + 1))) = F L p - F L (p + 1) := by unfold F; omega
        rw [e1, e2, e3]; omega
      · rw [e]
        have e1 : (((0 : Nat) : Int) - p) / (n : Int) = -1 := fl_back (by omega) (by omega)
        have e2 : ((p : Int) - ((0 : Nat) : Int)) / (n : Int) = 0 := fl_small (by omega) (by omega)
        have e3 : (((0 : Nat) : Int) + (L p - 1) - ((p : Int) + (L 0 + 1))) = (F L p - F L 0) + (n : Int) * (-2) := by unfold F; omega
        rw [e1, e2, e3, fl_add npos]; omega
    · try dsimp only
      rw [tr_a, tr_b]
      unfold XC
      rw [fp, fq]
      rcases nx_cases hp with ⟨h, e⟩ | ⟨h, e⟩
      · rw [e]
        have e1 : (((p + 1 : Nat) : Int) - p) / (n : Int) = 0 := fl_small (by omega) (by omega)
        have e2 : ((p : Int) - ((p + 1 : Nat) : Int)) / (n : Int) = -1 := fl_back (by omega) (by omega)
        have e3 : ((p : Int) + (L (p + 1) + 1) - (((p + 1 : Nat) : Int) + (L p - 1))) = F L (p + 1) - F L p := by unfold F; omega
        rw [e1, e2, e3]; omega
      · rw [e]
        have e1 : (((0 : Nat) : Int) - p) / (n : Int) = -1 := fl_back (by omega) (by omega)
        have e2 : ((p : Int) - ((0 : Nat) : Int)) / (n : Int) = 0 := fl_small (by omega) (by omega)
        have e3 : ((p : Int) + (L 0 + 1) - (((0 : Nat) : Int) + (L p - 1))) = (F L 0 - F L p) + (n : Int) * 2 := by unfold F; omega
        rw [e1, e2, e3, fl_add npos]; omega
    · intro i j hi hj no1 no2
      try dsimp only
      -- how far i, j and their exchanged places are; the wrap carries a round
      have key : ∀ k, k < n → k ≠ p → k ≠ nx n p → (((k : Int) - p) / (n : Int) - (F L k - F (swL n L p) p) / (n : Int) = ((k : Int) - ((nx n p : Nat) : Int)) / (n : Int) - (F L k - F L (nx n p)) / (n : Int)) ∧
          (((k : Int) - ((nx n p : Nat) : Int)) / (n : Int) - (F L k - F (swL n L p) (nx n p)) / (n : Int) = ((k : Int) - p) / (n : Int) - (F L k - F L p) / (n : Int)) ∧
          (((p : Int) - k) / (n : Int) - (F (swL n L p) p - F L k) / (n : Int) = (((nx n p : Nat) : Int) - k) / (n : Int) - (F L (nx n p) - F L k) / (n : Int)) ∧
          ((((nx n p : Nat) : Int) - k) / (n : Int) - (F (swL n L p) (nx n p) - F L k) / (n : Int) = ((p : Int) - k) / (n : Int) - (F L p - F L k) / (n : Int)) := by
        intro k hk kp kq
        rw [fp, fq]
        rcases nx_cases hp with ⟨h, e⟩ | ⟨h, e⟩
        · rw [e] at kq ⊢
          have e1 : (p : Int) + (L (p + 1) + 1) = F L (p + 1) := by unfold F; omega
          have e2 : ((p + 1 : Nat) : Int) + (L p - 1) = F L p := by unfold F; omega
          rw [e1, e2]
          by_cases lt : k < p
          · have d1 : ((k : Int) - p) / (n : Int) = -1 := fl_back (by omega) (by omega)
            have d2 : ((k : Int) - ((p + 1 : Nat) : Int)) / (n : Int) = -1 := fl_back (by omega) (by omega)
            have d3 : ((p : Int) - k) / (n : Int) = 0 := fl_small (by omega) (by omega)
            have d4 : (((p + 1 : Nat) : Int) - k) / (n : Int) = 0 := fl_small (by omega) (by omega)
            rw [d1, d2, d3, d4]
            exact ⟨rfl, rfl, rfl, rfl⟩
          · have d1 : ((k : Int) - p) / (n : Int) = 0 := fl_small (by omega) (by omega)
            have d2 : ((k : Int) - ((p + 1 : Nat) : Int)) / (n : Int) = 0 := fl_small (by omega) (by omega)
            have d3 : ((p : Int) - k) / (n : Int) = -1 := fl_back (by omega) (by omega)
            have d4 : (((p + 1 : Nat) : Int) - k) / (n : Int) = -1 := fl_back (by omega) (by omega)
            rw [d1, d2, d3, d4]
            exact ⟨rfl, rfl, rfl, rfl⟩
        · rw [e] at kq ⊢
          have d1 : ((k : Int) - p) / (n : Int) = -1 := fl_back (by omega) (by omega)
          have d2 : ((k : Int) - ((0 : Nat) : Int)) / (n : Int) = 0 := fl_small (by omega) (by omega)
          have d3 : ((p : Int) - k) / (n : Int) = 0 := fl_small (by omega) (by omega)
          have d4 : (((0 : Nat) : Int) - k) / (n : Int) = -1 := fl_back (by omega) (by omega)
          have f1 : F L k - ((p : Int) + (L 0 + 1)) = (F L k - F L 0) + (n : Int) * (-1) := by unfold F; omega
          have f2 : F L k - (((0 : Nat) : Int) + (L p - 1)) = (F L k - F L p) + (n : Int) * 1 := by unfold F; omega
          have f3 : ((p : Int) + (L 0 + 1)) - F L k = (F L 0 - F L k) + (n : Int) * 1 := by unfold F; omega
          have f4 : (((0 : Nat) : Int) + (L p - 1)) - F L k = (F L p - F L k) + (n : Int) * (-1) := by unfold F; omega
          rw [d1, d2, d3, d4, f1, f2, f3, f4, fl_add npos, fl_add npos, fl_add npos, fl_add npos]
          refine ⟨?_, ?_, ?_, ?_⟩ <;> omega
      by_cases ip : i = p
      · subst ip
        by_cases jp : j = i
        · subst jp
          unfold XC; simp
        · by_cases jq : j = nx n i
          · exact (no1 ⟨rfl, jq⟩).elim
          · rw [tr_a, tr_o jp jq]
            unfold XC
            rw [fo j jp jq]
            exact (key j hj jp jq).1
      · by_cases iq : i = nx n p
        · subst iq
          by_cases jp : j = p
          · exact (no2 ⟨rfl, jp⟩).elim
          · by_cases jq : j = nx n p
            · subst jq
              unfold XC; simp
            · rw [tr_b, tr_o jp jq]
              unfold XC
              rw [fo j jp jq]
              exact (key j hj jp jq).2.1
        · rw [tr_o ip iq]
          by_cases jp : j = p
          · subst jp
            rw [tr_a]
            unfold XC
            rw [fo i ip iq]
            exact (key i hi ip iq).2.2.1
          · by_cases jq : j = nx n p
            · subst jq
              rw [tr_b]
              unfold XC
              rw [fo i ip iq]
              exact (key i hi ip iq).2.2.2
            · rw [tr_o jp jq]
              unfold XC
              rw [fo i ip iq, fo j jp jq]
  rw [NN_tr _ hp hq, NN_shi R.pos A, NN_shi R.pos A'] at main
  -- which of the two passes
  have an := s.anti p (nx n p) hp hq
  have xe : XC n L p (nx n p) = - ((1 + L (nx n p) - L p) / (n : Int)) := by
    unfold XC F
    rcases nx_cases hp with ⟨h, e⟩ | ⟨h, e⟩
    · rw [e]
      have e1 : (((p + 1 : Nat) : Int) - p) / (n : Int) = 0 := fl_small (by omega) (by omega)
      have e2 : (((p + 1 : Nat) : Int) + L (p + 1) - ((p : Int) + L p)) = 1 + L (p + 1) - L p := by omega
      rw [e1, e2]; omega
    · rw [e]
      have e1 : (((0 : Nat) : Int) - p) / (n : Int) = -1 := fl_back (by omega) (by omega)
      have e2 : (((0 : Nat) : Int) + L 0 - ((p : Int) + L p)) = (1 + L 0 - L p) + (n : Int) * (-1) := by omega
      rw [e1, e2, fl_add npos]; omega
  constructor
  · intro h
    have d : (1 + L (nx n p) - L p) / (n : Int) ≤ -1 := by
      have ne0 : 1 + L (nx n p) - L p ≠ 0 := by
        intro z
        apply A p (nx n p) hp hq ne
        unfold F
        rcases nx_cases hp with ⟨h, e⟩ | ⟨h, e⟩
        · have : ((nx n p : Nat) : Int) + L (nx n p) - ((p : Int) + L p) = 0 := by omega
          rw [this]; simp
        · have : ((nx n p : Nat) : Int) + L (nx n p) - ((p : Int) + L p) = 0 + (n : Int) * (-1) := by omega
          rw [this, md_add]; simp
      have : (1 + L (nx n p) - L p) / (n : Int) < 0 := Int.ediv_neg_of_neg_of_pos (by omega) npos
      omega
    unfold nab at main
    omega
  · intro h
    have d : 0 ≤ (1 + L (nx n p) - L p) / (n : Int) := Int.ediv_nonneg (by omega) (by omega)
    unfold nab at main
    omega
/-- where none goes farther than the next one, all are at home -/
theorem home {n : Nat} {L : Nat → Int} (hn : 0 < n) (z : S n L = 0) (h : ∀ p, p < n → L p ≤ L (nx n p)) : ∀ p, p < n → L p = 0 := by
  have up : ∀ k, k < n → L 0 ≤ L k := fun k => by
    induction k with
    | zero => intro _; exact Int.le_refl _
    | succ k ih =>
      intro hk
      have h1 := ih (by omega)
      have h2 := h k (by omega)
      have e : nx n k = k + 1 := Nat.mod_eq_of_lt hk
      rw [e] at h2
      omega
  have down : ∀ d k, k + d + 1 = n → L k ≤ L 0 := fun d => by
    induction d with
    | zero =>
      intro k hk
      have h2 := h k (by omega)
      have e : nx n k = 0 := by unfold nx; rw [show k + 1 = n by omega, Nat.mod_self]
      rwa [e] at h2
    | succ d ih =>
      intro k hk
      have h1 := ih (k + 1) (by omega)
      have h2 := h k (by omega)
      have e : nx n k = k + 1 := Nat.mod_eq_of_lt (by omega)
      rw [e] at h2
      omega
  have eq : ∀ p, p < n → L p = L 0 := fun p hp => Int.le_antisymm (down (n - 1 - p) p (by omega)) (up p hp)
  have h1 : S n L = S n fun _ => L 0 := S_congr eq
  rw [S_const, z] at h1
  have h2 : L 0 = 0 := by
    have : (n : Int) * L 0 = (n : Int) * 0 := by omega
    exact Int.eq_of_mul_eq_mul_left (by omega) this
  intro p hp
  rw [eq p hp, h2]
theorem home_row {n : Nat} {r L : Nat → Int} (R : Row n r) (V : Val n r L) (h : ∀ p, p < n → L p = 0) : ∀ p, p < n → r p = p := fun p hp => by
  have h1 := V.cong p hp
  have h2 := R.lo p hp
  have h3 := R.hi p hp
  rw [h p hp] at h1
  have := md_small h1 (by omega) (by omega)
  omega
theorem shi_home {n : Nat} {L : Nat → Int} (h : ∀ p, p < n → L p = 0) : shi n L = 0 := by
  refine (S_congr (g := fun _ => 0) fun j hj => ?_).trans (S_zero n)
  refine (S_congr (g := fun _ => 0) fun i hi => ?_).trans (S_zero j)
  rw [h j hj, h i (by omega), fl_small (by omega) (by omega)]
  rfl
end RS
namespace RS
set_option autoImplicit false
/-! ## lists: a row, exchanges, ways -/
def fr (l : List Int) : Nat → Int := fun i => l.getD i 0
def ids (n : Nat) : List Int := (List.range n).map fun i : Nat => (i : Int)
/-- an exchange at p, as the program does it -/
def swp (l : List Int) (p : Int) : List Int := (l.set p.toNat (l.getD ((p + 1) % (l.length : Int)).toNat 0)).set ((p + 1) % (l.length : Int)).toNat (l.getD p.toNat 0)
def doneL (l : List Int) (s : List Int) : List Int := s.foldl swp l
def plOk (n : Int) (s : List Int) : Prop := ∀ p ∈ s, 0 ≤ p ∧ p < n
/-- the ways, place by place -/
def leftL (row ways : List Int) : List Int := row.map fun t => ways.getD t.toNat 0
/-- .. behind an exchange -/
def swpW (l : List Int) (p : Int) : List Int := (l.set p.toNat (l.getD ((p + 1) % (l.length : Int)).toNat 0 + 1)).set ((p + 1) % (l.length : Int)).toNat (l.getD p.toNat 0 - 1)
/-- what the program counts -/
def passesL (row ways : List Int) : Int := shi row.length (fr (leftL row ways))
structure IsRow (l : List Int) : Prop where
  three : 3 ≤ l.length
  row : Row l.length (fr l)
structure NorW (row ways : List Int) : Prop where
  len : ways.length = row.length
  val : Val row.length (fr row) (fr (leftL row ways))
  nor : Nor row.length (fr (leftL row ways))
theorem fr_eq {l : List Int} {i : Nat} (h : i < l.length) : fr l i = l[i] := by
  unfold fr
  rw [List.getD_eq_getElem?_getD, List.getElem?_eq_getElem h]; rfl
theorem fr_set {l : List Int} {i j : Nat} {v : Int} (h : i < l.length) : fr (l.set i v) j = if j = i then v else fr l j := by
  unfold fr
  rw [List.getD_eq_getElem?_getD, List.getD_eq_getElem?_getD, List.getElem?_set]
  by_cases e : i = j
  · subst e
    rw [if_pos rfl, if_pos h, if_pos rfl]; rfl
  · rw [if_neg e, if_neg (Ne.symm e)]
theorem swp_len (l : List Int) (p : Int) : (swp l p).length = l.length := by
  unfold swp
  rw [List.length_set, List.length_set]
theorem swpW_len (l : List Int) (p : Int) : (swpW l p).length = l.length := by
  unfold swpW
  rw [List.length_set, List.length_set]
theorem doneL_len (s : List Int) : ∀ l : List Int, (doneL l s).length = l.length := by
  induction s with
  | nil => intro l; rfl
  | cons p s ih => intro l; exact (ih (swp l p)).trans (swp_len l p)
theorem doneL_cons (l : List Int) (p : Int) (s : List Int) : doneL l (p :: s) = doneL (swp l p) s := rfl
theorem doneL_append (l s t : List Int) : doneL l (s ++ t) = doneL (doneL l s) t := List.foldl_append
theorem doneL_snoc (l s : List Int) (p : Int) : doneL l (s ++ [p]) = swp (doneL l s) p := by rw [doneL_append]; rfl
theorem nx_int {n : Nat} {p : Int} (h0 : 0 ≤ p) (h : p < n) : ((p + 1) % (n : Int)).toNat = nx n p.toNat ∧ 0 ≤ (p + 1) % (n : Int) ∧ (p + 1) % (n : Int) < n := by
  have e : p + 1 = ((p.toNat + 1 : Nat) : Int) := by omega
  have h2 : ((p.toNat + 1 : Nat) : Int) % (n : Int) = ((nx n p.toNat : Nat) : Int) := by
    unfold nx
    exact (Int.natCast_emod _ _).symm
  have h3 := nx_lt (n := n) (p := p.toNat) (by omega)
  rw [e, h2]
  refine ⟨by omega, by omega, by omega⟩
theorem fr_swp {l : List Int} {p : Int} (h0 : 0 ≤ p) (h : p < l.length) (i : Nat) : fr (swp l p) i = swR l.length (fr l) p.toNat i := by
  obtain ⟨e, _, _⟩ := nx_int h0 h
  unfold swp swR
  rw [e]
  have hq := nx_lt (n := l.length) (p := p.toNat) (by omega)
  rw [fr_set (by rw [List.length_set]; exact hq), fr_set (by omega)]
  unfold tr
  by_cases h1 : i = p.toNat
  · rw [if_pos h1]
    by_cases h2 : i = nx l.length p.toNat
    · rw [if_pos h2, ← h2, h1, if_pos rfl]; rfl
    · rw [if_neg h2, if_pos h1]; rfl
  · rw [if_neg h1, if_neg h1]
    by_cases h2 : i = nx l.length p.toNat
    · rw [if_pos h2, if_pos h2]; rfl
    · rw [if_neg h2, if_neg h2]
theorem fr_swpW {l : List Int} {p : Int} (two : 2 ≤ l.length) (h0 : 0 ≤ p) (h : p < l.length) (i : Nat) : fr (swpW l p) i = swL l.length (fr l) p.toNat i := by
  obtain ⟨e, _, _⟩ := nx_int h0 h
  unfold swpW swL
  rw [e]
  have hq := nx_lt (n := l.length) (p := p.toNat) (by omega)
  have ne : p.toNat ≠ nx l.length p.toNat := by rcases nx_cases (n := l.length) (p := p.toNat) (by omega) with h | h <;> omega
  rw [fr_set (by rw [List.length_set]; exact hq), fr_set (by omega)]
  by_cases h1 : i = p.toNat
  · rw [if_pos h1, if_neg (by omega), if_pos h1]; rfl
  · rw [if_neg h1, if_neg h1]
    by_cases h2 : i = nx l.length p.toNat
    · rw [if_pos h2, if_pos h2]; rfl
    · rw [if_neg h2, if_neg h2]
/-! ## functions that agree below n -/
theorem Row.congr {n : Nat} {r s : Nat → Int} (e : ∀ i, i < n → r i = s i) (R : Row n r) : Row n s :=
  ⟨R.pos, fun p hp => by rw [← e p hp]; exact R.lo p hp, fun p hp => by rw [← e p hp]; exact R.hi p hp, fun p q hp hq z => R.inj p q hp hq (by rw [e p hp, e q hq]; exact z)⟩
theorem Val.congr {n : Nat} {r s L M : Nat → Int} (e : ∀ i, i < n → r i = s i) (f : ∀ i, i < n → L i = M i) (V : Val n r L) : Val n s M :=
  ⟨fun p hp => by rw [← e p hp, ← f p hp]; exact V.cong p hp, (S_congr f).symm.trans V.sum⟩
theorem Nor.congr {n : Nat} {L M : Nat → Int} (f : ∀ i, i < n → L i = M i) (N : Nor n L) : Nor n M := fun i j hi hj => by
  rw [← f i hi, ← f j hj]
  exact N i j hi hj
theorem IsRow.swp {l : List Int} {p : Int} (R : IsRow l) (h0 : 0 ≤ p) (h : p < l.length) : IsRow (swp l p) := by
  refine ⟨by rw [swp_len]; exact R.three, ?_⟩
  rw [swp_len]
  exact (R.row.sw (p := p.toNat) (by omega)).congr fun i _ => (fr_swp h0 h i).symm
theorem IsRow.done {s : List Int} : ∀ {l : List Int}, IsRow l → plOk l.length s → IsRow (doneL l s) := by
  induction s with
  | nil => intro l R _; exact R
  | cons p s ih =>
    intro l R h
    have hp := h p List.mem_cons_self
    exact ih (R.swp hp.1 hp.2) fun q hq => by rw [swp_len]; exact h q (List.mem_cons_of_mem _ hq)
theorem ids_len (n : Nat) : (ids n).length = n := by unfold ids; rw [List.length_map, List.length_range]
theorem fr_ids {n i : Nat} (h : i < n) : fr (ids n) i = i := by
  have h' : i < (ids n).length := by rw [ids_len]; exact h
  rw [fr_eq h']
  exact (List.getElem_map _).trans (by rw [List.getElem_range])
theorem ext_fr {l m : List Int} (hl : l.length = m.length) (h : ∀ i, i < l.length → fr l i = fr m i) : l = m := by
  refine List.ext_getElem hl fun i h1 h2 => ?_
  have := h i h1
  rwa [fr_eq h1, fr_eq h2] at this
theorem eq_ids {l : List Int} (h : ∀ i, i < l.length → fr l i = i) : l = ids l.length :=
  ext_fr (ids_len _).symm fun i hi => by rw [h i hi, fr_ids hi]
theorem isRow_ids {n : Nat} (h : 3 ≤ n) : IsRow (ids n) := by
  have e := ids_len n
  refine ⟨by omega, ⟨by omega, fun p hp => ?_, fun p hp => ?_, fun p q hp hq z => ?_⟩⟩
  · rw [fr_ids (by omega)]; omega
  · rw [fr_ids (by omega)]; omega
  · rw [fr_ids (by omega), fr_ids (by omega)] at z; omega
theorem leftL_len (row ways : List Int) : (leftL row ways).length = row.length := List.length_map _
theorem fr_leftL {row ways : List Int} {i : Nat} (h : i < row.length) : fr (leftL row ways) i = ways.getD (fr row i).toNat 0 := by
  have h' : i < (leftL row ways).length := by rw [leftL_len]; exact h
  rw [fr_eq h', fr_eq h]
  exact List.getElem_map _
/-! ## the walk of swaps_by -/
/-- where the loop of the exchanges stands: left, found, waiting -/
structure Going (row ways left found waiting : List Int) : Prop where
  llen : left.length = row.length
  pl : plOk row.length found
  wt : plOk row.length waiting
  val : Val row.length (fr (doneL row found)) (fr left)
  sum : shi row.length (fr left) + (found.length : Int) = passesL row ways
  wlen : (waiting.length : Int) ≤ row.length + 2 * found.length
  down : ∀ p : Nat, p < row.length → fr left (nx row.length p) < fr left p → (p : Int) ∈ waiting
theorem going_start {row ways : List Int} (W : NorW row ways) : Going row ways (leftL row ways) [] (ids row.length) := by
  refine ⟨leftL_len _ _, (fun p h => nomatch h), fun p h => ?_, W.val, ?_, ?_, fun p hp _ => ?_⟩
  · unfold ids at h
    obtain ⟨i, hi, e⟩ := List.mem_map.mp h
    have := List.mem_range.mp hi
    omega
  · show _ + (0 : Int) = _
    unfold passesL
    omega
  · rw [ids_len]
    show (row.length : Int) ≤ _ + 2 * (0 : Int)
    omega
  · exact List.mem_map.mpr ⟨p, List.mem_range.mpr hp, rfl⟩
theorem Going.bound {row ways left found waiting : List Int} (G : Going row ways left found waiting) : (found.length : Int) ≤ passesL row ways := by
  have h1 := G.sum
  have h2 := shi_nonneg row.length (fr left)
  omega
/-- no exchange at the popped place -/
theorem Going.pass {row ways left found waiting : List Int} {p : Int} (G : Going row ways left found (waiting ++ [p])) (no : ¬ fr left (nx row.length p.toNat) < fr left p.toNat) : Going row ways left found waiting := by
  refine ⟨G.llen, G.pl, fun q h => G.wt q (List.mem_append_left _ h), G.val, G.sum, ?_, fun q hq hd => ?_⟩
  · have := G.wlen
    rw [List.length_append, List.length_singleton] at this
    omega
  · rcases List.mem_append.mp (G.down q hq hd) with h | h
    · exact h
    · have e := List.mem_singleton.mp h
      subst e
      exact (no (by rw [Int.toNat_natCast]; exact hd)).elim
/-- an exchange at the popped place -/
theorem Going.turn {row ways left found waiting : List Int} {p : Int} (R : IsRow row) (G : Going row ways left found (waiting ++ [p])) (d : fr left (nx row.length p.toNat) < fr left p.toNat) :
    Going row ways (swpW left p) (found ++ [p]) (waiting ++ [(p - 1) % (row.length : Int), (p + 1) % (row.length : Int), p]) := by
  have hp := G.wt p (List.mem_append_right _ List.mem_cons_self)
  have n3 := R.three
  have npos : (0 : Int) < row.length := by omega
  have Rd := R.done G.pl
  have dl := doneL_len found row
  have lp : p < (left.length : Int) := by rw [G.llen]; exact hp.2
  have two : 2 ≤ left.length := by rw [G.llen]; omega
  have pn : p.toNat < row.length := by omega
  have el : ∀ i, fr (swpW left p) i = swL row.length (fr left) p.toNat i := fun i => by rw [fr_swpW two hp.1 lp, G.llen]
  refine ⟨by rw [swpW_len]; exact G.llen, fun q h => ?_, fun q h => ?_, ?_, ?_, ?_, fun q hq hd => ?_⟩
  · rcases List.mem_append.mp h with h | h
    · exact G.pl q h
    · rw [List.mem_singleton.mp h]; exact hp
  · rcases List.mem_append.mp h with h | h
    · exact G.wt q (List.mem_append_left _ h)
    · rcases List.mem_cons.mp h with e | h
      · rw [e]; exact ⟨Int.emod_nonneg _ (by omega), Int.emod_lt_of_pos _ npos⟩
      · rcases List.mem_cons.mp h with e | h
        · rw [e]; exact ⟨Int.emod_nonneg _ (by omega), Int.emod_lt_of_pos _ npos⟩
        · rw [List.mem_singleton.mp h]; exact hp
  · rw [doneL_snoc]
    have := G.val.sw (by omega) pn
    refine this.congr (fun i _ => ?_) fun i _ => (el i).symm
    rw [fr_swp hp.1 (by rw [dl]; exact hp.2), dl]
  · have h1 := (shi_step (by omega) (by rw [← dl]; exact Rd.row) G.val pn).1 d
    rw [shi_congr fun i _ => el i, h1, List.length_append, List.length_singleton]
    have := G.sum
    omega
  · have := G.wlen
    rw [List.length_append, List.length_singleton] at this
    rw [List.length_append, List.length_append, List.length_singleton]
    simp only [List.length_cons, List.length_nil]
    omega
  · -- a descent behind the exchange: at p - 1, at p + 1, (not at p), or as it was
    rw [el, el] at hd
    by_cases e1 : (q : Int) = (p - 1) % (row.length : Int)
    · rw [e1]; exact List.mem_append_right _ List.mem_cons_self
    · by_cases e2 : (q : Int) = (p + 1) % (row.length : Int)
      · rw [e2]; exact List.mem_append_right _ (List.mem_cons_of_mem _ List.mem_cons_self)
      · by_cases e3 : (q : Int) = p
        · rw [e3]; exact List.mem_append_right _ (List.mem_cons_of_mem _ (List.mem_cons_of_mem _ List.mem_cons_self))
        · obtain ⟨e4, _, _⟩ := nx_int hp.1 hp.2
          have n1 : q ≠ p.toNat := by omega
          have n2 : q ≠ nx row.length p.toNat := by omega
          have n3' : nx row.length q ≠ p.toNat := by
            intro z
            apply e1
            rcases nx_cases hq with ⟨h, e⟩ | ⟨h, e⟩
            · have : p - 1 = (q : Int) := by omega
              rw [this, Int.emod_eq_of_lt (by omega) (by omega)]
            · have : p - 1 = (q : Int) + (row.length : Int) * (-1) := by omega
              rw [this, md_add, Int.emod_eq_of_lt (by omega) (by omega)]
          have n4 : nx row.length q ≠ nx row.length p.toNat := by
            intro z
            rcases nx_cases hq with ⟨h, e⟩ | ⟨h, e⟩ <;> rcases nx_cases pn with ⟨h', e'⟩ | ⟨h', e'⟩ <;> omega
          unfold swL at hd
          rw [if_neg n1, if_neg n2, if_neg n3', if_neg n4] at hd
          rcases List.mem_append.mp (G.down q hq hd) with h | h
          · exact List.mem_append_left _ h
          · exact (e3 (List.mem_singleton.mp h)).elim
/-- the size that falls -/
def goSize (n : Nat) (left waiting : List Int) : Nat := waiting.length + 3 * (shi n (fr left)).toNat
theorem going_less {row ways left found waiting : List Int} {p : Int} (R : IsRow row) (G : Going row ways left found (waiting ++ [p])) (d : fr left (nx row.length p.toNat) < fr left p.toNat) :
    goSize row.length (swpW left p) (waiting ++ [(p - 1) % (row.length : Int), (p + 1) % (row.length : Int), p]) < goSize row.length left (waiting ++ [p]) := by
  have hp := G.wt p (List.mem_append_right _ List.mem_cons_self)
  have n3 := R.three
  have Rd := R.done G.pl
  have dl := doneL_len found row
  have lp : p < (left.length : Int) := by rw [G.llen]; exact hp.2
  have el : ∀ i, fr (swpW left p) i = swL row.length (fr left) p.toNat i := fun i => by rw [fr_swpW (by rw [G.llen]; omega) hp.1 lp, G.llen]
  have h1 := (shi_step (by omega) (by rw [← dl]; exact Rd.row) G.val (show p.toNat < row.length by omega)).1 d
  have h2 := shi_nonneg row.length (swL row.length (fr left) p.toNat)
  unfold goSize
  rw [shi_congr fun i _ => el i]
  rw [h1] at h2 ⊢
  rw [List.length_append, List.length_append, List.length_singleton]
  simp only [List.length_cons, List.length_nil]
  omega
/-- what the exchanges found show -/
structure Found (row ways found : List Int) : Prop where
  pl : plOk row.length found
  home : doneL row found = ids row.length
  num : (found.length : Int) = passesL row ways
theorem Going.found {row ways left found : List Int} (R : IsRow row) (G : Going row ways left found []) : Found row ways found := by
  have hz := home R.row.pos G.val.sum fun p hp => by
    apply Classical.byContradiction
    intro q
    have := G.down p hp (by omega)
    cases this
  have Rd := R.done G.pl
  have dl := doneL_len found row
  refine ⟨G.pl, ?_, ?_⟩
  · have := home_row (by rw [← dl]; exact Rd.row) G.val hz
    have e := eq_ids (l := doneL row found) fun i hi => this i (by omega)
    rwa [dl] at e
  · have := G.sum
    rw [shi_home hz] at this
    omega
end RS
namespace RS
set_option autoImplicit false
/-! ## sums of lists, a row's things -/
theorem S_front (n : Nat) (f : Nat → Int) : S (n + 1) f = f 0 + S n fun i => f (i + 1) := by
  induction n with
  | zero => show (0 : Int) + f 0 = f 0 + 0; omega
  | succ n ih =>
    show S (n + 1) f + f (n + 1) = f 0 + (S n (fun i => f (i + 1)) + f (n + 1))
    rw [ih]; omega
theorem S_sum (l : List Int) : S l.length (fr l) = l.sum := by
  induction l with
  | nil => rfl
  | cons x l ih =>
    rw [List.sum_cons, ← ih, List.length_cons, S_front]
    rfl
theorem S_row {n : Nat} {r : Nat → Int} (R : Row n r) (h : Nat → Int) : S n (fun p => h (r p).toNat) = S n h :=
  S_perm (fun p => (r p).toNat) (fun i hi => by have := R.lo i hi; have := R.hi i hi; omega) (fun i j hi hj e => by
    have := R.lo i hi
    have := R.lo j hj
    exact R.inj i j hi hj (by omega)) h
theorem row_hits {n : Nat} {r : Nat → Int} (R : Row n r) {t : Nat} (ht : t < n) : ∃ p, p < n ∧ r p = t := by
  obtain ⟨i, hi, e⟩ := perm_hits (n := n) (fun p => (r p).toNat) (fun i hi => by have := R.lo i hi; have := R.hi i hi; omega) (fun i j hi hj e => by
    have := R.lo i hi
    have := R.lo j hj
    exact R.inj i j hi hj (by omega)) ht
  have := R.lo i hi
  exact ⟨i, hi, by omega⟩
/-- the ways, thing by thing -/
structure WInv (row ways : List Int) : Prop where
  len : ways.length = row.length
  cong : ∀ p, p < row.length → ((p : Int) + fr ways (fr row p).toNat - fr row p) % (row.length : Int) = 0
  sum : S row.length (fr ways) = 0
theorem winv_start {row ws : List Int} (R : IsRow row) (hl : ws.length = row.length) (h : ∀ j, j < row.length → fr ws (fr row j).toNat = fr row j - j) : WInv row ws := by
  refine ⟨hl, fun p hp => ?_, ?_⟩
  · rw [h p hp, show (p : Int) + (fr row p - p) - fr row p = 0 by omega]
    simp
  · rw [← S_row R.row (fr ws), S_congr h, S_sub]
    have h2 := S_row R.row fun i => (i : Int)
    have : S row.length (fun p => (((fr row p).toNat : Nat) : Int)) = S row.length (fr row) := S_congr fun p hp => by
      have := R.row.lo p hp
      omega
    rw [this] at h2
    have h3 : S row.length (fr row) = S row.length fun i => (i : Int) := h2
    rw [h3]
    exact Int.sub_self _
/-- one round back for the farthest, one round on for the nearest -/
def bal (n : Int) (ws : List Int) (f g : Nat) : List Int := (ws.set f (fr ws f - n)).set g (fr ws g + n)
theorem fr_bal {n : Int} {ws : List Int} {f g : Nat} (hf : f < ws.length) (hg : g < ws.length) (ne : f ≠ g) (i : Nat) : fr (bal n ws f g) i = if i = f then fr ws f - n else if i = g then fr ws g + n else fr ws i := by
  unfold bal
  rw [fr_set (by rw [List.length_set]; exact hg), fr_set hf]
  by_cases h1 : i = f
  · rw [if_neg (by omega), if_pos h1, if_pos h1]
  · rw [if_neg h1, if_neg h1]
theorem bal_len (n : Int) (ws : List Int) (f g : Nat) : (bal n ws f g).length = ws.length := by
  unfold bal
  rw [List.length_set, List.length_set]
theorem winv_step {row ws : List Int} {f g : Nat} (W : WInv row ws) (hf : f < row.length) (hg : g < row.length) (ne : f ≠ g) : WInv row (bal row.length ws f g) := by
  have hf' : f < ws.length := by rw [W.len]; exact hf
  have hg' : g < ws.length := by rw [W.len]; exact hg
  have e := fr_bal (n := row.length) hf' hg' ne
  refine ⟨by rw [bal_len]; exact W.len, fun p hp => ?_, ?_⟩
  · have h0 := W.cong p hp
    rw [e]
    by_cases h1 : (fr row p).toNat = f
    · rw [if_pos h1, ← h1]
      have : (p : Int) + (fr ws (fr row p).toNat - (row.length : Int)) - fr row p = ((p : Int) + fr ws (fr row p).toNat - fr row p) + (row.length : Int) * (-1) := by omega
      rw [this, md_add, h0]
    · rw [if_neg h1]
      by_cases h2 : (fr row p).toNat = g
      · rw [if_pos h2, ← h2]
        have : (p : Int) + (fr ws (fr row p).toNat + (row.length : Int)) - fr row p = ((p : Int) + fr ws (fr row p).toNat - fr row p) + (row.length : Int) * 1 := by omega
        rw [this, md_add, h0]
      · rw [if_neg h2, h0]
  · have h1 := S_ex2 (fr (bal row.length ws f g)) hf hg ne
    have h2 := S_ex2 (fr ws) hf hg ne
    have h3 : S row.length (ex2 f g (fr (bal row.length ws f g))) = S row.length (ex2 f g (fr ws)) := S_congr fun i _ => by
      unfold ex2
      by_cases q : i = f ∨ i = g
      · rw [if_pos q, if_pos q]
      · rw [if_neg q, if_neg q, e, if_neg (by omega), if_neg (by omega)]
    have h4 := W.sum
    rw [e f, e g, if_pos rfl, if_neg (Ne.symm ne), if_pos rfl] at h1
    omega
def wsize (ws : List Int) : Nat := (S ws.length fun i => fr ws i * fr ws i).toNat
theorem wsize_less {n : Int} {ws : List Int} {f g : Nat} (hn : 0 < n) (hf : f < ws.length) (hg : g < ws.length) (ne : f ≠ g) (h : n < fr ws f - fr ws g) : wsize (bal n ws f g) < wsize ws := by
  have e := fr_bal (n := n) hf hg ne
  have h1 := S_ex2 (fun i => fr (bal n ws f g) i * fr (bal n ws f g) i) hf hg ne
  have h2 := S_ex2 (fun i => fr ws i * fr ws i) hf hg ne
  have h3 : S ws.length (ex2 f g fun i => fr (bal n ws f g) i * fr (bal n ws f g) i) = S ws.length (ex2 f g fun i => fr ws i * fr ws i) := S_congr fun i _ => by
    unfold ex2
    by_cases q : i = f ∨ i = g
    · rw [if_pos q, if_pos q]
    · rw [if_neg q, if_neg q]
      dsimp only
      rw [e, if_neg (by omega), if_neg (by omega)]
  have h5 : ∀ l : List Int, 0 ≤ S l.length fun i => fr l i * fr l i := fun l => S_nonneg fun i _ => by
    rcases Int.le_total 0 (fr l i) with z | z
    · exact Int.mul_nonneg z z
    · exact Int.mul_nonneg_of_nonpos_of_nonpos z z
  have h6 := h5 (bal n ws f g)
  rw [e f, e g, if_pos rfl, if_neg (Ne.symm ne), if_pos rfl] at h1
  have e1 : (fr ws f - n) * (fr ws f - n) + (fr ws g + n) * (fr ws g + n) = fr ws f * fr ws f + fr ws g * fr ws g + 2 * (n * (n - (fr ws f - fr ws g))) := by
    simp only [Int.mul_sub, Int.sub_mul, Int.mul_add, Int.add_mul]
    have c1 := Int.mul_comm n (fr ws f)
    have c2 := Int.mul_comm n (fr ws g)
    omega
  have e2 : n * (n - (fr ws f - fr ws g)) ≤ n * (-1) := Int.mul_le_mul_of_nonneg_left (by omega) (by omega)
  unfold wsize
  rw [bal_len] at h6 ⊢
  omega
theorem winv_end {row ws : List Int} (R : IsRow row) (W : WInv row ws) (h : ∀ a b, a < row.length → b < row.length → fr ws a - fr ws b ≤ (row.length : Int)) : NorW row ws := by
  have lt : ∀ p, p < row.length → (fr row p).toNat < row.length := fun p hp => by have := R.row.lo p hp; have := R.row.hi p hp; omega
  refine ⟨W.len, ⟨fun p hp => ?_, ?_⟩, fun i j hi hj => ?_⟩
  · rw [fr_leftL hp]; exact W.cong p hp
  · have : S row.length (fr (leftL row ws)) = S row.length fun p => fr ws (fr row p).toNat := S_congr fun p hp => fr_leftL hp
    rw [this, S_row R.row (fr ws)]
    exact W.sum
  · rw [fr_leftL hi, fr_leftL hj]
    exact h _ _ (lt i hi) (lt j hj)
/-! ## what are_ways asks -/
structure AreWays (row ways : List Int) : Prop where
  len : ways.length = row.length
  sum : ways.sum = 0
  nor : ∀ a ∈ ways, ∀ b ∈ ways, a - b ≤ (row.length : Int)
  cong : ∀ p, p < row.length → ((p : Int) + fr ways (fr row p).toNat - fr row p) % (row.length : Int) = 0
theorem mem_fr {l : List Int} {a : Int} (h : a ∈ l) : ∃ i, i < l.length ∧ fr l i = a := by
  obtain ⟨i, hi, e⟩ := List.getElem_of_mem h
  exact ⟨i, hi, by rw [fr_eq hi]; exact e⟩
theorem fr_mem {l : List Int} {i : Nat} (h : i < l.length) : fr l i ∈ l := by
  rw [fr_eq h]; exact List.getElem_mem h
theorem areWays_nor {row ways : List Int} (R : IsRow row) (A : AreWays row ways) : NorW row ways :=
  winv_end R ⟨A.len, A.cong, by rw [← A.len, S_sum]; exact A.sum⟩ fun a b ha hb => A.nor _ (fr_mem (by rw [A.len]; exact ha)) _ (fr_mem (by rw [A.len]; exact hb))
theorem nor_areWays {row ways : List Int} (R : IsRow row) (W : NorW row ways) : AreWays row ways := by
  refine ⟨W.len, ?_, fun a ha b hb => ?_, fun p hp => ?_⟩
  · rw [← S_sum, W.len, ← S_row R.row (fr ways), ← W.val.sum]
    exact S_congr fun p hp => (fr_leftL hp).symm
  · obtain ⟨i, hi, e⟩ := mem_fr ha
    obtain ⟨j, hj, e'⟩ := mem_fr hb
    obtain ⟨p, hp, ep⟩ := row_hits R.row (t := i) (by rw [← W.len]; exact hi)
    obtain ⟨q, hq, eq⟩ := row_hits R.row (t := j) (by rw [← W.len]; exact hj)
    have := W.nor p q hp hq
    rw [fr_leftL hp, fr_leftL hq, ep, eq, Int.toNat_natCast, Int.toNat_natCast] at this
    have e2 : ways.getD i 0 = a := e
    have e3 : ways.getD j 0 = b := e'
    rw [e2, e3] at this
    exact this
  · have := W.val.cong p hp
    rw [fr_leftL hp] at this
    exact this
/-- a Brought that shows what it tells -/
structure Shows (row swaps ways : List Int) : Prop where
  pl : plOk row.length swaps
  are : AreWays row ways
  home : doneL row swaps = ids row.length
  num : (swaps.length : Int) = passesL row ways
/-- how many a thing's row is apart from order: told by any normal ways -/
def Dist (row : List Int) (k : Int) : Prop := ∃ ways, NorW row ways ∧ passesL row ways = k
theorem dist_same {row : List Int} {k m : Int} (R : IsRow row) (h : Dist row k) (h' : Dist row m) : k = m := by
  obtain ⟨w, W, rfl⟩ := h
  obtain ⟨u, U, rfl⟩ := h'
  exact shi_same R.row W.val W.nor U.val U.nor
theorem passes_same {row w u : List Int} (R : IsRow row) (W : NorW row w) (U : NorW row u) : passesL row w = passesL row u := shi_same R.row W.val W.nor U.val U.nor
theorem passes_most {row w : List Int} (R : IsRow row) (W : NorW row w) : passesL row w ≤ ((row.length : Int) * row.length) / 4 := shi_most R.row W.val W.nor
theorem passes_nonneg (row w : List Int) : 0 ≤ passesL row w := shi_nonneg _ _
theorem isRow_of_decide {l : List Int} (h : 3 ≤ l.length ∧ (∀ p, p < l.length → 0 ≤ fr l p ∧ fr l p < l.length) ∧ ∀ p, p < l.length → ∀ q, q < l.length → fr l p = fr l q → p = q) : IsRow l :=
  ⟨h.1, ⟨by omega, fun p hp => (h.2.1 p hp).1, fun p hp => (h.2.1 p hp).2, fun p q hp hq => h.2.2 p hp q hq⟩⟩
theorem areWays_of_decide {row ways : List Int} (h : ways.length = row.length ∧ ways.sum = 0 ∧ (∀ a ∈ ways, ∀ b ∈ ways, a - b ≤ (row.length : Int)) ∧ ∀ p, p < row.length → ((p : Int) + fr ways (fr row p).toNat - fr row p) % (row.length : Int) = 0) : AreWays row ways :=
  ⟨h.1, h.2.1, h.2.2.1, h.2.2.2⟩
end RS
namespace RS
set_option autoImplicit false
theorem ids_nodup (n : Nat) : (ids n).Nodup := by
  unfold ids
  refine List.Pairwise.map _ (fun a b h => ?_) List.nodup_range
  intro e
  exact h (by omega)
theorem ids_sorted (n : Nat) : (ids n).Pairwise (· ≤ ·) := by
  unfold ids
  refine List.Pairwise.map (R := fun a b : Nat => a < b) _ (fun a b h => ?_) List.pairwise_lt_range
  show (a : Int) ≤ b
  omega
theorem mem_ids {n : Nat} {x : Int} : x ∈ ids n ↔ 0 ≤ x ∧ x < n := by
  unfold ids
  constructor
  · intro h
    obtain ⟨i, hi, rfl⟩ := List.mem_map.mp h
    have := List.mem_range.mp hi
    omega
  · intro h
    exact List.mem_map.mpr ⟨x.toNat, List.mem_range.mpr (by omega), by omega⟩
theorem row_nodup {n : Nat} {l : List Int} (hn : n = l.length) (R : Row n (fr l)) : l.Nodup := by
  subst hn
  refine List.pairwise_iff_getElem.mpr fun i j hi hj lt e => ?_
  have := R.inj i j hi hj (by rw [fr_eq hi, fr_eq hj]; exact e)
  omega
theorem row_perm {l : List Int} (R : Row l.length (fr l)) : l.Perm (ids l.length) := by
  rw [List.perm_iff_count]
  intro a
  rw [(row_nodup rfl R).count, (ids_nodup _).count]
  have : a ∈ l ↔ a ∈ ids l.length := by
    rw [mem_ids]
    constructor
    · intro h
      obtain ⟨i, hi, rfl⟩ := mem_fr h
      exact ⟨R.lo i hi, R.hi i hi⟩
    · intro h
      obtain ⟨p, hp, e⟩ := row_hits R (t := a.toNat) (by omega)
      have : a = fr l p := by omega
      rw [this]
      exact fr_mem hp
  by_cases h : a ∈ l
  · rw [if_pos h, if_pos (this.mp h)]
  · rw [if_neg h, if_neg (fun z => h (this.mpr z))]
theorem perm_row {l : List Int} (hp : 0 < l.length) (h : l.Perm (ids l.length)) : Row l.length (fr l) := by
  have nd : l.Nodup := (h.symm).nodup (ids_nodup _)
  have m : ∀ p, p < l.length → 0 ≤ fr l p ∧ fr l p < l.length := fun p hp => mem_ids.mp (h.mem_iff.mp (fr_mem hp))
  refine ⟨hp, fun p hp => (m p hp).1, fun p hp => (m p hp).2, fun p q hp hq e => ?_⟩
  rw [fr_eq hp, fr_eq hq] at e
  exact (List.getElem_inj nd).mp e
/-- what sorted(row) == list(range(len(row))) tells -/
theorem sorted_row {l s : List Int} (hp : 0 < l.length) (h : s.Perm l) (hs : s.Pairwise (· ≤ ·)) : s = ids l.length ↔ Row l.length (fr l) := by
  constructor
  · intro e
    subst e
    exact perm_row hp h.symm
  · intro R
    exact (h.trans (row_perm R)).eq_of_pairwise (fun a b _ _ h1 h2 => Int.le_antisymm h1 h2) hs (ids_sorted _)

theorem isRow_perm {l : List Int} (h3 : 3 ≤ l.length) (h : l.Perm (ids l.length)) : IsRow l := ⟨h3, perm_row (by omega) h⟩
theorem IsRow.perm {l : List Int} (R : IsRow l) : l.Perm (ids l.length) := row_perm R.row
theorem IsRow.of_perm {l m : List Int} (R : IsRow l) (h : m.Perm l) : IsRow m := isRow_perm (by rw [h.length_eq]; exact R.three) (by rw [h.length_eq]; exact h.trans R.perm)
def rot (l : List Int) (k : Nat) : List Int := l.drop k ++ l.take k
theorem rot_perm (l : List Int) (k : Nat) : (rot l k).Perm l := by
  unfold rot
  refine List.perm_append_comm.trans ?_
  rw [List.take_append_drop]
theorem rot_len (l : List Int) (k : Nat) : (rot l k).length = l.length := (rot_perm l k).length_eq
theorem IsRow.rot {l : List Int} (R : IsRow l) (k : Nat) : IsRow (rot l k) := R.of_perm (rot_perm l k)
theorem IsRow.reverse {l : List Int} (R : IsRow l) : IsRow l.reverse := R.of_perm (List.reverse_perm l)
theorem ids_succ (n : Nat) : ids (n + 1) = ids n ++ [(n : Int)] := by
  unfold ids
  rw [List.range_succ, List.map_append]; rfl
theorem ins_perm {l : List Int} {i k : Nat} (h : l.Perm (ids i)) : (l.take k ++ [(i : Int)] ++ l.drop k).Perm (ids (i + 1)) := by
  rw [ids_succ]
  have h1 : (l.take k ++ [(i : Int)] ++ l.drop k).Perm ((l.take k ++ l.drop k) ++ [(i : Int)]) := by
    rw [List.append_assoc, List.append_assoc]
    exact List.Perm.append_left _ List.perm_append_comm
  rw [List.take_append_drop] at h1
  exact h1.trans (h.append_right _)
/-! ## great numbers: how many bits -/
def BB (n : Int) : Prop := ∃ m : Nat, m ≤ 2000000 ∧ n.natAbs < 2 ^ m
theorem BB.small {n : Int} (h : n.natAbs < 1048576) : BB n := ⟨20, by omega, by omega⟩
theorem BB.pair {a b : Int} (A : BB a) (B : BB b) : ∃ m k : Nat, m + k ≤ 100000000 ∧ a.natAbs < 2 ^ m ∧ b.natAbs < 2 ^ k := by
  obtain ⟨m, h1, h2⟩ := A
  obtain ⟨k, h3, h4⟩ := B
  exact ⟨m, k, by omega, h2, h4⟩
structure BM (M : Nat) (n : Int) : Prop where
  ex : ∃ m : Nat, m ≤ M ∧ n.natAbs < 2 ^ m
theorem BM.add {M : Nat} {a c : Int} (A : BM M a) (hM : M ≤ 1999999) (hc : c.natAbs < 1048576) : BB (a + c) := by
  obtain ⟨m, h1, h2⟩ := A.ex
  by_cases e : m ≤ 20
  · refine ⟨21, by omega, ?_⟩
    have : (2 : Nat) ^ m ≤ 2 ^ 20 := Nat.pow_le_pow_right (by omega) e
    have e2 : (2 : Nat) ^ 20 = 1048576 := by decide
    have e3 : (2 : Nat) ^ 21 = 2097152 := by decide
    omega
  · refine ⟨m + 1, by omega, ?_⟩
    have : (2 : Nat) ^ 20 ≤ 2 ^ m := Nat.pow_le_pow_right (by omega) (by omega)
    have e2 : (2 : Nat) ^ 20 = 1048576 := by decide
    rw [Nat.pow_succ]
    omega
end RS
namespace RS
set_option autoImplicit false
/-- a row in order: its normal ways are noughts -/
theorem nor_id {row ws : List Int} (R : IsRow row) (W : NorW row ws) (e : ∀ p, p < row.length → fr row p = p) : (∀ p, p < row.length → fr ws p = 0) ∧ passesL row ws = 0 := by
  have npos : (0 : Int) < row.length := by have := R.three; omega
  have z : ∀ p, p < row.length → fr (leftL row ws) p = (row.length : Int) * (fr (leftL row ws) p / (row.length : Int)) := fun p hp => by
    have h1 := W.val.cong p hp
    rw [e p hp] at h1
    have h2 : (p : Int) + fr (leftL row ws) p - p = fr (leftL row ws) p := by omega
    rw [h2] at h1
    have := Int.mul_ediv_add_emod (fr (leftL row ws) p) (row.length : Int)
    omega
  have mono : ∀ a b : Int, 1 ≤ a - b → (row.length : Int) ≤ (row.length : Int) * a - (row.length : Int) * b := fun a b h => by
    have := Int.mul_le_mul_of_nonneg_left h (show (0 : Int) ≤ row.length by omega)
    rw [Int.mul_sub] at this
    omega
  have zero : ∀ p, p < row.length → fr (leftL row ws) p = 0 := by
    intro p hp
    apply Classical.byContradiction
    intro ne
    rcases Int.lt_trichotomy (fr (leftL row ws) p) 0 with lt | eq | gt
    · have hz : fr (leftL row ws) p / (row.length : Int) ≤ -1 := by
        have := Int.ediv_neg_of_neg_of_pos lt npos
        omega
      have all : ∀ q, q < row.length → fr (leftL row ws) q ≤ 0 := fun q hq => by
        apply Classical.byContradiction
        intro h
        have h2 : 1 ≤ fr (leftL row ws) q / (row.length : Int) := by
          apply Classical.byContradiction
          intro h3
          have := Int.mul_le_mul_of_nonneg_left (show fr (leftL row ws) q / (row.length : Int) ≤ 0 by omega) (show (0 : Int) ≤ row.length by omega)
          have := z q hq
          omega
        have h4 := W.nor q p hq hp
        have h5 := mono (fr (leftL row ws) q / (row.length : Int) - 1) (fr (leftL row ws) p / (row.length : Int)) (by omega)
        rw [Int.mul_sub] at h5
        have := z p hp
        have := z q hq
        omega
      have := S_tight (f := fr (leftL row ws)) (g := fun _ => 0) all (by rw [S_zero, W.val.sum]; exact Int.le_refl _) p hp
      omega
    · exact ne eq
    · have hz : 1 ≤ fr (leftL row ws) p / (row.length : Int) := by
        apply Classical.byContradiction
        intro h3
        have := Int.mul_le_mul_of_nonneg_left (show fr (leftL row ws) p / (row.length : Int) ≤ 0 by omega) (show (0 : Int) ≤ row.length by omega)
        have := z p hp
        omega
      have all : ∀ q, q < row.length → 0 ≤ fr (leftL row ws) q := fun q hq => by
        apply Classical.byContradiction
        intro h
        have h2 : fr (leftL row ws) q / (row.length : Int) ≤ -1 := by
          have := Int.ediv_neg_of_neg_of_pos (show fr (leftL row ws) q < 0 by omega) npos
          omega
        have h4 := W.nor p q hp hq
        have h5 := mono (fr (leftL row ws) p / (row.length : Int) - 1) (fr (leftL row ws) q / (row.length : Int)) (by omega)
        rw [Int.mul_sub] at h5
        have := z p hp
        have := z q hq
        omega
      have := S_tight (f := fun _ => 0) (g := fr (leftL row ws)) all (by rw [S_zero, W.val.sum]; exact Int.le_refl _) p hp
      omega
  refine ⟨fun p hp => ?_, shi_home zero⟩
  have h := zero p hp
  rw [fr_leftL hp, e p hp] at h
  exact h
theorem isRow_4 : IsRow [0, 1, 2, 3] := isRow_of_decide (by decide)
theorem isRow_4' : IsRow [1, 2, 3, 0] := isRow_of_decide (by decide)
theorem told_4 {ws fs : List Int} (W : NorW [0, 1, 2, 3] ws) (F : Found [0, 1, 2, 3] ws fs) : fs = [] ∧ ws = [0, 0, 0, 0] := by
  obtain ⟨h1, h2⟩ := nor_id isRow_4 W (by decide)
  constructor
  · have := F.num
    rw [h2] at this
    exact List.length_eq_zero_iff.mp (by omega)
  · refine ext_fr W.len fun i hi => ?_
    have hl : ws.length = 4 := W.len
    rw [h1 i (by have := W.len; omega)]
    have : ∀ i, i < 4 → (0 : Int) = fr [0, 0, 0, 0] i := by decide
    exact this i (by omega)
theorem told_4' {ws fs : List Int} (W : NorW [1, 2, 3, 0] ws) (F : Found [1, 2, 3, 0] ws fs) : fs.length = 3 := by
  have h := passes_same isRow_4' W (areWays_nor isRow_4' (areWays_of_decide (ways := [-3, 1, 1, 1]) (by decide)))
  have e : passesL [1, 2, 3, 0] [-3, 1, 1, 1] = 3 := by decide
  have := F.num
  omega
end RS
namespace RS
set_option autoImplicit false
/-! ## how far a row is from order -/
def DistF (m : List Int) (k : Int) : Prop := ∃ L : Nat → Int, Val m.length (fr m) L ∧ Nor m.length L ∧ shi m.length L = k
theorem NorW.dist {m ws : List Int} (W : NorW m ws) : DistF m (passesL m ws) := ⟨_, W.val, W.nor, rfl⟩
theorem distF_same {m : List Int} {k j : Int} (R : IsRow m) (h : DistF m k) (h' : DistF m j) : k = j := by
  obtain ⟨L, V, N, rfl⟩ := h
  obtain ⟨M, W, N', rfl⟩ := h'
  exact shi_same R.row V N W N'
theorem distF_pos {m : List Int} {k : Int} (h : DistF m k) : 0 ≤ k := by
  obtain ⟨L, V, N, rfl⟩ := h
  exact shi_nonneg _ _
theorem distF_ex {m : List Int} (R : IsRow m) : ∃ k, DistF m k := by
  have V : Val m.length (fr m) (fun p => fr m p - p) := by
    refine ⟨fun p hp => ?_, ?_⟩
    · have : (p : Int) + (fr m p - p) - fr m p = 0 := by omega
      rw [this]; simp
    · rw [S_sub]
      have h2 := S_row R.row fun i => (i : Int)
      have : S m.length (fun p => (((fr m p).toNat : Nat) : Int)) = S m.length (fr m) := S_congr fun p hp => by
        have := R.row.lo p hp
        omega
      rw [this] at h2
      have h3 : S m.length (fr m) = S m.length fun i => (i : Int) := h2
      rw [h3]
      exact Int.sub_self _
  obtain ⟨M, W, N⟩ := nor_ex R.row V
  exact ⟨_, M, W, N, rfl⟩
theorem distF_most {m : List Int} {k : Int} (R : IsRow m) (h : DistF m k) : k ≤ ((m.length : Int) * m.length) / 4 := by
  obtain ⟨L, V, N, rfl⟩ := h
  exact shi_most R.row V N
theorem swp_swp {l : List Int} {p : Int} (h0 : 0 ≤ p) (h : p < l.length) : swp (swp l p) p = l := by
  refine ext_fr (by rw [swp_len, swp_len]) fun i hi => ?_
  rw [swp_len, swp_len] at hi
  rw [fr_swp h0 (by rw [swp_len]; exact h)]
  unfold swR
  rw [swp_len, fr_swp h0 h]
  unfold swR
  rw [tr_tr]
/-- an exchange may not lead farther than one -/
theorem distF_near {m : List Int} {p k j : Int} (R : IsRow m) (h0 : 0 ≤ p) (hp : p < m.length) (h : DistF m k) (h' : DistF (swp m p) j) : j ≤ k + 1 ∧ (j - k) % 2 = 1 := by
  obtain ⟨L, V, N, rfl⟩ := h
  obtain ⟨M, W, N', rfl⟩ := h'
  have n3 := R.three
  have pn : p.toNat < m.length := by omega
  have sl := swp_len m p
  rw [sl] at W N' ⊢
  have e : ∀ i, i < m.length → swR m.length (fr m) p.toNat i = fr (swp m p) i := fun i _ => (fr_swp h0 hp i).symm
  have V' := (V.sw (by omega) pn).congr e fun i _ => rfl
  have R' := R.swp h0 hp
  have RR : Row m.length (fr (swp m p)) := by rw [← sl]; exact R'.row
  have st := shi_step (by omega) R.row V pn
  have le := shi_least RR W N' V'
  have ev := shi_even RR W V'
  by_cases c : L (nx m.length p.toNat) < L p.toNat
  · have := st.1 c
    omega
  · have := st.2 (by omega)
    omega
theorem distF_step {m : List Int} {p k j : Int} (R : IsRow m) (h0 : 0 ≤ p) (hp : p < m.length) (h : DistF m k) (h' : DistF (swp m p) j) : j = k + 1 ∨ j = k - 1 := by
  have a := distF_near R h0 hp h h'
  have b := distF_near (R.swp h0 hp) h0 (by rw [swp_len]; exact hp) h' (by rw [swp_swp h0 hp]; exact h)
  omega
theorem distF_ids {n : Nat} (hn : 3 ≤ n) : DistF (ids n) 0 := by
  have e := ids_len n
  refine ⟨fun _ => 0, ⟨fun p hp => ?_, S_zero _⟩, fun i j _ _ => (show (0 : Int) - 0 ≤ _ by omega), shi_home fun _ _ => rfl⟩
  rw [fr_ids (by omega)]
  have : (p : Int) + 0 - p = 0 := by omega
  rw [this]; simp
/-- the fewest exchanges -/
theorem distF_word {k : Nat} : ∀ {m : List Int}, IsRow m → DistF m (k : Int) → ∃ s, plOk m.length s ∧ s.length = k ∧ doneL m s = ids m.length := by
  induction k with
  | zero =>
    intro m R h
    obtain ⟨L, V, N, e⟩ := h
    refine ⟨[], (fun p hp => nomatch hp), rfl, ?_⟩
    have hz := home R.row.pos V.sum fun p hp => by
      apply Classical.byContradiction
      intro q
      have := (shi_step (by have := R.three; omega) R.row V hp).1 (by omega)
      have h0 := shi_nonneg m.length (swL m.length L p)
      omega
    exact eq_ids fun i hi => home_row R.row V hz i hi
  | succ k ih =>
    intro m R h
    obtain ⟨L, V, N, e⟩ := id h
    have n3 := R.three
    have : ∃ p, p < m.length ∧ L (nx m.length p) < L p := by
      apply Classical.byContradiction
      intro q
      have hz := home R.row.pos V.sum fun p hp => by
        apply Classical.byContradiction
        intro q2
        exact q ⟨p, hp, by omega⟩
      rw [shi_home hz] at e
      omega
    obtain ⟨p, hp, d⟩ := this
    have h0 : (0 : Int) ≤ (p : Int) := by omega
    have h1 : (p : Int) < m.length := by omega
    have R' := R.swp h0 h1
    obtain ⟨j, hj⟩ := distF_ex R'
    have le : j ≤ (k : Int) := by
      obtain ⟨M, W, N', ej⟩ := id hj
      have sl := swp_len m p
      rw [sl] at W N' ej
      have ee : ∀ i, i < m.length → swR m.length (fr m) p i = fr (swp m p) i := fun i _ => (fr_swp h0 h1 i).symm
      have V' := (V.sw (by omega) hp).congr ee fun i _ => rfl
      have := shi_least (by rw [← sl]; exact R'.row) W N' V'
      have st := (shi_step (by omega) R.row V hp).1 d
      omega
    have st := distF_step R h0 h1 h hj
    have ej : j = (k : Int) := by omega
    subst ej
    obtain ⟨s, pl, sl, hs⟩ := ih R' hj
    rw [swp_len] at pl hs
    refine ⟨(p : Int) :: s, fun q hq => ?_, by rw [List.length_cons, sl], hs⟩
    rcases List.mem_cons.mp hq with e | e
    · rw [e]; exact ⟨h0, h1⟩
    · exact pl q e
theorem distF_least {s : List Int} : ∀ {m : List Int} {k : Int}, IsRow m → plOk m.length s → doneL m s = ids m.length → DistF m k → k ≤ s.length := by
  induction s with
  | nil =>
    intro m k R _ e h
    have e' : m = ids m.length := e
    rw [e'] at h R
    have := distF_same R h (distF_ids (by have := R.three; rw [ids_len] at this; exact this))
    rw [this]; exact Int.le_refl _
  | cons p s ih =>
    intro m k R pl e h
    have hp := pl p List.mem_cons_self
    have R' := R.swp hp.1 hp.2
    obtain ⟨j, hj⟩ := distF_ex R'
    have := ih (m := swp m p) R' (fun q hq => by rw [swp_len]; exact pl q (List.mem_cons_of_mem _ hq)) (by rw [swp_len]; exact e) hj
    have st := distF_step R hp.1 hp.2 h hj
    rw [List.length_cons]
    omega
/-! ## two rows -/
/-- the one row named by the other's places -/
structure Nm (one other m : List Int) : Prop where
  len : m.length = one.length
  lo : ∀ i, i < one.length → 0 ≤ fr m i
  hi : ∀ i, i < one.length → fr m i < one.length
  at_ : ∀ i, i < one.length → fr other (fr m i).toNat = fr one i
structure Two (one other : List Int) : Prop where
  r1 : IsRow one
  r2 : IsRow other
  len : one.length = other.length
theorem nm_row {one other m : List Int} (T : Two one other) (h : Nm one other m) : IsRow m := by
  have n3 := T.r1.three
  refine ⟨by rw [h.len]; exact n3, ⟨by rw [h.len]; omega, fun p hp => ?_, fun p hp => ?_, fun p q hp hq e => ?_⟩⟩
  · rw [h.len] at hp; exact h.lo p hp
  · rw [h.len] at hp ⊢; exact h.hi p hp
  · rw [h.len] at hp hq
    have e1 := h.at_ p hp
    have e2 := h.at_ q hq
    rw [e] at e1
    exact T.r1.row.inj p q hp hq (e1.symm.trans e2)
theorem nm_same {one other m m' : List Int} (T : Two one other) (h : Nm one other m) (h' : Nm one other m') : m = m' := by
  refine ext_fr (h.len.trans h'.len.symm) fun i hi => ?_
  rw [h.len] at hi
  have e1 := h.at_ i hi
  have e2 := h'.at_ i hi
  have l1 := h.lo i hi
  have l2 := h'.lo i hi
  have u1 := h.hi i hi
  have u2 := h'.hi i hi
  have tl := T.len
  have := T.r2.row.inj _ _ (by omega) (by omega) (e1.trans e2.symm)
  omega
theorem nm_swp {one other m : List Int} {p : Int} (h : Nm one other m) (h0 : 0 ≤ p) (hp : p < one.length) : Nm (swp one p) other (swp m p) := by
  have hm : p < m.length := by rw [h.len]; exact hp
  have hq := nx_lt (n := one.length) (p := p.toNat) (by omega)
  have e : ∀ i, fr (swp m p) i = fr m (tr p.toNat (nx one.length p.toNat) i) := fun i => by rw [fr_swp h0 hm, h.len]; rfl
  have tl : ∀ i, i < one.length → tr p.toNat (nx one.length p.toNat) i < one.length := fun i hi => tr_lt (by omega) hq hi
  refine ⟨by rw [swp_len, swp_len]; exact h.len, fun i hi => ?_, fun i hi => ?_, fun i hi => ?_⟩
  · rw [swp_len] at hi
    rw [e]; exact h.lo _ (tl i hi)
  · rw [swp_len] at hi ⊢
    rw [e]; exact h.hi _ (tl i hi)
  · rw [swp_len] at hi
    rw [e, fr_swp h0 hp, h.at_ _ (tl i hi)]; rfl
theorem Two.swp {one other : List Int} {p : Int} (T : Two one other) (h0 : 0 ≤ p) (hp : p < one.length) : Two (swp one p) other := ⟨T.r1.swp h0 hp, T.r2, by rw [swp_len]; exact T.len⟩
theorem nm_done {s : List Int} : ∀ {one other m : List Int}, Nm one other m → plOk one.length s → Nm (doneL one s) other (doneL m s) := by
  induction s with
  | nil => intro one other m h _; exact h
  | cons p s ih =>
    intro one other m h pl
    have hp := pl p List.mem_cons_self
    exact ih (nm_swp h hp.1 hp.2) fun q hq => by rw [swp_len]; exact pl q (List.mem_cons_of_mem _ hq)
theorem nm_ids {one other : List Int} (T : Two one other) : Nm one other (ids one.length) ↔ one = other := by
  have el := ids_len one.length
  constructor
  · intro h
    refine ext_fr T.len fun i hi => ?_
    have := h.at_ i hi
    rw [fr_ids hi, Int.toNat_natCast] at this
    exact this.symm
  · intro e
    subst e
    refine ⟨el, fun i hi => ?_, fun i hi => ?_, fun i hi => ?_⟩
    · rw [fr_ids hi]; omega
    · rw [fr_ids hi]; omega
    · rw [fr_ids hi, Int.toNat_natCast]
/-- as many exchanges apart -/
def Ap (one other : List Int) (k : Int) : Prop := ∃ m, Nm one other m ∧ DistF m k
theorem ap_same {one other : List Int} {k j : Int} (T : Two one other) (h : Ap one other k) (h' : Ap one other j) : k = j := by
  obtain ⟨m, N, D⟩ := h
  obtain ⟨m', N', D'⟩ := h'
  have := nm_same T N N'
  subst this
  exact distF_same (nm_row T N) D D'
theorem ap_pos {one other : List Int} {k : Int} (h : Ap one other k) : 0 ≤ k := let ⟨_, _, D⟩ := h; distF_pos D
theorem ap_most {one other : List Int} {k : Int} (T : Two one other) (h : Ap one other k) : k ≤ ((one.length : Int) * one.length) / 4 := by
  obtain ⟨m, N, D⟩ := h
  have := distF_most (nm_row T N) D
  rwa [N.len] at this
/-- exchanges that lead from the one to the other -/
theorem lead_of {one other m s : List Int} (T : Two one other) (N : Nm one other m) (pl : plOk one.length s) (h : doneL m s = ids m.length) : doneL one s = other := by
  have N' := nm_done N pl
  have T' : Two (doneL one s) other := ⟨T.r1.done pl, T.r2, by rw [doneL_len]; exact T.len⟩
  refine (nm_ids T').mp ?_
  rw [doneL_len, ← N.len, ← h]
  exact N'
theorem ap_word {one other : List Int} {k : Int} (T : Two one other) (h : Ap one other k) : ∃ s, plOk one.length s ∧ (s.length : Int) = k ∧ doneL one s = other := by
  obtain ⟨m, N, D⟩ := h
  have k0 := distF_pos D
  obtain ⟨s, pl, sl, e⟩ := distF_word (k := k.toNat) (nm_row T N) (by rw [Int.toNat_of_nonneg k0]; exact D)
  rw [N.len] at pl
  exact ⟨s, pl, by omega, lead_of T N pl e⟩
theorem ap_least {one other s : List Int} {k : Int} (T : Two one other) (h : Ap one other k) (pl : plOk one.length s) (e : doneL one s = other) : k ≤ s.length := by
  obtain ⟨m, N, D⟩ := h
  have N' := nm_done N pl
  rw [e] at N'
  have T' : Two other other := ⟨T.r2, T.r2, rfl⟩
  have := nm_same T' N' ((nm_ids T').mpr rfl)
  refine distF_least (nm_row T N) (by rw [N.len]; exact pl) ?_ D
  rw [this, N.len, T.len]
theorem ap_zero {one other : List Int} {k : Int} (T : Two one other) (h : Ap one other k) : k = 0 ↔ one = other := by
  constructor
  · intro e
    obtain ⟨s, pl, sl, hs⟩ := ap_word T h
    have : s = [] := List.length_eq_zero_iff.mp (by omega)
    subst this
    exact hs
  · intro e
    have := ap_least (s := []) T h (fun p hp => nomatch hp) e
    have := ap_pos h
    simp at *
    omega
theorem ap_step {one other : List Int} {p k j : Int} (T : Two one other) (h0 : 0 ≤ p) (hp : p < one.length) (h : Ap one other k) (h' : Ap (swp one p) other j) : j = k + 1 ∨ j = k - 1 := by
  obtain ⟨m, N, D⟩ := h
  obtain ⟨m', N', D'⟩ := h'
  have := nm_same (T.swp h0 hp) N' (nm_swp N h0 hp)
  subst this
  exact distF_step (nm_row T N) h0 (by rw [N.len]; exact hp) D D'
/-- back again -/
theorem done_back {s : List Int} : ∀ {l : List Int}, plOk l.length s → doneL (doneL l s) s.reverse = l := by
  induction s with
  | nil => intro l _; rfl
  | cons p s ih =>
    intro l pl
    have hp := pl p List.mem_cons_self
    have := ih (l := swp l p) fun q hq => by rw [swp_len]; exact pl q (List.mem_cons_of_mem _ hq)
    have e : doneL (doneL l (p :: s)) (p :: s).reverse = doneL (doneL (doneL (swp l p) s) s.reverse) [p] := by rw [List.reverse_cons, doneL_append, doneL_cons l]
    rw [e, this]
    exact swp_swp hp.1 hp.2
theorem plOk_rev {n : Int} {s : List Int} (h : plOk n s) : plOk n s.reverse := fun p hp => h p (List.mem_reverse.mp hp)
theorem Two.symm {one other : List Int} (T : Two one other) : Two other one := ⟨T.r2, T.r1, T.len.symm⟩
theorem ap_back {one other : List Int} {k j : Int} (T : Two one other) (h : Ap one other k) (h' : Ap other one j) : j = k := by
  have half : ∀ {a b : List Int} {k j : Int}, Two a b → Ap a b k → Ap b a j → j ≤ k := fun {a b k j} T h h' => by
    obtain ⟨s, pl, sl, e⟩ := ap_word T h
    have := ap_least T.symm h' (s := s.reverse) (by rw [← T.len]; exact plOk_rev pl) (by rw [← e]; exact done_back pl)
    rw [List.length_reverse] at this
    omega
  exact Int.le_antisymm (half T h h') (half T.symm h' h)
theorem plOk_app {n : Int} {s t : List Int} (h : plOk n s) (h' : plOk n t) : plOk n (s ++ t) := fun p hp => (List.mem_append.mp hp).elim (h p) (h' p)
theorem ap_tri {one other third : List Int} {k j i : Int} (T : Two one other) (U : Two other third) (h : Ap one other k) (h' : Ap other third j) (h'' : Ap one third i) : i ≤ k + j := by
  obtain ⟨s, pl, sl, e⟩ := ap_word T h
  obtain ⟨t, pl', tl, e'⟩ := ap_word U h'
  have := ap_least (s := s ++ t) ⟨T.r1, U.r2, T.len.trans U.len⟩ h'' (plOk_app pl (by rw [T.len]; exact pl')) (by rw [doneL_append, e]; exact e')
  rw [List.length_append] at this
  omega
/-! ## turned, mirrored, named anew -/
theorem tr_map {n : Nat} (f : Nat → Nat) (inj : ∀ i j, i < n → j < n → f i = f j → i = j) {a b i : Nat} (ha : a < n) (hb : b < n) (hi : i < n) : f (tr a b i) = tr (f a) (f b) (f i) := by
  by_cases h : i = a
  · rw [h, tr_a, tr_a]
  · by_cases h' : i = b
    · rw [h', tr_b, tr_b]
    · rw [tr_o h h', tr_o (fun z => h (inj i a hi ha z)) fun z => h' (inj i b hi hb z)]
theorem tr_comm (a b i : Nat) : tr a b i = tr b a i := by
  by_cases h : i = a
  · rw [h, tr_a, tr_b]
  · by_cases h' : i = b
    · rw [h', tr_b, tr_a]
    · rw [tr_o h h', tr_o h' h]
/-- l' is l seen by f, the exchange at q in l' is the one at p in l -/
structure Seen (n : Nat) (f : Nat → Nat) : Prop where
  lt : ∀ i, i < n → f i < n
  inj : ∀ i j, i < n → j < n → f i = f j → i = j
def Sees (f : Nat → Nat) (l l' : List Int) : Prop := l'.length = l.length ∧ ∀ i, i < l.length → fr l' i = fr l (f i)
theorem sees_swp {l l' : List Int} {f : Nat → Nat} {p q : Int} (F : Seen l.length f) (h : Sees f l l') (h0 : 0 ≤ p) (hp : p < l.length) (h0' : 0 ≤ q) (hq : q < l.length)
    (e : (f q.toNat = p.toNat ∧ f (nx l.length q.toNat) = nx l.length p.toNat) ∨ (f q.toNat = nx l.length p.toNat ∧ f (nx l.length q.toNat) = p.toNat)) : Sees f (swp l p) (swp l' q) := by
  refine ⟨by rw [swp_len, swp_len]; exact h.1, fun i hi => ?_⟩
  rw [swp_len] at hi
  have hqn := nx_lt (n := l.length) (p := q.toNat) (by omega)
  rw [fr_swp h0' (by rw [h.1]; exact hq), fr_swp h0 hp]
  unfold swR
  rw [h.1, h.2 _ (tr_lt (by omega) hqn hi), tr_map f F.inj (by omega) hqn hi]
  rcases e with ⟨e1, e2⟩ | ⟨e1, e2⟩
  · rw [e1, e2]
  · rw [e1, e2, tr_comm]
theorem sees_done {f : Nat → Nat} {g : Int → Int} {n : Nat} (F : Seen n f)
    (hg : ∀ p, 0 ≤ p → p < (n : Int) → 0 ≤ g p ∧ g p < n ∧ ((f (g p).toNat = p.toNat ∧ f (nx n (g p).toNat) = nx n p.toNat) ∨ (f (g p).toNat = nx n p.toNat ∧ f (nx n (g p).toNat) = p.toNat))) :
    ∀ {s l l' : List Int}, l.length = n → plOk n s → Sees f l l' → Sees f (doneL l s) (doneL l' (s.map g)) := by
  intro s
  induction s with
  | nil => intro l l' _ _ h; exact h
  | cons p s ih =>
    intro l l' hl pl h
    have hp := pl p List.mem_cons_self
    obtain ⟨g0, g1, g2⟩ := hg p hp.1 hp.2
    refine ih (l := swp l p) (l' := swp l' (g p)) (by rw [swp_len]; exact hl) (fun q hq => pl q (List.mem_cons_of_mem _ hq)) ?_
    subst hl
    exact sees_swp F h hp.1 hp.2 g0 g1 g2
theorem sees_same {f : Nat → Nat} {l a b : List Int} (h : Sees f l a) (h' : Sees f l b) : a = b := by
  refine ext_fr (h.1.trans h'.1.symm) fun i hi => ?_
  rw [h.1] at hi
  rw [h.2 i hi, h'.2 i hi]
theorem ap_sees {f : Nat → Nat} {g : Int → Int} {n : Nat} (F : Seen n f)
    (hg : ∀ p, 0 ≤ p → p < (n : Int) → 0 ≤ g p ∧ g p < n ∧ ((f (g p).toNat = p.toNat ∧ f (nx n (g p).toNat) = nx n p.toNat) ∨ (f (g p).toNat = nx n p.toNat ∧ f (nx n (g p).toNat) = p.toNat)))
    {one other one' other' : List Int} {k j : Int} (T : Two one other) (T' : Two one' other') (hl : one.length = n) (h1 : Sees f one one') (h2 : Sees f other other') (h : Ap one other k) (h' : Ap one' other' j) : j ≤ k := by
  obtain ⟨s, pl, sl, e⟩ := ap_word T h
  have hs := sees_done F hg hl (by rw [← hl]; exact pl) h1
  rw [e] at hs
  have e2 := sees_same hs h2
  have := ap_least T' h' (s := s.map g) (fun q hq => by
    obtain ⟨p, hp, rfl⟩ := List.mem_map.mp hq
    have hp' := pl p hp
    have := hg p hp'.1 (by rw [← hl]; exact hp'.2)
    rw [h1.1, hl]
    exact ⟨this.1, this.2.1⟩) e2
  rw [List.length_map] at this
  omega
theorem seen_rot {n c : Nat} (hc : c < n) : Seen n fun i => (i + c) % n := by
  refine ⟨fun i hi => Nat.mod_lt _ (by omega), fun i j hi hj e => ?_⟩
  by_cases h1 : i + c < n <;> by_cases h2 : j + c < n
  · rw [Nat.mod_eq_of_lt h1, Nat.mod_eq_of_lt h2] at e; omega
  · rw [Nat.mod_eq_of_lt h1, Nat.mod_eq_sub_mod (by omega), Nat.mod_eq_of_lt (by omega)] at e; omega
  · rw [Nat.mod_eq_of_lt h2, Nat.mod_eq_sub_mod (by omega), Nat.mod_eq_of_lt (by omega)] at e; omega
  · rw [Nat.mod_eq_sub_mod (by omega), Nat.mod_eq_of_lt (by omega), Nat.mod_eq_sub_mod (by omega), Nat.mod_eq_of_lt (by omega)] at e; omega
theorem sees_rot {l : List Int} {c : Nat} (hc : c < l.length) : Sees (fun i => (i + c) % l.length) l (rot l c) := by
  refine ⟨rot_len l c, fun i hi => ?_⟩
  have hr : i < (l.drop c ++ l.take c).length := by rw [List.length_append, List.length_drop, List.length_take]; omega
  show fr (l.drop c ++ l.take c) i = _
  rw [fr_eq hr, fr_eq (Nat.mod_lt _ (by omega))]
  by_cases h : i + c < l.length
  · rw [List.getElem_append_left (by rw [List.length_drop]; omega), List.getElem_drop]
    congr 1
    rw [Nat.mod_eq_of_lt h]; omega
  · rw [List.getElem_append_right (by rw [List.length_drop]; omega), List.getElem_take]
    congr 1
    rw [List.length_drop, Nat.mod_eq_sub_mod (by omega), Nat.mod_eq_of_lt (by omega)]
    omega
theorem rot_places {n c : Nat} (hc : c < n) (p : Int) (h0 : 0 ≤ p) (hp : p < (n : Int)) :
    0 ≤ (p - c) % (n : Int) ∧ (p - c) % (n : Int) < n ∧ (((((p - c) % (n : Int)).toNat + c) % n = p.toNat ∧ (nx n ((p - c) % (n : Int)).toNat + c) % n = nx n p.toNat) ∨ ((((p - c) % (n : Int)).toNat + c) % n = nx n p.toNat ∧ (nx n ((p - c) % (n : Int)).toNat + c) % n = p.toNat)) := by
  have l0 := Int.emod_nonneg (p - c) (show (n : Int) ≠ 0 by omega)
  have l1 := Int.emod_lt_of_pos (p - c) (show (0 : Int) < n by omega)
  refine ⟨l0, l1, .inl ?_⟩
  have e : (p - c) % (n : Int) = if c ≤ p.toNat then p - c else p - c + n := by
    by_cases h : c ≤ p.toNat
    · rw [if_pos h, Int.emod_eq_of_lt (by omega) (by omega)]
    · rw [if_neg h]
      have : p - c = (p - c + n) + (n : Int) * (-1) := by omega
      rw [this, md_add, Int.emod_eq_of_lt (by omega) (by omega)]
      omega
  have e1 : (((p - c) % (n : Int)).toNat + c) % n = p.toNat := by
    rw [e]
    by_cases h : c ≤ p.toNat
    · rw [if_pos h]
      have : (p - c).toNat + c = p.toNat := by omega
      rw [this, Nat.mod_eq_of_lt (by omega)]
    · rw [if_neg h]
      have : (p - c + n).toNat + c = p.toNat + n := by omega
      rw [this, Nat.add_mod_right, Nat.mod_eq_of_lt (by omega)]
  refine ⟨e1, ?_⟩
  have e2 : (nx n ((p - c) % (n : Int)).toNat + c) % n = ((((p - c) % (n : Int)).toNat + c) + 1) % n := by
    unfold nx
    rw [Nat.mod_add_mod]
    congr 1
    omega
  rw [e2, ← Nat.mod_add_mod, e1]
  rfl
theorem rot_rot {l : List Int} {c : Nat} (_ : c ≤ l.length) : rot (rot l c) (l.length - c) = l := by
  unfold rot
  rw [List.drop_append_of_le_length (by rw [List.length_drop]; omega), List.take_append_of_le_length (by rw [List.length_drop]; omega)]
  have : l.length - c = (l.drop c).length := (List.length_drop).symm
  rw [this, List.drop_length, List.take_length, List.nil_append, List.take_append_drop]
theorem Two.rot {one other : List Int} (T : Two one other) (c : Nat) : Two (rot one c) (rot other c) := ⟨T.r1.rot c, T.r2.rot c, by rw [rot_len, rot_len]; exact T.len⟩
theorem rot_zero (l : List Int) : rot l 0 = l := by unfold rot; simp
theorem ap_rot {one other : List Int} {c : Nat} {k j : Int} (T : Two one other) (hc : c < one.length) (h : Ap one other k) (h' : Ap (rot one c) (rot other c) j) : j = k := by
  by_cases z : c = 0
  · subst z
    rw [rot_zero, rot_zero] at h'
    exact ap_same T h' h
  · have a := ap_sees (seen_rot hc) (g := fun p => (p - c) % (one.length : Int)) (rot_places hc) T (T.rot c) rfl (sees_rot hc) (by rw [T.len]; exact sees_rot (by rw [← T.len]; exact hc)) h h'
    have hc' : one.length - c < (rot one c).length := by rw [rot_len]; omega
    have b := ap_sees (n := (rot one c).length) (seen_rot hc') (g := fun p => (p - ((one.length - c : Nat) : Int)) % ((rot one c).length : Int)) (rot_places hc') (T.rot c) T rfl (by
      have := sees_rot hc'
      rwa [rot_rot (by omega)] at this) (by
      have := sees_rot (l := rot other c) (c := one.length - c) (by rw [rot_len, ← T.len]; omega)
      have e : rot (rot other c) (one.length - c) = other := by rw [T.len]; exact rot_rot (by rw [← T.len]; omega)
      rw [e] at this
      have e3 : (rot one c).length = (rot other c).length := by rw [rot_len, rot_len]; exact T.len
      rw [e3]
      exact this) h' h
    omega
theorem seen_rev (n : Nat) : Seen n fun i => n - 1 - i := ⟨fun i hi => by show n - 1 - i < n; omega, fun i j hi hj (e : n - 1 - i = n - 1 - j) => by omega⟩
theorem sees_rev (l : List Int) : Sees (fun i => l.length - 1 - i) l l.reverse := by
  refine ⟨List.length_reverse, fun i hi => ?_⟩
  rw [fr_eq (by rw [List.length_reverse]; exact hi), fr_eq (show l.length - 1 - i < l.length by omega), List.getElem_reverse]
theorem rev_places {n : Nat} (hn : 2 ≤ n) (p : Int) (h0 : 0 ≤ p) (hp : p < (n : Int)) :
    0 ≤ (n - 2 - p) % (n : Int) ∧ (n - 2 - p) % (n : Int) < n ∧ ((n - 1 - ((n - 2 - p) % (n : Int)).toNat = p.toNat ∧ n - 1 - nx n ((n - 2 - p) % (n : Int)).toNat = nx n p.toNat) ∨ (n - 1 - ((n - 2 - p) % (n : Int)).toNat = nx n p.toNat ∧ n - 1 - nx n ((n - 2 - p) % (n : Int)).toNat = p.toNat)) := by
  have l0 := Int.emod_nonneg (n - 2 - p) (show (n : Int) ≠ 0 by omega)
  have l1 := Int.emod_lt_of_pos (n - 2 - p) (show (0 : Int) < n by omega)
  refine ⟨l0, l1, .inr ?_⟩
  rcases nx_cases (n := n) (p := p.toNat) (by omega) with ⟨h, e⟩ | ⟨h, e⟩
  · have e2 : (n - 2 - p) % (n : Int) = n - 2 - p := Int.emod_eq_of_lt (by omega) (by omega)
    rw [e2, e]
    have e3 : nx n ((n : Int) - 2 - p).toNat = n - 1 - p.toNat := by
      rcases nx_cases (n := n) (p := ((n : Int) - 2 - p).toNat) (by omega) with ⟨h', e'⟩ | ⟨h', e'⟩ <;> omega
    rw [e3]
    omega
  · have e2 : (n - 2 - p) % (n : Int) = n - 1 := by
      have : (n : Int) - 2 - p = (n - 1) + (n : Int) * (-1) := by omega
      rw [this, md_add, Int.emod_eq_of_lt (by omega) (by omega)]
    rw [e2, e]
    have e3 : nx n ((n : Int) - 1).toNat = 0 := by
      rcases nx_cases (n := n) (p := ((n : Int) - 1).toNat) (by omega) with ⟨h', e'⟩ | ⟨h', e'⟩ <;> omega
    rw [e3]
    omega
theorem Two.rev {one other : List Int} (T : Two one other) : Two one.reverse other.reverse := ⟨T.r1.reverse, T.r2.reverse, by rw [List.length_reverse, List.length_reverse]; exact T.len⟩
theorem ap_rev {one other : List Int} {k j : Int} (T : Two one other) (h : Ap one other k) (h' : Ap one.reverse other.reverse j) : j = k := by
  have n3 := T.r1.three
  have a := ap_sees (seen_rev one.length) (g := fun p => ((one.length : Int) - 2 - p) % (one.length : Int)) (rev_places (by omega)) T T.rev rfl (sees_rev one) (by rw [T.len]; exact sees_rev other) h h'
  have b := ap_sees (seen_rev one.length) (g := fun p => ((one.length : Int) - 2 - p) % (one.length : Int)) (rev_places (by omega)) T.rev T (List.length_reverse) (by
    have := sees_rev one.reverse
    rwa [List.length_reverse, List.reverse_reverse] at this) (by
    have := sees_rev other.reverse
    rw [List.length_reverse, List.reverse_reverse] at this
    rw [T.len]
    exact this) h' h
  omega
/-- things by other names -/
theorem leftL_row {one names : List Int} (R : IsRow one) (N : IsRow names) (hl : names.length = one.length) : IsRow (leftL one names) := by
  have n3 := R.three
  have lt : ∀ p, p < one.length → (fr one p).toNat < names.length := fun p hp => by have := R.row.lo p hp; have := R.row.hi p hp; omega
  refine ⟨by rw [leftL_len]; exact n3, ⟨by rw [leftL_len]; omega, fun p hp => ?_, fun p hp => ?_, fun p q hp hq e => ?_⟩⟩
  · rw [leftL_len] at hp
    rw [fr_leftL hp]; exact N.row.lo _ (lt p hp)
  · rw [leftL_len] at hp ⊢
    rw [fr_leftL hp, ← hl]; exact N.row.hi _ (lt p hp)
  · rw [leftL_len] at hp hq
    rw [fr_leftL hp, fr_leftL hq] at e
    have := N.row.inj _ _ (lt p hp) (lt q hq) e
    have l1 := R.row.lo p hp
    have l2 := R.row.lo q hq
    exact R.row.inj p q hp hq (by omega)
theorem ap_names {one other names : List Int} {k j : Int} (T : Two one other) (N : IsRow names) (hl : names.length = one.length) (h : Ap one other k) (h' : Ap (leftL one names) (leftL other names) j) : j = k := by
  obtain ⟨m, M, D⟩ := h
  have T' : Two (leftL one names) (leftL other names) := ⟨leftL_row T.r1 N hl, leftL_row T.r2 N (hl.trans T.len), by rw [leftL_len, leftL_len]; exact T.len⟩
  refine ap_same T' h' ⟨m, ⟨by rw [leftL_len]; exact M.len, fun i hi => ?_, fun i hi => ?_, fun i hi => ?_⟩, D⟩
  · rw [leftL_len] at hi; exact M.lo i hi
  · rw [leftL_len] at hi ⊢; exact M.hi i hi
  · rw [leftL_len] at hi
    have l0 := M.lo i hi
    have l1 := M.hi i hi
    have tl := T.len
    rw [fr_leftL hi, fr_leftL (by omega), M.at_ i hi]
/-- what is handed in by hand -/
theorem nm_of_decide {one other m : List Int} (h : m.length = one.length ∧ (∀ i, i < one.length → 0 ≤ fr m i ∧ fr m i < one.length ∧ fr other (fr m i).toNat = fr one i)) : Nm one other m :=
  ⟨h.1, fun i hi => (h.2 i hi).1, fun i hi => (h.2 i hi).2.1, fun i hi => (h.2 i hi).2.2⟩
theorem distF_of_decide {m : List Int} {k : Int} (R : IsRow m) (ws : List Int) (h : ws.length = m.length ∧ ws.sum = 0 ∧ (∀ a ∈ ws, ∀ b ∈ ws, a - b ≤ (m.length : Int)) ∧ ∀ p, p < m.length → ((p : Int) + fr ws (fr m p).toNat - fr m p) % (m.length : Int) = 0) (e : passesL m ws = k) : DistF m k := by
  rw [← e]
  exact (areWays_nor R (areWays_of_decide h)).dist
theorem two_a : Two [0, 1, 2, 3] [2, 1, 0, 3] := ⟨isRow_4, isRow_of_decide (by decide), rfl⟩
theorem ap_a : Ap [0, 1, 2, 3] [2, 1, 0, 3] 3 := ⟨[2, 1, 0, 3], nm_of_decide (by decide), distF_of_decide two_a.r2 [-2, 0, 2, 0] (by decide) (by decide)⟩
theorem two_b : Two [0, 1, 2] [1, 0, 2] := ⟨isRow_of_decide (by decide), isRow_of_decide (by decide), rfl⟩
theorem ap_b : Ap [0, 1, 2] [1, 0, 2] 1 := ⟨[1, 0, 2], nm_of_decide (by decide), distF_of_decide two_b.r2 [-1, 1, 0] (by decide) (by decide)⟩
end RS
set_option Elab.async false
set_option linter.all false
set_option maxRecDepth 100000
namespace Toy
open PySem L2
/-! ### the text by places -/
def top (i : Nat) : Stmt := PySem.Challenge.pw_ringswap_k05_refused.main.body.getD i (.Pass ⟨0, 0, 0, 0⟩)
abbrev s_is_whole : Stmt := top 7
abbrev s_check_row : Stmt := top 8
abbrev s_are_places : Stmt := top 9
abbrev s_behind : Stmt := top 10
abbrev s_done : Stmt := top 11
abbrev s_B_init : Stmt := inClass (top 14) 0
abbrev s_ways_of : Stmt := top 16
abbrev s_swaps_by : Stmt := top 17
abbrev s_way_of : Stmt := top 18
abbrev s_brought : Stmt := top 19
abbrev s_check_both : Stmt := top 20
abbrev s_named_by : Stmt := top 21
abbrev s_leading : Stmt := top 22
abbrev s_apart : Stmt := top 23
abbrev s_l_cell_at : Stmt := top 25
abbrev s_l_draw : Stmt := top 26
abbrev s_l_number : Stmt := top 27
abbrev s_l_order : Stmt := top 28
abbrev s_l_turned : Stmt := top 29
abbrev s_l_done : Stmt := top 30
abbrev s_l_row : Stmt := top 31
abbrev s_l_kinds : Stmt := top 32
abbrev s_l_with_row : Stmt := top 33
abbrev s_l_with_swaps : Stmt := top 34
abbrev s_l_with_other : Stmt := top 35
abbrev s_l_told : Stmt := top 36
abbrev s_law : Stmt := top 37
theorem sc_is_whole : FnScope ["thing"] ["thing"] (defScope s_is_whole) := ⟨rfl, rfl, rfl, by decide +kernel, rfl, by decide +kernel, by decide +kernel⟩
theorem sc_check_row : FnScope ["row", "thing"] ["row"] (defScope s_check_row) := ⟨rfl, rfl, rfl, by decide +kernel, rfl, by decide +kernel, by decide +kernel⟩
theorem sc_are_places : FnScope ["swaps", "many", "place"] ["swaps", "many"] (defScope s_are_places) := ⟨rfl, rfl, rfl, by decide +kernel, rfl, by decide +kernel, by decide +kernel⟩
theorem sc_behind : FnScope ["row", "swaps", "found", "place", "after"] ["row", "swaps"] (defScope s_behind) := ⟨rfl, rfl, rfl, by decide +kernel, rfl, by decide +kernel, by decide +kernel⟩
theorem sc_done : FnScope ["row", "swaps"] ["row", "swaps"] (defScope s_done) := ⟨rfl, rfl, rfl, by decide +kernel, rfl, by decide +kernel, by decide +kernel⟩
theorem sc_B_init : FnScope ["self", "swaps", "ways"] ["self", "swaps", "ways"] (defScope s_B_init) := ⟨rfl, rfl, rfl, by decide +kernel, rfl, by decide +kernel, by decide +kernel⟩
theorem sc_ways_of : FnScope ["row", "many", "ways", "place", "thing", "far", "near"] ["row"] (defScope s_ways_of) := ⟨rfl, rfl, rfl, by decide +kernel, rfl, by decide +kernel, by decide +kernel⟩
theorem sc_swaps_by : FnScope ["row", "ways", "many", "left", "found", "waiting", "place", "after", "thing"] ["row", "ways"] (defScope s_swaps_by) := ⟨rfl, rfl, rfl, by decide +kernel, rfl, by decide +kernel, by decide +kernel⟩
theorem sc_way_of : FnScope ["row", "ways"] ["row"] (defScope s_way_of) := ⟨rfl, rfl, rfl, by decide +kernel, rfl, by decide +kernel, by decide +kernel⟩
theorem sc_brought : FnScope ["row", "swaps", "ways"] ["row"] (defScope s_brought) := ⟨rfl, rfl, rfl, by decide +kernel, rfl, by decide +kernel, by decide +kernel⟩
theorem sc_check_both : FnScope ["one", "other"] ["one", "other"] (defScope s_check_both) := ⟨rfl, rfl, rfl, by decide +kernel, rfl, by decide +kernel, by decide +kernel⟩
theorem sc_named_by : FnScope ["one", "other", "places", "place", "thing"] ["one", "other"] (defScope s_named_by) := ⟨rfl, rfl, rfl, by decide +kernel, rfl, by decide +kernel, by decide +kernel⟩
theorem sc_leading : FnScope ["one", "other"] ["one", "other"] (defScope s_leading) := ⟨rfl, rfl, rfl, by decide +kernel, rfl, by decide +kernel, by decide +kernel⟩
theorem sc_apart : FnScope ["one", "other"] ["one", "other"] (defScope s_apart) := ⟨rfl, rfl, rfl, by decide +kernel, rfl, by decide +kernel, by decide +kernel⟩
theorem sc_l_cell_at : FnScope ["_law_script", "_law_k"] ["_law_script", "_law_k"] (defScope s_l_cell_at) := ⟨rfl, rfl, rfl, by decide +kernel, rfl, by decide +kernel, by decide +kernel⟩
theorem sc_l_draw : FnScope ["_law_cell", "_law_k", "_law_many", "_law_primes"] ["_law_cell", "_law_k", "_law_many"] (defScope s_l_draw) := ⟨rfl, rfl, rfl, by decide +kernel, rfl, by decide +kernel, by decide +kernel⟩
theorem sc_l_number : FnScope ["_law_cell", "_law_k"] ["_law_cell", "_law_k"] (defScope s_l_number) := ⟨rfl, rfl, rfl, by decide +kernel, rfl, by decide +kernel, by decide +kernel⟩
theorem sc_l_order : FnScope ["_law_script", "_law_by", "_law_found", "_law_k"] ["_law_script", "_law_by"] (defScope s_l_order) := ⟨rfl, rfl, rfl, by decide +kernel, rfl, by decide +kernel, by decide +kernel⟩
theorem sc_l_turned : FnScope ["_law_row_here", "_law_by", "_law_at"] ["_law_row_here", "_law_by"] (defScope s_l_turned) := ⟨rfl, rfl, rfl, by decide +kernel, rfl, by decide +kernel, by decide +kernel⟩
theorem sc_l_done : FnScope ["_law_row_here", "_law_swaps", "_law_found", "_law_place", "_law_after"] ["_law_row_here", "_law_swaps"] (defScope s_l_done) := ⟨rfl, rfl, rfl, by decide +kernel, rfl, by decide +kernel, by decide +kernel⟩
theorem sc_l_row : FnScope ["_law_script", "_law_kind", "_law_row_here", "_law_size", "_law_by", "_law_k", "_law_cell"] ["_law_script"] (defScope s_l_row) := ⟨rfl, rfl, rfl, by decide +kernel, rfl, by decide +kernel, by decide +kernel⟩
theorem sc_l_kinds : FnScope ["_law_error", "_law_found"] ["_law_error"] (defScope s_l_kinds) := ⟨rfl, rfl, rfl, by decide +kernel, rfl, by decide +kernel, by decide +kernel⟩
theorem sc_l_with_row : FnScope ["_law_door", "_law_row_here"] ["_law_door", "_law_row_here"] (defScope s_l_with_row) := ⟨rfl, rfl, rfl, by decide +kernel, rfl, by decide +kernel, by decide +kernel⟩
theorem sc_l_with_swaps : FnScope ["_law_row_here", "_law_swaps"] ["_law_row_here", "_law_swaps"] (defScope s_l_with_swaps) := ⟨rfl, rfl, rfl, by decide +kernel, rfl, by decide +kernel, by decide +kernel⟩
theorem sc_l_with_other : FnScope ["_law_row_here", "_law_pair"] ["_law_row_here", "_law_pair"] (defScope s_l_with_other) := ⟨rfl, rfl, rfl, by decide +kernel, rfl, by decide +kernel, by decide +kernel⟩
theorem sc_l_told : FnScope ["_law_ask", "_law_one", "_law_other", "_law_error"] ["_law_ask", "_law_one", "_law_other"] (defScope s_l_told) := ⟨rfl, rfl, rfl, by decide +kernel, rfl, by decide +kernel, by decide +kernel⟩
theorem sc_law : FnScope ["_law_script", "_law_far", "_law_due", "_law_k", "_law_row_here", "_law_kept", "_law_size", "_law_bad", "_law_at", "_law_strange", "_law_door", "_law_others", "_law_thing"] ["_law_script"] (defScope s_law) := ⟨rfl, rfl, rfl, by decide +kernel, rfl, by decide +kernel, by decide +kernel⟩
/-- a def of the text as the top has left it -/
structure At (K : PySem.W.Frag) (mg : Str → Option Value) (x : Str) (ps : List Str) (st : Stmt) (f : Addr) (fd : FuncData) : Prop where
  F : Fun K x x st f fd
  b : Binds K fd ps []
  g : mg x = some (.ref f)
structure AtM (K : PySem.W.Frag) (C : Addr) (x qual : Str) (ps : List Str) (st : Stmt) (f : Addr) (fd : FuncData) : Prop where
  F : Fun K x qual st f fd
  b : Binds K fd ps []
  m : PySem.W.findIn K (.ref C) x = some (some (.ref f))
  i : PySem.W.isFn K (.ref f) = true
/-- what the written part says of an error's class -/
structure Exc1 (K : PySem.W.Frag) (S C : Addr) : Prop where
  x : PySem.W.excIn K C [.type "ValueError", .type "Exception", .type "BaseException", .type "object"] "ValueError.__new__" = true
  k : PySem.W.keepIn K (.ref C) = true
  t : PySem.W.typeIn K (.ref C) = some (.type "type")
  s : PySem.W.subIn K (.ref C) (.ref S) = some true
  e : ExcC K C
  v : PySem.W.kitOne K (.ref C) (.type "ValueError") = some true
theorem kit_not {K : PySem.W.Frag} {C A : Addr} (h1 : PySem.W.subIn K (.ref A) (.ref A) = some true) (h2 : PySem.W.isClsIn K A = true) (h3 : PySem.W.typeIn K (.ref A) = some (.type "type")) (h4 : PySem.W.subIn K (.ref C) (.ref A) = some false) : PySem.W.kitOne K (.ref C) (.ref A) = some false := by
  unfold PySem.W.kitOne
  by_cases e : ((Value.ref C) == (Value.ref A)) = true
  · have e' : Value.ref C = Value.ref A := beq_iff_eq.mp e
    rw [e', h1] at h4
    cases h4
  · rw [if_neg e]
    have e2 : ((PySem.W.clsIn K A).isSome && PySem.W.typeIn K (.ref A) == some (.type "type")) = true := by
      have h2' : (PySem.W.clsIn K A).isSome = true := h2
      rw [h2', h3] <;> rfl
    show (if ((PySem.W.clsIn K A).isSome && PySem.W.typeIn K (.ref A) == some (.type "type")) = true then PySem.W.subIn K (.ref C) (.ref A) else none) = some false
    rw [if_pos e2]
    exact h4
theorem kit_val {K : PySem.W.Frag} {C : Addr} (h : PySem.W.subIn K (.ref C) (.type "ValueError") = some true) : PySem.W.kitOne K (.ref C) (.type "ValueError") = some true := by
  unfold PySem.W.kitOne
  by_cases e : ((Value.ref C) == (Value.type "ValueError")) = true
  · rw [if_pos e]
  · rw [if_neg e]
    have m : PySem.W.kitMeta "ValueError" = true := by decide +kernel
    show (if PySem.W.kitMeta "ValueError" = true then PySem.W.subIn K (.ref C) (.type "ValueError") else none) = some true
    rw [if_pos m]
    exact h
structure Txt (K : PySem.W.Frag) (mg : Str → Option Value) where
  f_is_whole : Addr
  d_is_whole : FuncData
  f_check_row : Addr
  d_check_row : FuncData
  f_are_places : Addr
  d_are_places : FuncData
  f_behind : Addr
  d_behind : FuncData
  f_done : Addr
  d_done : FuncData
  f_B_init : Addr
  d_B_init : FuncData
  f_ways_of : Addr
  d_ways_of : FuncData
  f_swaps_by : Addr
  d_swaps_by : FuncData
  f_way_of : Addr
  d_way_of : FuncData
  f_brought : Addr
  d_brought : FuncData
  f_check_both : Addr
  d_check_both : FuncData
  f_named_by : Addr
  d_named_by : FuncData
  f_leading : Addr
  d_leading : FuncData
  f_apart : Addr
  d_apart : FuncData
  f_l_cell_at : Addr
  d_l_cell_at : FuncData
  f_l_draw : Addr
  d_l_draw : FuncData
  f_l_number : Addr
  d_l_number : FuncData
  f_l_order : Addr
  d_l_order : FuncData
  f_l_turned : Addr
  d_l_turned : FuncData
  f_l_done : Addr
  d_l_done : FuncData
  f_l_row : Addr
  d_l_row : FuncData
  f_l_kinds : Addr
  d_l_kinds : FuncData
  f_l_with_row : Addr
  d_l_with_row : FuncData
  f_l_with_swaps : Addr
  d_l_with_swaps : FuncData
  f_l_with_other : Addr
  d_l_with_other : FuncData
  f_l_told : Addr
  d_l_told : FuncData
  f_law : Addr
  d_law : FuncData
  C : Addr
  cl : Cls K C
  mkC : PySem.W.makesIn K C = true
  kC : PySem.W.keepIn K (.ref C) = true
  gC : mg "Brought" = some (.ref C)
  nS : NoAttr K C "swaps"
  nW : NoAttr K C "ways"
  SwapError : Addr
  gSwapError : mg "SwapError" = some (.ref SwapError)
  bS : PySem.W.subIn K (.ref SwapError) (.type "BaseException") = some true
  dS : PySem.W.hasDictIn K SwapError = true
  tS : PySem.W.typeIn K (.ref SwapError) = some (.type "type")
  BadRow : Addr
  gBadRow : mg "BadRow" = some (.ref BadRow)
  eBadRow : Exc1 K SwapError BadRow
  BadSwaps : Addr
  gBadSwaps : mg "BadSwaps" = some (.ref BadSwaps)
  eBadSwaps : Exc1 K SwapError BadSwaps
  Unlike : Addr
  gUnlike : mg "Unlike" = some (.ref Unlike)
  eUnlike : Exc1 K SwapError Unlike
  k00 : PySem.W.kitOne K (.ref BadRow) (.ref BadRow) = some true
  k01 : PySem.W.kitOne K (.ref BadRow) (.ref BadSwaps) = some false
  k02 : PySem.W.kitOne K (.ref BadRow) (.ref Unlike) = some false
  k10 : PySem.W.kitOne K (.ref BadSwaps) (.ref BadRow) = some false
  k11 : PySem.W.kitOne K (.ref BadSwaps) (.ref BadSwaps) = some true
  k12 : PySem.W.kitOne K (.ref BadSwaps) (.ref Unlike) = some false
  k20 : PySem.W.kitOne K (.ref Unlike) (.ref BadRow) = some false
  k21 : PySem.W.kitOne K (.ref Unlike) (.ref BadSwaps) = some false
  k22 : PySem.W.kitOne K (.ref Unlike) (.ref Unlike) = some true
  a_is_whole : At K mg "is_whole" ["thing"] s_is_whole f_is_whole d_is_whole
  a_check_row : At K mg "check_row" ["row"] s_check_row f_check_row d_check_row
  a_are_places : At K mg "are_places" ["swaps", "many"] s_are_places f_are_places d_are_places
  a_behind : At K mg "behind" ["row", "swaps"] s_behind f_behind d_behind
  a_done : At K mg "done" ["row", "swaps"] s_done f_done d_done
  a_B_init : AtM K C "__init__" "Brought.__init__" ["self", "swaps", "ways"] s_B_init f_B_init d_B_init
  a_ways_of : At K mg "ways_of" ["row"] s_ways_of f_ways_of d_ways_of
  a_swaps_by : At K mg "swaps_by" ["row", "ways"] s_swaps_by f_swaps_by d_swaps_by
  a_way_of : At K mg "way_of" ["row"] s_way_of f_way_of d_way_of
  a_brought : At K mg "brought" ["row"] s_brought f_brought d_brought
  a_check_both : At K mg "check_both" ["one", "other"] s_check_both f_check_both d_check_both
  a_named_by : At K mg "named_by" ["one", "other"] s_named_by f_named_by d_named_by
  a_leading : At K mg "leading" ["one", "other"] s_leading f_leading d_leading
  a_apart : At K mg "apart" ["one", "other"] s_apart f_apart d_apart
  a_l_cell_at : At K mg "_law_cell_at" ["_law_script", "_law_k"] s_l_cell_at f_l_cell_at d_l_cell_at
  a_l_draw : At K mg "_law_draw" ["_law_cell", "_law_k", "_law_many"] s_l_draw f_l_draw d_l_draw
  a_l_number : At K mg "_law_number" ["_law_cell", "_law_k"] s_l_number f_l_number d_l_number
  a_l_order : At K mg "_law_order" ["_law_script", "_law_by"] s_l_order f_l_order d_l_order
  a_l_turned : At K mg "_law_turned" ["_law_row_here", "_law_by"] s_l_turned f_l_turned d_l_turned
  a_l_done : At K mg "_law_done" ["_law_row_here", "_law_swaps"] s_l_done f_l_done d_l_done
  a_l_row : At K mg "_law_row" ["_law_script"] s_l_row f_l_row d_l_row
  a_l_kinds : At K mg "_law_kinds" ["_law_error"] s_l_kinds f_l_kinds d_l_kinds
  a_l_with_row : At K mg "_law_with_row" ["_law_door", "_law_row_here"] s_l_with_row f_l_with_row d_l_with_row
  a_l_with_swaps : At K mg "_law_with_swaps" ["_law_row_here", "_law_swaps"] s_l_with_swaps f_l_with_swaps d_l_with_swaps
  a_l_with_other : At K mg "_law_with_other" ["_law_row_here", "_law_pair"] s_l_with_other f_l_with_other d_l_with_other
  a_l_told : At K mg "_law_told" ["_law_ask", "_law_one", "_law_other"] s_l_told f_l_told d_l_told
  a_law : At K mg "law" ["_law_script"] s_law f_law d_law
  z_isinstance : mg "isinstance" = none
  z_int : mg "int" = none
  z_bool : mg "bool" = none
  z_sorted : mg "sorted" = none
  z_list : mg "list" = none
  z_len : mg "len" = none
  z_all : mg "all" = none
  z_range : mg "range" = none
  z_enumerate : mg "enumerate" = none
  z_max : mg "max" = none
  z_min : mg "min" = none
  z_ValueError : mg "ValueError" = none
end Toy
set_option Elab.async false
set_option linter.all false
set_option maxRecDepth 100000
set_option maxHeartbeats 4000000
namespace Toy
open PySem L2
/-! ## small words for the walk -/
abbrev vi (l : List Int) : List V := l.map V.int
theorem vi_get {l : List Int} {i : Nat} {z : V} (h : (vi l)[i]? = some z) : i < l.length ∧ z = V.int (RS.fr l i) := by
  rw [List.getElem?_map] at h
  cases e : l[i]? with
  | none =>
    rw [e] at h
    cases h
  | some x =>
    rw [e] at h
    have hi := (List.getElem?_eq_some_iff.mp e).1
    refine ⟨hi, ?_⟩
    have e2 : l[i] = x := (List.getElem?_eq_some_iff.mp e).2
    rw [RS.fr_eq hi, e2]
    exact (Option.some.inj h).symm
theorem vi_some {l : List Int} {i : Nat} (h : i < l.length) : (vi l)[i]? = some (V.int (RS.fr l i)) := by
  rw [List.getElem?_map, List.getElem?_eq_getElem h, RS.fr_eq h]; rfl
theorem vi_len (l : List Int) : (vi l).length = l.length := List.length_map _
theorem vi_set (l : List Int) (j : Nat) (x : Int) : (vi l).set j (.int x) = vi (l.set j x) := List.map_set.symm
theorem vi_app (l m : List Int) : vi l ++ vi m = vi (l ++ m) := List.map_append.symm
theorem vi_snoc (l : List Int) (x : Int) : vi l ++ [V.int x] = vi (l ++ [x]) := vi_app l [x]
theorem at_vi {l : List Int} {i : Int} (h0 : 0 ≤ i) (h : i < l.length) : atI (vi l) i = some (V.int (RS.fr l i.toNat)) := by
  have e : i = ((i.toNat : Nat) : Int) := by omega
  rw [e, Int.toNat_natCast]
  exact atI_nat (vi_some (by omega))
theorem ix_vi {l : List Int} {i : Int} (h0 : 0 ≤ i) (h : i < l.length) : ixN (vi l).length i = some i.toNat := by
  rw [vi_len]
  unfold ixN
  rw [if_pos h0, if_pos h]
theorem same_new {H H' : Hp} {p : Addr} {o : HO} (s : Same H H') (h : H' p = none) : Same H (upd H' p o) := fun b u e => by
  rw [upd_ne (ne_of_none (s b u e) h)]
  exact s b u e
theorem same_mut {H H' : Hp} {p : Addr} {o : HO} (s : Same H H') (h : H p = none) : Same H (upd H' p o) := fun b u e => by
  rw [upd_ne (ne_of_none e h)]
  exact s b u e
theorem same_lst {H H' : Hp} {p : Addr} {o : HO} (s : Same H H') (h : H p = some o) : H' p = some o := s p o h
theorem size_le {n : Nat} (h : n ≤ 100000) : n ≤ sizeLine := Nat.le_trans h (by decide)
theorem size_lt {n : Nat} (h : n < 100000) : n < sizeLine := Nat.lt_of_lt_of_le h (by decide)
/-- a list's item, to be stored back -/
theorem get_list {X : Cx} : PGet X (rIxL X.K) := by
  intro pins s σ H o i ov iv Q I ro ri h
  obtain ⟨p, xs, k, z, rfl, rfl, hq, he, q⟩ := h
  cases ro
  obtain ⟨t, rfl⟩ := ri
  obtain ⟨its, r, pl, hz⟩ := I.list hq
  obtain ⟨j, h1, h2, h3, h4, h5⟩ := atI_get he
  obtain ⟨w, ew, rw'⟩ := r.get h2
  have hl := r.length
  have hn := line63
  have fin : EP X pins σ Q w s := ⟨z, H, I, rw', q⟩
  by_cases h0 : 0 ≤ k
  · have hj : k.toNat = j := by
      rw [seqIndex_of h0 h5] at h1
      exact Option.some.inj h1
    exact wpAny_getItem_list pl.isList h0 (by omega) (by rw [hj]; simpa using ew) fin
  · have hj : (k + (its.toArray.size : Int)).toNat = j := by
      rw [seqIndex_neg (by omega) h4] at h1
      rw [List.size_toArray, ← hl]
      exact Option.some.inj h1
    exact wpAny_getItem_list_neg pl.isList (by omega) (by rw [List.size_toArray] <;> omega) (by omega) (by rw [hj]; simpa using ew) fin
theorem fmod_pos {a n : Int} (h : 0 < n) : a.fmod n = a % n := Int.fmod_eq_emod_of_nonneg a (by omega)
theorem fdiv_pos {a n : Int} (h : 0 < n) : a.fdiv n = a / n := Int.fdiv_eq_ediv_of_nonneg a (by omega)
theorem rgV_ids {n : Nat} : rgV 0 (n : Int) = vi (RS.ids n) := by
  unfold rgV vi RS.ids
  rw [List.map_map]
  have : ((n : Int) - 0).toNat = n := by omega
  rw [this]
  refine List.map_congr_left fun i _ => ?_
  show V.int (0 + (i : Int)) = V.int (i : Int)
  rw [Int.zero_add]
theorem rgOk_n {n : Nat} (h : n ≤ 100000) : RgOk 0 (n : Int) := RgOk.of_le (by omega) (by omega) (by omega) (by omega)

/-! ## the rules again, over lists of ints, the answer by an equation -/
section
variable {X : Cx}
theorem OpR.imp {f : Value → Value → Sem Value} {r r' : R2} (h : OpR X f r) (k : ∀ x y H Q, r' x y H Q → r x y H Q) : OpR X f r' := fun pins s σ H x y v u Q I rx ry q => h pins s σ H x y v u Q I rx ry (k x y H Q q)
theorem IxR.imp {r r' : R2} (h : IxR X r) (k : ∀ x y H Q, r' x y H Q → r x y H Q) : IxR X r' := fun value slice pins s σ H x y v u Q I rx ry q hs => h value slice pins s σ H x y v u Q I rx ry (k x y H Q q) hs
theorem CallR.imp {f : Value} {r r' : List V → Hp → VK → Prop} (h : CallR X f r) (k : ∀ xs H Q, r' xs H Q → r xs H Q) : CallR X f r' := fun pins s σ H xs us Q I rs q => h pins s σ H xs us Q I rs (k xs H Q q)
theorem MtM.imp {id : String} {r r' : V → List V → Hp → VK → Prop} (h : MtM X id r) (k : ∀ x xs H Q, r' x xs H Q → r x xs H Q) : MtM X id r' := fun pins s σ H x xs v us Q I rx rs q => h pins s σ H x xs v us Q I rx rs (k x xs H Q q)
theorem PGet.imp {r r' : R2} (h : PGet X r) (k : ∀ x y H Q, r' x y H Q → r x y H Q) : PGet X r' := fun pins s σ H o i ov iv Q I ro ri q => h pins s σ H o i ov iv Q I ro ri (k o i H Q q)
theorem PSet.imp {r r' : TSet} (h : PSet X r) (k : ∀ o i v H Q, r' o i v H Q → r o i v H Q) : PSet X r' := fun pins s σ H o i v ov iv u Q I ro ri rv q => h pins s σ H o i v ov iv u Q I ro ri rv (k o i v H Q q)
def rModZ : R2 := fun x y H Q => ∃ i j k : Int, x = .int i ∧ y = .int j ∧ 0 < j ∧ i % j = k ∧ Q (.int k) H
theorem op_modZ : OpR X (binaryOp .Mod) rModZ := OpR.imp op_mod fun x y H Q h => by
  obtain ⟨i, j, k, e1, e2, h0, rfl, q⟩ := h
  exact ⟨i, j, e1, e2, h0, q⟩
def rDivZ : R2 := fun x y H Q => ∃ i j k : Int, x = .int i ∧ y = .int j ∧ 0 < j ∧ j ≤ 100000 ∧ i / j = k ∧ Q (.int k) H
theorem op_divZ : OpR X (binaryOp .FloorDiv) rDivZ := OpR.imp op_fdiv fun x y H Q h => by
  obtain ⟨i, j, k, e1, e2, h0, h1, rfl, q⟩ := h
  exact ⟨i, j, e1, e2, ⟨h0, by omega⟩, q⟩
def rMulZ : R2 := fun x y H Q => ∃ i j k : Int, x = .int i ∧ y = .int j ∧ ((-1000000 ≤ i ∧ i ≤ 1000000) ∨ (-1000000 ≤ j ∧ j ≤ 1000000)) ∧ i * j = k ∧ Q (.int k) H
theorem op_mulZ : OpR X (binaryOp .Mult) rMulZ := OpR.imp op_mul fun x y H Q h => by
  obtain ⟨i, j, k, e1, e2, h0, rfl, q⟩ := h
  refine ⟨i, j, e1, e2, ?_, q⟩
  rcases h0 with h0 | h0
  · exact .inl ⟨by omega, by omega⟩
  · exact .inr ⟨by omega, by omega⟩
def rLenZ (K : PySem.W.Frag) : List V → Hp → VK → Prop := fun xs H Q => ∃ (p : Addr) (l : List Int) (n : Int), xs = [.ref p] ∧ SqL K H p (vi l) ∧ (l.length : Int) = n ∧ Q (.int n) H
theorem lenZ : CallR X (.builtin "len") (rLenZ X.K) := CallR.imp call_len_seq fun xs H Q h => by
  obtain ⟨p, l, n, e, hs, rfl, q⟩ := h
  exact ⟨p, vi l, e, .inl hs, by rw [vi_len]; exact q⟩
def rIxZ (K : PySem.W.Frag) : R2 := fun x y H Q => ∃ (p : Addr) (l : List Int) (i v : Int), x = .ref p ∧ y = .int i ∧ SqL K H p (vi l) ∧ 0 ≤ i ∧ i < l.length ∧ RS.fr l i.toNat = v ∧ Q (.int v) H
theorem rIxZ_imp {K : PySem.W.Frag} (x y : V) (H : Hp) (Q : VK) (h : rIxZ K x y H Q) : rIxL K x y H Q := by
  obtain ⟨p, l, i, v, e1, e2, hs, h0, h1, rfl, q⟩ := h
  exact ⟨p, vi l, i, _, e1, e2, hs, at_vi h0 h1, q⟩
theorem ixZ : IxR X (rIxZ X.K) := IxR.imp ix_list rIxZ_imp
theorem getZ : PGet X (rIxZ X.K) := PGet.imp get_list rIxZ_imp
def rSetZ : TSet := fun o i v H Q => ∃ (p : Addr) (l : List Int) (k x : Int), o = .ref p ∧ i = .int k ∧ v = .int x ∧ H p = some (.lst (vi l)) ∧ 0 ≤ k ∧ k < l.length ∧ Q (upd H p (.lst (vi (l.set k.toNat x))))
theorem setZ : PSet X rSetZ := PSet.imp set_list fun o i v H Q h => by
  obtain ⟨p, l, k, x, e1, e2, rfl, hp, h0, h1, q⟩ := h
  exact ⟨p, vi l, k, k.toNat, e1, e2, hp, ix_vi h0 h1, by rw [vi_set]; exact q⟩
def rAppZ : V → List V → Hp → VK → Prop := fun x vs H Q => ∃ (l : Addr) (xs : List Int) (y : Int), x = .ref l ∧ vs = [.int y] ∧ H l = some (.lst (vi xs)) ∧ xs.length < 100000 ∧ Q .non (upd H l (.lst (vi (xs ++ [y]))))
theorem appZ : MtM X "list.append" rAppZ := MtM.imp mt_append fun x vs H Q h => by
  obtain ⟨l, xs, y, e1, e2, hp, h0, q⟩ := h
  exact ⟨l, vi xs, .int y, e1, e2, hp, by rw [vi_len]; exact size_lt h0, by rw [vi_snoc]; exact q⟩
def rExtZ : V → List V → Hp → VK → Prop := fun x vs H Q => ∃ (l b : Addr) (xs zs : List Int), x = .ref l ∧ vs = [.ref b] ∧ H l = some (.lst (vi xs)) ∧ H b = some (.lst (vi zs)) ∧ xs.length + zs.length ≤ 100000 ∧ Q .non (upd H l (.lst (vi (xs ++ zs))))
theorem extZ : MtM X "list.extend" rExtZ := MtM.imp mt_extend fun x vs H Q h => by
  obtain ⟨l, b, xs, zs, e1, e2, hp, hb, h0, q⟩ := h
  exact ⟨l, b, vi xs, vi zs, e1, e2, hp, hb, by rw [vi_len, vi_len]; exact size_le h0, by rw [vi_app]; exact q⟩
def rPopZ : V → List V → Hp → VK → Prop := fun x vs H Q => ∃ (l : Addr) (xs : List Int) (y : Int), x = .ref l ∧ vs = [] ∧ H l = some (.lst (vi (xs ++ [y]))) ∧ Q (.int y) (upd H l (.lst (vi xs)))
theorem popZ : MtM X "list.pop" rPopZ := MtM.imp mt_pop fun x vs H Q h => by
  obtain ⟨l, xs, y, e1, e2, hp, q⟩ := h
  refine ⟨l, vi (xs ++ [y]), .int y, e1, e2, hp, ?_, ?_⟩
  · rw [vi_len, List.length_append, List.length_singleton, ← vi_snoc]
    have : xs.length + 1 - 1 = (vi xs).length := by rw [vi_len]; omega
    rw [this]
    simp
  · have : (vi (xs ++ [y])).dropLast = vi xs := by rw [← vi_snoc, List.dropLast_concat]
    rw [this]
    exact q
def rInsZ : V → List V → Hp → VK → Prop := fun x vs H Q => ∃ (l : Addr) (xs : List Int) (i y : Int), x = .ref l ∧ vs = [.int i, .int y] ∧ H l = some (.lst (vi xs)) ∧ xs.length < 100000 ∧ 0 ≤ i ∧ i < 100000 ∧
  Q .non (upd H l (.lst (vi (xs.take i.toNat ++ [y] ++ xs.drop i.toNat))))
theorem insZ : MtR X "list.insert" rInsZ := fun pins s σ H x vs v us Q I rx rv h => by
  obtain ⟨l, xs, i, y, e1, e2, hp, h0, h1, h2, q⟩ := h
  refine mt_insert pins s σ H x vs v us Q I rx rv ⟨l, vi xs, i, .int y, e1, e2, hp, by rw [vi_len]; exact size_lt h0, h1, by omega, ?_⟩
  have : (vi xs).take i.toNat ++ [V.int y] ++ (vi xs).drop i.toNat = vi (xs.take i.toNat ++ [y] ++ xs.drop i.toNat) := by
    unfold vi
    rw [List.map_append, List.map_append, List.map_take, List.map_drop]; rfl
  rw [this]
  exact q
/-- a slice of ints -/
def cutI (xs : List Int) (lo hi : Option Int) : List Int := (xs.drop (HT.sIx xs.length 0 lo)).take (HT.sIx xs.length xs.length hi - HT.sIx xs.length 0 lo)
theorem cut_vi (l : List Int) (lo hi : Option Int) : cutV (vi l) lo hi = vi (cutI l lo hi) := by
  unfold cutV cutI vi
  rw [List.length_map, List.map_take, List.map_drop]
def rSlZ (K : PySem.W.Frag) : V → Option Int → Option Int → Hp → VK → Prop := fun x lo hi H Q => ∃ (a : Addr) (l m : List Int), x = .ref a ∧ SqL K H a (vi l) ∧ cutI l lo hi = m ∧ ∀ p, H p = none → Q (.ref p) (upd H p (.lst (vi m)))
theorem slZ : SlR X (rSlZ X.K) := fun pins s σ H x v vl vu lo hi sl Q I rx hs pl pu h => by
  obtain ⟨a, l, m, e, ha, rfl, q⟩ := h
  exact sl_list pins s σ H x v vl vu lo hi sl Q I rx hs pl pu ⟨a, vi l, e, ha, fun p hp => by rw [cut_vi]; exact q p hp⟩
def rCatZ : R2 := fun x y H Q => ∃ (l b : Addr) (xs zs : List Int), x = .ref l ∧ y = .ref b ∧ H l = some (.lst (vi xs)) ∧ H b = some (.lst (vi zs)) ∧ xs.length + zs.length ≤ 100000 ∧ ∀ p, H p = none → Q (.ref p) (upd H p (.lst (vi (xs ++ zs))))
theorem op_catZ : OpR X (binaryOp .Add) rCatZ := OpR.imp op_cat fun x y H Q h => by
  obtain ⟨l, b, xs, zs, e1, e2, hl, hb, h0, q⟩ := h
  exact ⟨l, b, vi xs, vi zs, e1, e2, hl, hb, by rw [vi_len, vi_len]; exact size_le h0, fun p hp => by rw [vi_app]; exact q p hp⟩
def rRepZ : R2 := fun x y H Q => ∃ (l : Addr) (k v : Int), x = .ref l ∧ y = .int k ∧ H l = some (.lst [.int v]) ∧ 0 ≤ k ∧ k ≤ 100000 ∧ ∀ p, H p = none → Q (.ref p) (upd H p (.lst (vi (List.replicate k.toNat v))))
theorem op_repZ : OpR X (binaryOp .Mult) rRepZ := OpR.imp op_rep fun x y H Q h => by
  obtain ⟨l, k, v, e1, e2, hl, h0, h1, q⟩ := h
  refine ⟨l, k, [.int v], e1, e2, hl, by omega, by omega, ?_, fun p hp => ?_⟩
  · rw [List.length_singleton, Nat.one_mul]
    exact size_le (by omega)
  · have : (List.replicate k.toNat [V.int v]).flatten = vi (List.replicate k.toNat v) := by
      have h2 : ∀ n : Nat, (List.replicate n [V.int v]).flatten = vi (List.replicate n v) := fun n => by
        induction n with
        | zero => rfl
        | succ n ih =>
          rw [List.replicate_succ, List.replicate_succ, List.flatten_cons, ih]; rfl
      exact h2 _
    rw [this]
    exact q p hp
def rLstZ (K : PySem.W.Frag) : List V → Hp → VK → Prop := fun xs H Q => ∃ (p : Addr) (l : List Int), xs = [.ref p] ∧ SqL K H p (vi l) ∧ ∀ q, H q = none → Q (.ref q) (upd H q (.lst (vi l)))
theorem lstZ : CallR X (.type "list") (rLstZ X.K) := CallR.imp call_list_of fun xs H Q h => by
  obtain ⟨p, l, e, hs, q⟩ := h
  exact ⟨p, vi l, e, .inl hs, q⟩
def rAbsZ : List V → Hp → VK → Prop := fun xs H Q => ∃ i k : Int, xs = [.int i] ∧ (i.natAbs : Int) = k ∧ Q (.int k) H
theorem absZ : CallR X (.builtin "abs") rAbsZ := CallR.imp call_abs fun xs H Q h => by
  obtain ⟨i, k, e, rfl, q⟩ := h
  refine ⟨i, e, ?_⟩
  have : (if i < 0 then -i else i) = (i.natAbs : Int) := by
    split <;> omega
  rw [this]
  exact q
/-- all of a list of truths -/
def rAllZ (K : PySem.W.Frag) : List V → Hp → VK → Prop := fun vs H Q => ∃ (a : Addr) (bs : List Bool), vs = [V.ref a] ∧ SqL K H a (bs.map V.bl) ∧ ∀ c : Bool, (c = true ↔ ∀ b ∈ bs, b = true) → Q (.bl c) H
theorem allZ (hc : X.calm = true) : CallR X (.builtin "all") (rAllZ X.K) := CallR.imp (cr_all hc) fun xs H Q h => by
  obtain ⟨a, bs, e, hs, q⟩ := h
  exact ⟨a, bs, e, hs, q _ (by simp [List.all_eq_true])⟩
/-- the first place of a number that is there -/
def rIndZ (K : PySem.W.Frag) : V → List V → Hp → VK → Prop := fun x vs H Q => ∃ (a : Addr) (l : List Int) (v : Int), x = .ref a ∧ vs = [.int v] ∧ SqL K H a (vi l) ∧ v ∈ l ∧ ∀ j : Nat, j < l.length → RS.fr l j = v → Q (.int (j : Int)) H
theorem indZ : MtR X "list.index" (rIndZ X.K) := fun pins s σ H x vs w us Q I rx rv h => by
  obtain ⟨a, l, v, e1, e2, hs, hm, q⟩ := h
  have first : ∀ (k : Nat) (l : List Int), l.length ≤ k → v ∈ l → ∃ j, j < l.length ∧ RS.fr l j = v ∧ ∀ m, m < j → RS.fr l m ≠ v := by
    intro k
    induction k with
    | zero =>
      intro l hk hm
      have : l = [] := List.length_eq_zero_iff.mp (by omega)
      rw [this] at hm
      cases hm
    | succ k ih =>
      intro l hk hm
      cases l with
      | nil => cases hm
      | cons y r =>
        by_cases e : y = v
        · exact ⟨0, Nat.succ_pos _, e, fun m hm => absurd hm (Nat.not_lt_zero _)⟩
        · have hr : v ∈ r := by
            rcases List.mem_cons.mp hm with z | z
            · exact (e z.symm).elim
            · exact z
          obtain ⟨j, h1, h2, h3⟩ := ih r (by rw [List.length_cons] at hk; omega) hr
          refine ⟨j + 1, by rw [List.length_cons]; omega, h2, fun m hm => ?_⟩
          cases m with
          | zero => exact e
          | succ m => exact h3 m (by omega)
  obtain ⟨j, h1, h2, h3⟩ := first _ l (Nat.le_refl _) hm
  refine mt_index pins s σ H x vs w us Q I rx rv ⟨a, vi l, .int v, j, .int v, e1, e2, hs, rfl, ?_, ?_, ?_, fun m z' hm hz => ?_, q j h1 h2⟩
  · rw [List.all_eq_true]
    intro y hy
    obtain ⟨n, _, rfl⟩ := List.mem_map.mp hy
    rfl
  · rw [vi_some h1, h2]
  · show (v == v) = true
    exact beq_self_eq_true v
  · obtain ⟨_, rfl⟩ := vi_get hz
    show (RS.fr l m == v) = false
    exact beq_eq_false_iff_ne.mpr (h3 m hm)
/-- == of two lists of ints -/
theorem dp_vi (K : PySem.W.Frag) (H : Hp) : ∀ l : List Int, DpAll K H (vi l) (l.map PyData.int)
  | [] => .nil
  | n :: r => .cons (.int n) (dp_vi K H r)
theorem eqv_vi : ∀ l m : List Int, PyData.eqvAll (l.map PyData.int) (m.map PyData.int) = true ↔ l = m
  | [], [] => by simp [PyData.eqvAll]
  | [], _ :: _ => by simp [PyData.eqvAll]
  | _ :: _, [] => by simp [PyData.eqvAll]
  | a :: l, b :: m => by
    have ih := eqv_vi l m
    rw [List.map_cons, List.map_cons]
    unfold PyData.eqvAll
    rw [Bool.and_eq_true, ih, List.cons.injEq]
    have : PyData.eqv (.int a) (.int b) = true ↔ a = b := by
      unfold PyData.eqv
      exact beq_iff_eq
    rw [this]
theorem shaped_vi (l : List Int) : SeqAt.shaped (.list (l.map PyData.int)) = true := by
  have h1 : ∀ l : List Int, PyData.canLayAll0 (l.map PyData.int) = true := fun l => by
    induction l with
    | nil => simp [PyData.canLayAll0]
    | cons a l ih =>
      rw [List.map_cons]
      unfold PyData.canLayAll0
      rw [ih]
      simp [PyData.canLay0]
  have h2 : ∀ l : List Int, PyData.depthAll (l.map PyData.int) ≤ 1 := fun l => by
    induction l with
    | nil => simp [PyData.depthAll]
    | cons a l ih =>
      rw [List.map_cons]
      unfold PyData.depthAll
      have : PyData.depth (.int a) ≤ 1 := by simp [PyData.depth]
      omega
  unfold SeqAt.shaped
  rw [Bool.and_eq_true]
  refine ⟨?_, decide_eq_true ?_⟩
  · unfold PyData.canLay0
    exact h1 l
  · have := h2 l
    unfold PyData.depth
    omega
def rEqZ (K : PySem.W.Frag) (neg : Bool) : R2 := fun x y H Q => ∃ (a b : Addr) (l m : List Int), x = .ref a ∧ y = .ref b ∧ SqL K H a (vi l) ∧ SqL K H b (vi m) ∧ ∀ c : Bool, (c = true ↔ l = m) → Q (.bl (if neg then !c else c)) H
theorem op_eqZ (hu : X.A.units + 64 < cLine) : OpR X (compareOp .Eq) (rEqZ X.K false) := OpR.imp (op_eqD hu) fun x y H Q h => by
  obtain ⟨a, b, l, m, rfl, rfl, ha, hb, q⟩ := h
  exact ⟨.list (l.map PyData.int), .list (m.map PyData.int), .lst ha (dp_vi _ _ l), .lst hb (dp_vi _ _ m), shaped_vi l, shaped_vi m, q _ (eqv_vi l m)⟩
theorem op_neZ (hu : X.A.units + 64 < cLine) : OpR X (compareOp .NotEq) (rEqZ X.K true) := OpR.imp (op_neD hu) fun x y H Q h => by
  obtain ⟨a, b, l, m, rfl, rfl, ha, hb, q⟩ := h
  exact ⟨.list (l.map PyData.int), .list (m.map PyData.int), .lst ha (dp_vi _ _ l), .lst hb (dp_vi _ _ m), shaped_vi l, shaped_vi m, q _ (eqv_vi l m)⟩
end

/-! ## loops -/
/-- range(n), the turn's number as it is -/
theorem for_range0 {n : Nat} {g : TG} {tb : TS} {D : Ends} {σ : St} {H : Hp} (Pv : Nat → St → Hp → Prop) (h0 : Pv 0 σ H)
    (hs : ∀ i σ H, i < n → Pv i σ H → g (.int (i : Int)) σ H fun σ2 H2 => tb { D with nx := Pv (i + 1), ct := Pv (i + 1), bk := D.nx } σ2 H2) (hd : ∀ σ H, Pv n σ H → D.nx σ H) :
    ∃ W : Nat → Nat → St → Hp → Prop, (∃ m, W 0 m σ H) ∧ ∀ i m σ H, W i m σ H →
      ((Itr 0 n).stop i H ∧ D.nx σ H) ∨ ((Itr 0 n).go i H ∧ ∃ N : St → Hp → Prop, (∀ σ' H', N σ' H' → ∃ m', m' < m ∧ W (i + 1) m' σ' H') ∧ ∀ x H', (Itr 0 n).yld i H x H' → g x σ H' fun σ2 H2 => tb { D with nx := N, ct := N, bk := D.nx } σ2 H2) :=
  for_range (lo := 0) (n := n) Pv h0 (fun i σ H hi p => by
    have e : (0 : Int) + (i : Int) = (i : Int) := Int.zero_add _
    rw [e]
    exact hs i σ H hi p) hd
/-- a comprehension's new list at D: its items so far -/
structure LI (H : Hp) (D : Addr) (F : Nat → V) (i : Nat) (H2 : Hp) : Prop where
  s : Same H H2
  d : H2 D = some (.lst ((List.range i).map F))
theorem li_start {H H1 : Hp} {D : Addr} {F : Nat → V} (s : Same H H1) (hD : H1 D = none) : LI H D F 0 (upd H1 D (.lst [])) := ⟨same_new s hD, upd_same⟩
theorem li_step {H H2 H3 : Hp} {D : Addr} {F : Nat → V} {i : Nat} {v : V} (L : LI H D F i H2) (s : Same H2 H3) (hD : H D = none) (hi : i < 100000) (hv : F i = v) :
    ∃ acc, H3 D = some (.lst acc) ∧ acc.length < sizeLine ∧ LI H D F (i + 1) (upd H3 D (.lst (acc ++ [v]))) := by
  refine ⟨_, s _ _ L.d, ?_, same_mut (Same.trans L.s s) hD, ?_⟩
  · rw [List.length_map, List.length_range]
    exact size_lt hi
  · rw [upd_same, List.range_succ, List.map_append, ← hv]; rfl
theorem li_bls {H H2 : Hp} {D : Addr} {f : Nat → Bool} {n : Nat} (L : LI H D (fun i => .bl (f i)) n H2) : H2 D = some (.lst (((List.range n).map f).map V.bl)) := by
  rw [L.d, List.map_map]; rfl
theorem li_ints {H H2 : Hp} {D : Addr} {f : Nat → Int} {n : Nat} (L : LI H D (fun i => .int (f i)) n H2) : H2 D = some (.lst (vi ((List.range n).map f))) := by
  rw [L.d]
  unfold vi
  rw [List.map_map]; rfl
theorem all_range {n : Nat} {f : Nat → Bool} {c : Bool} {p : Prop} (hc : c = true ↔ ∀ b ∈ (List.range n).map f, b = true) (h : (∀ i, i < n → f i = true) ↔ p) : c = true ↔ p := by
  refine hc.trans (Iff.trans ?_ h)
  constructor
  · intro q i hi
    exact q _ (List.mem_map.mpr ⟨i, List.mem_range.mpr hi, rfl⟩)
  · intro q b hb
    obtain ⟨i, hi, rfl⟩ := List.mem_map.mp hb
    exact q i (List.mem_range.mp hi)

/-! ## tests -/
theorem ite_ne {x y : Int} {A B : Prop} (h1 : x ≠ y → A) (h2 : x = y → B) : if (!decide (V.int x = V.int y)) = true then A else B := by
  by_cases e : x = y
  · have : decide (V.int x = V.int y) = true := decide_eq_true (by rw [e])
    rw [this]
    exact iteF (h2 e)
  · have : decide (V.int x = V.int y) = false := decide_eq_false (fun z => e (V.int.inj z))
    rw [this]
    exact iteT (h1 e)
theorem ite_eq {x y : Int} {A B : Prop} (h1 : x = y → A) (h2 : x ≠ y → B) : if decide (V.int x = V.int y) = true then A else B := by
  by_cases e : x = y
  · have : decide (V.int x = V.int y) = true := decide_eq_true (by rw [e])
    rw [this]
    exact iteT (h1 e)
  · have : decide (V.int x = V.int y) = false := decide_eq_false (fun z => e (V.int.inj z))
    rw [this]
    exact iteF (h2 e)
theorem ite_d {c A B : Prop} [Decidable c] (h1 : c → A) (h2 : ¬ c → B) : if decide c = true then A else B := by
  by_cases e : c
  · rw [decide_eq_true e]
    exact iteT (h1 e)
  · rw [decide_eq_false e]
    exact iteF (h2 e)
theorem ite_not {c : Bool} {A B : Prop} (h1 : c = false → A) (h2 : c = true → B) : if (!c) = true then A else B := by
  cases c with
  | true => exact iteF (h2 rfl)
  | false => exact iteT (h1 rfl)
theorem ite_b {c : Bool} {A B : Prop} (h1 : c = true → A) (h2 : c = false → B) : if c = true then A else B := by
  cases c with
  | true => exact iteT (h1 rfl)
  | false => exact iteF (h2 rfl)
theorem ff_iff {p : Prop} (h : ¬ p) : (false = true) ↔ p := ⟨(fun z => nomatch z), fun z => (h z).elim⟩
theorem tt_iff {p : Prop} (h : p) : (true = true) ↔ p := ⟨fun _ => h, fun _ => rfl⟩
theorem dv_iff {x y : Int} : decide (V.int x = V.int y) = true ↔ x = y := by
  rw [decide_eq_true_iff, V.int.injEq]
end Toy
set_option Elab.async false
set_option linter.all false
set_option maxRecDepth 100000
set_option maxHeartbeats 4000000
namespace Toy
open PySem L2
/-! ## great numbers -/
def rMulB : R2 := fun x y H Q => ∃ i j : Int, x = .int i ∧ y = .int j ∧ (∃ m k : Nat, m + k ≤ 100000000 ∧ i.natAbs < 2 ^ m ∧ j.natAbs < 2 ^ k) ∧ Q (.int (i * j)) H
theorem op_mulB {X : Cx} : OpR X (binaryOp .Mult) rMulB := fun pins s σ H x y v u Q I rx ry h => by
  obtain ⟨i, j, rfl, rfl, ⟨m, k, hmk, h1, h2⟩, q⟩ := h
  obtain ⟨t, rfl⟩ := rx
  obtain ⟨t', rfl⟩ := ry
  refine PyProof.Rows.mul_int ⟨.int (i * j), H, I.tok _, ⟨_, rfl⟩, q⟩ ?_
  unfold IntMulOk
  intro z
  rw [Bool.and_eq_true] at z
  have z2 := z.2
  unfold Builtin.Int.intTooBig at z2
  have z3 := of_decide_eq_true z2
  have b1 := PyProof.Rows.intBits_le h1
  have b2 := PyProof.Rows.intBits_le h2
  have e : bitsLine = 134217728 := by decide
  rw [e] at z3
  omega
theorem bm_of_bits {n : Int} {M : Nat} (h : Builtin.Int.intBits n ≤ M) : RS.BM M n := by
  unfold Builtin.Int.intBits at h
  by_cases e : (n == 0) = true
  · have : n = 0 := by simpa using e
    subst this
    exact ⟨0, Nat.zero_le _, by decide⟩
  · rw [if_neg e] at h
    exact ⟨n.natAbs.log2 + 1, h, Nat.lt_log2_self⟩
theorem cut_from {l : List Int} {k : Nat} (h : k ≤ l.length) : cutI l (some (k : Int)) none = l.drop k := by
  unfold cutI
  rw [HT.sIx_none, HT.sIx_nat, Nat.min_eq_left h]
  exact List.take_of_length_le (by rw [List.length_drop]; omega)
theorem cut_to {l : List Int} {k : Nat} (h : k ≤ l.length) : cutI l none (some (k : Int)) = l.take k := by
  unfold cutI
  rw [HT.sIx_none, HT.sIx_nat, Nat.min_eq_left h, List.drop_zero, Nat.sub_zero]
theorem cut_take (l : List Int) (k : Nat) : cutI l none (some (k : Int)) = l.take k := by
  unfold cutI
  rw [HT.sIx_none, HT.sIx_nat, List.drop_zero, Nat.sub_zero]
  by_cases h : k ≤ l.length
  · rw [Nat.min_eq_left h]
  · rw [Nat.min_eq_right (by omega), List.take_of_length_le (by omega), List.take_of_length_le (by omega)]
end Toy
set_option Elab.async false
set_option linter.all false
set_option maxRecDepth 100000
set_option maxHeartbeats 4000000
namespace Toy
open PySem L2
theorem ite_isnot {a b : Bool} {A B : Prop} (h : a = b) (k : B) : if (!decide (a = b)) = true then A else B := by
  subst h
  have : decide (a = a) = true := decide_eq_true rfl
  rw [this]
  exact iteF k
theorem cut_last (l : List Int) (x : Int) : cutI (l ++ [x]) none (some (-1)) = l := by
  unfold cutI
  have e : HT.sIx (l ++ [x]).length (l ++ [x]).length (some (-1)) = l.length := by
    rw [List.length_append, List.length_singleton]
    unfold HT.sIx
    simp
    try omega
  rw [HT.sIx_none, e, List.drop_zero, Nat.sub_zero]
  exact List.take_left' rfl
theorem not_iff_false {c : Bool} {p : Prop} (h : c = true ↔ p) (n : ¬ p) : c = false := by
  cases c with
  | false => rfl
  | true => exact (n (h.mp rfl)).elim
theorem rs_get {rs : List (Addr × List Int)} {i : Nat} {y : V} (h : (rs.map fun p => V.ref p.1)[i]? = some y) : ∃ p ∈ rs, y = .ref p.1 := by
  rw [List.getElem?_map] at h
  cases e : rs[i]? with
  | none =>
    rw [e] at h
    cases h
  | some p =>
    rw [e] at h
    exact ⟨p, List.mem_of_getElem? e, (Option.some.inj h).symm⟩

theorem kit_self (K : PySem.W.Frag) (C : Addr) : PySem.W.kitOne K (.ref C) (.ref C) = some true := if_pos (beq_self_eq_true _)
theorem kit_sub {K : PySem.W.Frag} {C A : Addr} (h2 : PySem.W.isClsIn K A = true) (h3 : PySem.W.typeIn K (.ref A) = some (.type "type")) (h4 : PySem.W.subIn K (.ref C) (.ref A) = some true) : PySem.W.kitOne K (.ref C) (.ref A) = some true := by
  unfold PySem.W.kitOne
  by_cases e : ((Value.ref C) == (Value.ref A)) = true
  · rw [if_pos e]
  · rw [if_neg e]
    have e2 : ((PySem.W.clsIn K A).isSome && PySem.W.typeIn K (.ref A) == some (.type "type")) = true := by
      have h2' : (PySem.W.clsIn K A).isSome = true := h2
      rw [h2', h3] <;> rfl
    show (if ((PySem.W.clsIn K A).isSome && PySem.W.typeIn K (.ref A) == some (.type "type")) = true then PySem.W.subIn K (.ref C) (.ref A) else none) = some true
    rw [if_pos e2]
    exact h4
end Toy
set_option Elab.async false
set_option linter.all false
set_option maxRecDepth 100000
set_option maxHeartbeats 4000000
namespace Toy
open PySem L2
section
variable {P : Program} {w : World} {K : PySem.W.Frag} {mg : Str → Option Value} {base : Heap}
/-! ## is_whole of an int -/
def sp_is_whole : Sp := fun vs H Q _ => ∃ n : Int, vs = [.int n] ∧ Q (.bl true) H
theorem ok_is_whole (T : Txt K mg) : FnOk P w K mg base CX0 1 T.f_is_whole T.d_is_whole ["thing"] sp_is_whole := by
  refine T.a_is_whole.F.ok sc_is_whole (fun vs H Q E h => ?_) (fun cdv A outer s H vs Q E hr h => ?_)
  · obtain ⟨n, rfl, _⟩ := h
    rfl
  · obtain ⟨n, rfl, k⟩ := h
    refine ⟨_, (pss_one (ps_ret (pe_and (pe_callB call_isi (by rfl) T.z_isinstance (by decide +kernel) (pa_cons (pv 0) (pa_cons (pe_bltn (v := .ty "int") (by rfl) T.z_int (by decide +kernel) rfl) pa_nil))) (pe_one (pe_not (pe_callB call_isi (by rfl) T.z_isinstance (by decide +kernel) (pa_cons (pv 0) (pa_cons (pe_bltn (v := .ty "bool") (by rfl) T.z_bool (by decide +kernel) rfl) pa_nil)))))))), ?_⟩
    refine ⟨_, rfl, _, _, _, _, true, rfl, ClsV.ty _, TyX.base (.int n), kit_ty (by decide +kernel), _, rfl, iteT ?_⟩
    exact ⟨_, rfl, _, _, _, _, false, rfl, ClsV.ty _, TyX.base (.int n), kit_ty (by decide +kernel), _, rfl, k⟩
/-! ## are_places -/
def sp_are_places (K : PySem.W.Frag) : Sp := fun vs H Q _ => ∃ (a : Addr) (sw : List Int) (n : Int), vs = [.ref a, .int n] ∧ SqL K H a (vi sw) ∧ sw.length ≤ 10000 ∧
  ∀ H' (c : Bool), Same H H' → (c = true ↔ RS.plOk n sw) → Q (.bl c) H'
theorem ok_are_places (T : Txt K mg) : FnOk P w K mg base CX0 2 T.f_are_places T.d_are_places ["swaps", "many"] (sp_are_places K) := by
  have G_is_whole : FnOk P w K mg base CX0 1 T.f_is_whole T.d_is_whole ["thing"] sp_is_whole := ok_is_whole T
  refine T.a_are_places.F.ok sc_are_places (fun vs H Q E h => ?_) (fun cdv A outer s H vs Q E hr h => ?_)
  · obtain ⟨a, sw, n, rfl, _⟩ := h
    rfl
  · obtain ⟨a, sw, n, rfl, ha, hl, k⟩ := h
    refine ⟨_, (pss_one (ps_ret (pe_callB (allZ rfl) (by rfl) T.z_all (by decide +kernel) (pa_cons (pe_lc (own := [("place", 2)]) (g := gName 2) (tt := tYes) rfl sc_are_places.nd (pi_list (pv 0)) (blkOk_by (N := ["swaps", "many", "place"]) (sc := defScope s_are_places) (by decide +kernel)) (fun _ _ _ _ _ => pg_name (i := 2) sc_are_places.nd rfl (Or.inl rfl)) (fun _ _ _ _ _ => pts_nil) (fun _ _ _ _ _ => (pe_and (pe_call G_is_whole hr rfl T.a_is_whole.g T.a_is_whole.F.kp T.a_is_whole.b .nil pass0 (pa_cons (pv 2) pa_nil)) (pe_one (pe_chain op_le op_lt pe_int (pv 2) (pv 1)))))) pa_nil)))), ?_⟩
    refine ⟨_, rfl, a, rfl, ⟨_, ha⟩, fun D hD => lc_list (K := K) (a := a) (xs := vi sw) (fun i H2 => Same H H2 ∧ H2 D = some (.lst (((sw.take i).map fun p => decide (0 ≤ p ∧ p < n)).map V.bl)))
      ⟨same_new (Same.refl H) hD, upd_same⟩ (fun i H2 _ ⟨s2, _⟩ => s2.seq ha) ?_ ?_⟩
    · rintro i x H2 hi ⟨s2, hL⟩
      obtain ⟨hi', rfl⟩ := vi_get hi
      have step : ∀ c : Bool, c = decide (0 ≤ RS.fr sw i ∧ RS.fr sw i < n) → ∃ acc, H2 D = some (.lst acc) ∧ acc.length < sizeLine ∧ (Same H (upd H2 D (.lst (acc ++ [V.bl c]))) ∧ (upd H2 D (.lst (acc ++ [V.bl c]))) D = some (.lst (((sw.take (i + 1)).map fun p => decide (0 ≤ p ∧ p < n)).map V.bl))) := fun c hc => by
        refine ⟨_, hL, ?_, same_mut s2 hD, ?_⟩
        · rw [List.length_map, List.length_map, List.length_take]
          exact size_lt (by omega)
        · rw [upd_same, List.take_succ_eq_append_getElem hi', List.map_append, List.map_append, hc, RS.fr_eq hi']
          rfl
      refine ⟨rfl, _, rfl, _, rfl, _, rfl, iteT ?_⟩
      refine ⟨_, rfl, _, _, rfl, rfl, _, rfl, ?_⟩
      refine ite2 (fun h0 => ?_) (fun h0 => ?_)
      · have h0' := of_decide_eq_true h0
        refine ⟨_, rfl, _, _, rfl, rfl, step _ ?_⟩
        by_cases h1 : RS.fr sw i < n
        · rw [decide_eq_true h1, decide_eq_true (show 0 ≤ RS.fr sw i ∧ RS.fr sw i < n from ⟨h0', h1⟩)]
        · rw [decide_eq_false h1, decide_eq_false (fun z => h1 z.2)]
      · have h0' : ¬ 0 ≤ RS.fr sw i := fun z => h0 (decide_eq_true z)
        refine step false ?_
        rw [decide_eq_false (fun z => h0' z.1)]
    · rintro H2 ⟨s2, hL⟩
      rw [vi_len, List.take_length] at hL
      refine ⟨D, _, rfl, SqL.of hL, fun c hc => k H2 c s2 (hc.trans ?_)⟩
      constructor
      · intro h p hp
        have := h _ (List.mem_map.mpr ⟨p, hp, rfl⟩)
        exact of_decide_eq_true this
      · intro h b hb
        obtain ⟨p, hp, rfl⟩ := List.mem_map.mp hb
        exact decide_eq_true (h p hp)
/-! ## behind, done -/
def sp_behind (K : PySem.W.Frag) : Sp := fun vs H Q _ => ∃ (a b : Addr) (row sw : List Int), vs = [.ref a, .ref b] ∧ SqL K H a (vi row) ∧ SqL K H b (vi sw) ∧ RS.plOk row.length sw ∧
  ∀ H' p, Same H H' → H p = none → H' p = some (.lst (vi (RS.doneL row sw))) → Q (.ref p) H'
theorem ok_behind (T : Txt K mg) : FnOk P w K mg base CX0 1 T.f_behind T.d_behind ["row", "swaps"] (sp_behind K) := by
  refine T.a_behind.F.ok sc_behind (fun vs H Q E h => ?_) (fun cdv A outer s H vs Q E hr h => ?_)
  · obtain ⟨a, b, row, sw, rfl, _⟩ := h
    rfl
  · obtain ⟨a, b, row, sw, rfl, ha, hb, pl, k⟩ := h
    refine ⟨_, (pss_cons (ps_set (i := 2) sc_behind.nd rfl (Or.inl rfl) (pe_callTy lstZ (by rfl) T.z_list (by decide +kernel) (pa_cons (pv 0) pa_nil)))
    (pss_cons (ps_for PassesOwn.never rfl (pi_list (pv 1)) (pg_name (i := 3) sc_behind.nd rfl (Or.inl rfl))
    (pss_cons (ps_set (i := 4) sc_behind.nd rfl (Or.inl rfl) (pe_op op_modZ (pe_op op_add (pv 3) pe_int) (pe_callB lenZ (by rfl) T.z_len (by decide +kernel) (pa_cons (pv 2) pa_nil))))
      (pss_one (ps_asg (pe_tup (pa_cons (pe_ix ixZ (pv 2) (pv 4) (fun _ _ => rfl)) (pa_cons (pe_ix ixZ (pv 2) (pv 3) (fun _ _ => rfl)) pa_nil))) (pg_tup (by rfl) (pgs_cons (pg_sub (pv 2) (pv 3) setZ) (pgs_cons (pg_sub (pv 2) (pv 4) setZ) pgs_nil)))))))
    (pss_one (ps_ret (pv 2))))), ?_⟩
    refine ⟨_, rfl, a, _, rfl, ha, fun l hl0 => ?_⟩
    refine ⟨_, rfl, b, rfl, ⟨_, (same_new (Same.refl H) hl0).seq hb⟩, for_list (K := K) (a := b) (xs := vi sw) (fun i σ H2 => ∃ (v u : Option V), σ = [some (.ref a), some (.ref b), some (.ref l), v, u] ∧ Same H H2 ∧ H2 l = some (.lst (vi (RS.doneL row (sw.take i)))))
      ⟨none, none, rfl, same_new (Same.refl H) hl0, upd_same⟩ (fun i σ H2 _ ⟨_, _, _, s2, _⟩ => s2.seq hb) ?_ ?_⟩
    · rintro i y σ H2 hi ⟨v, u, rfl, s2, hL⟩
      obtain ⟨hi', rfl⟩ := vi_get hi
      have hp := pl _ (RS.fr_mem hi')
      have el : (RS.doneL row (sw.take i)).length = row.length := RS.doneL_len _ _
      have npos : (0 : Int) < ((RS.doneL row (sw.take i)).length : Nat) := by rw [el]; omega
      have hp2 : RS.fr sw i < ((RS.doneL row (sw.take i)).length : Nat) := by rw [el]; exact hp.2
      obtain ⟨e1, e2, e3⟩ := RS.nx_int (n := (RS.doneL row (sw.take i)).length) hp.1 hp2
      refine ⟨_, rfl, _, _, rfl, rfl, _, rfl, l, _, _, rfl, SqL.of hL, rfl, _, _, _, rfl, rfl, npos, rfl, ?_⟩
      refine ⟨_, rfl, _, rfl, l, _, _, _, rfl, rfl, SqL.of hL, e2, e3, rfl, _, rfl, _, rfl, l, _, _, _, rfl, rfl, SqL.of hL, hp.1, hp2, rfl, (by show 2 ≤ sizeLine; decide), fun t ht => ?_⟩
      have ntl : l ≠ t := ne_of_none hL ht
      have hL2 : ∀ o, (upd H2 t o) l = some (.lst (vi (RS.doneL row (sw.take i)))) := fun o => by rw [upd_ne ntl]; exact hL
      refine ⟨t, _, rfl, .inl (Rd.of upd_same), rfl, _, _, rfl, _, rfl, _, rfl, l, _, _, _, rfl, rfl, rfl, hL2 _, hp.1, hp2, ?_⟩
      refine ⟨_, _, rfl, _, rfl, _, rfl, l, _, _, _, rfl, rfl, rfl, upd_same, e2, (by rw [List.length_set]; exact e3), ?_⟩
      refine ⟨rfl, _, _, rfl, same_mut (same_mut (same_new s2 ht) hl0) hl0, ?_⟩
      rw [upd_same, List.take_succ_eq_append_getElem hi', ← RS.fr_eq hi', RS.doneL_snoc]
      rfl
    · rintro σ H2 ⟨v, u, rfl, s2, hL⟩
      rw [vi_len, List.take_length] at hL
      exact ⟨_, rfl, k H2 l s2 hl0 hL⟩
end
end Toy
set_option Elab.async false
set_option linter.all false
set_option maxRecDepth 100000
set_option maxHeartbeats 4000000
namespace Toy
open PySem L2
section
variable {P : Program} {w : World} {K : PySem.W.Frag} {mg : Str → Option Value} {base : Heap}
theorem ok_l_done (T : Txt K mg) : FnOk P w K mg base CX0 1 T.f_l_done T.d_l_done ["_law_row_here", "_law_swaps"] (sp_behind K) := by
  refine T.a_l_done.F.ok sc_l_done (fun vs H Q E h => ?_) (fun cdv A outer s H vs Q E hr h => ?_)
  · obtain ⟨a, b, row, sw, rfl, _⟩ := h
    rfl
  · obtain ⟨a, b, row, sw, rfl, ha, hb, pl, k⟩ := h
    refine ⟨_, (pss_cons (ps_set (i := 2) sc_l_done.nd rfl (Or.inl rfl) (pe_callTy lstZ (by rfl) T.z_list (by decide +kernel) (pa_cons (pv 0) pa_nil)))
    (pss_cons (ps_for PassesOwn.never rfl (pi_list (pv 1)) (pg_name (i := 3) sc_l_done.nd rfl (Or.inl rfl))
    (pss_cons (ps_set (i := 4) sc_l_done.nd rfl (Or.inl rfl) (pe_op op_modZ (pe_op op_add (pv 3) pe_int) (pe_callB lenZ (by rfl) T.z_len (by decide +kernel) (pa_cons (pv 2) pa_nil))))
      (pss_one (ps_asg (pe_tup (pa_cons (pe_ix ixZ (pv 2) (pv 4) (fun _ _ => rfl)) (pa_cons (pe_ix ixZ (pv 2) (pv 3) (fun _ _ => rfl)) pa_nil))) (pg_tup (by rfl) (pgs_cons (pg_sub (pv 2) (pv 3) setZ) (pgs_cons (pg_sub (pv 2) (pv 4) setZ) pgs_nil)))))))
    (pss_one (ps_ret (pv 2))))), ?_⟩
    refine ⟨_, rfl, a, _, rfl, ha, fun l hl0 => ?_⟩
    refine ⟨_, rfl, b, rfl, ⟨_, (same_new (Same.refl H) hl0).seq hb⟩, for_list (K := K) (a := b) (xs := vi sw) (fun i σ H2 => ∃ (v u : Option V), σ = [some (.ref a), some (.ref b), some (.ref l), v, u] ∧ Same H H2 ∧ H2 l = some (.lst (vi (RS.doneL row (sw.take i)))))
      ⟨none, none, rfl, same_new (Same.refl H) hl0, upd_same⟩ (fun i σ H2 _ ⟨_, _, _, s2, _⟩ => s2.seq hb) ?_ ?_⟩
    · rintro i y σ H2 hi ⟨v, u, rfl, s2, hL⟩
      obtain ⟨hi', rfl⟩ := vi_get hi
      have hp := pl _ (RS.fr_mem hi')
      have el : (RS.doneL row (sw.take i)).length = row.length := RS.doneL_len _ _
      have npos : (0 : Int) < ((RS.doneL row (sw.take i)).length : Nat) := by rw [el]; omega
      have hp2 : RS.fr sw i < ((RS.doneL row (sw.take i)).length : Nat) := by rw [el]; exact hp.2
      obtain ⟨e1, e2, e3⟩ := RS.nx_int (n := (RS.doneL row (sw.take i)).length) hp.1 hp2
      refine ⟨_, rfl, _, _, rfl, rfl, _, rfl, l, _, _, rfl, SqL.of hL, rfl, _, _, _, rfl, rfl, npos, rfl, ?_⟩
      refine ⟨_, rfl, _, rfl, l, _, _, _, rfl, rfl, SqL.of hL, e2, e3, rfl, _, rfl, _, rfl, l, _, _, _, rfl, rfl, SqL.of hL, hp.1, hp2, rfl, (by show 2 ≤ sizeLine; decide), fun t ht => ?_⟩
      have ntl : l ≠ t := ne_of_none hL ht
      have hL2 : ∀ o, (upd H2 t o) l = some (.lst (vi (RS.doneL row (sw.take i)))) := fun o => by rw [upd_ne ntl]; exact hL
      refine ⟨t, _, rfl, .inl (Rd.of upd_same), rfl, _, _, rfl, _, rfl, _, rfl, l, _, _, _, rfl, rfl, rfl, hL2 _, hp.1, hp2, ?_⟩
      refine ⟨_, _, rfl, _, rfl, _, rfl, l, _, _, _, rfl, rfl, rfl, upd_same, e2, (by rw [List.length_set]; exact e3), ?_⟩
      refine ⟨rfl, _, _, rfl, same_mut (same_mut (same_new s2 ht) hl0) hl0, ?_⟩
      rw [upd_same, List.take_succ_eq_append_getElem hi', ← RS.fr_eq hi', RS.doneL_snoc]
      rfl
    · rintro σ H2 ⟨v, u, rfl, s2, hL⟩
      rw [vi_len, List.take_length] at hL
      exact ⟨_, rfl, k H2 l s2 hl0 hL⟩
/-! ## passes -/
def sp_passes (K : PySem.W.Frag) : Sp := fun vs H Q _ => ∃ (a b : Addr) (row ways : List Int), vs = [.ref a, .ref b] ∧ SqL K H a (vi row) ∧ SqL K H b (vi ways) ∧ RS.IsRow row ∧ ways.length = row.length ∧ row.length ≤ 1000 ∧ Q (.int (RS.passesL row ways)) H
/-- one pair -/
def pr (row ways : List Int) (j i : Nat) : Int := RS.nab (((j : Int) - i + RS.fr (RS.leftL row ways) j - RS.fr (RS.leftL row ways) i) / (row.length : Int))
theorem pr_eq {row ways : List Int} {j i : Nat} (hj : j < row.length) (hi : i < row.length) : pr row ways j i = RS.nab (((j : Int) - i + RS.fr ways (RS.fr row j).toNat - RS.fr ways (RS.fr row i).toNat) / (row.length : Int)) := by
  unfold pr
  rw [RS.fr_leftL hj, RS.fr_leftL hi]
  rfl
end
end Toy
set_option Elab.async false
set_option linter.all false
set_option maxRecDepth 100000
set_option maxHeartbeats 4000000
namespace Toy
open PySem L2
section
variable {P : Program} {w : World} {K : PySem.W.Frag} {mg : Str → Option Value} {base : Heap}
/-- whether the thing at i goes home -/
def cg (row ways : List Int) (i : Nat) : Bool := decide (V.int (((i : Int) + RS.fr ways (RS.fr row i).toNat - RS.fr row i) % (row.length : Int)) = V.int 0)
end
end Toy
set_option Elab.async false
set_option linter.all false
set_option maxRecDepth 100000
set_option maxHeartbeats 4000000
namespace Toy
open PySem L2
theorem pl_dec {x n : Int} (h0 : 0 ≤ x) : V.bl (decide (0 ≤ x ∧ x < n)) = V.bl (decide (x < n)) := by
  by_cases h1 : x < n
  · rw [decide_eq_true h1, decide_eq_true (show 0 ≤ x ∧ x < n from ⟨h0, h1⟩)]
  · rw [decide_eq_false h1, decide_eq_false (fun z => h1 z.2)]
/-! ## the answer's object -/
theorem k_sw : ¬ (("swaps" : Str) = "ways") := by decide +kernel
def bf (l1 l2 : Addr) : List (Str × V) := putF "ways" (.ref l2) (putF "swaps" (.ref l1) [])
theorem bf_eq (l1 l2 : Addr) : bf l1 l2 = ([("swaps", V.ref l1), ("ways", V.ref l2)] : List (Str × V)) := by
  show (if ("swaps" : Str) = "ways" then [(("swaps" : Str), V.ref l2)] else (("swaps" : Str), V.ref l1) :: putF "ways" (V.ref l2) []) = ([("swaps", V.ref l1), ("ways", V.ref l2)] : List (Str × V))
  rw [if_neg k_sw]
  all_goals rfl
theorem bf_swaps (l1 l2 : Addr) : (bf l1 l2).lookup ("swaps" : Str) = some (.ref l1) := by
  unfold bf
  rw [lookup_putF, if_neg k_sw, lookup_putF, if_pos rfl]
theorem bf_ways (l1 l2 : Addr) : (bf l1 l2).lookup ("ways" : Str) = some (.ref l2) := by
  unfold bf
  rw [lookup_putF, if_pos rfl]
theorem bf_no (l1 l2 : Addr) {m : Str} (h1 : ¬ m = "ways") (h2 : ¬ m = "swaps") : (bf l1 l2).lookup m = none := by
  unfold bf
  rw [lookup_putF, if_neg h1, lookup_putF, if_neg h2]
  all_goals rfl
/-- a Brought stands at x, its exchanges at l1, its ways at l2 -/
structure BrAt (C : Addr) (H : Hp) (x l1 l2 : Addr) (swaps ways : List Int) : Prop where
  ob : ∃ dx, H x = some (.ins C dx (bf l1 l2))
  h1 : H l1 = some (.lst (vi swaps))
  h2 : H l2 = some (.lst (vi ways))
theorem BrAt.same {C : Addr} {H H' : Hp} {x l1 l2 : Addr} {swaps ways : List Int} (B : BrAt C H x l1 l2 swaps ways) (s : Same H H') : BrAt C H' x l1 l2 swaps ways :=
  ⟨let ⟨dx, h⟩ := B.ob; ⟨dx, s _ _ h⟩, s _ _ B.h1, s _ _ B.h2⟩
section
variable {P : Program} {w : World} {K : PySem.W.Frag} {mg : Str → Option Value} {base : Heap}
def sp_B_init (C : Addr) (K : PySem.W.Frag) : Sp := fun vs H Q _ => ∃ (x dx a b : Addr) (sw wy : List Int), vs = [.ref x, .ref a, .ref b] ∧ H x = some (.ins C dx []) ∧ SqL K H a (vi sw) ∧ SqL K H b (vi wy) ∧
  ∀ H' l1 l2, (∀ b o, H b = some o → b ≠ x → H' b = some o) → H l1 = none → H l2 = none → l1 ≠ l2 → BrAt C H' x l1 l2 sw wy → Q .non H'
theorem sq_out {K : PySem.W.Frag} {H H' : Hp} {x a C dx : Addr} {fs : List (Str × V)} {xs : List V} (hx : H x = some (.ins C dx fs)) (ha : SqL K H a xs) (s : ∀ b o, H b = some o → b ≠ x → H' b = some o) : SqL K H' a xs := by
  rcases ha with (h | ⟨o, h⟩) | h
  · exact .inl (.inl (s _ _ h (ne_of h hx (by intro z; cases z))))
  · exact .inl (.inr ⟨o, s _ _ h (ne_of h hx (by intro z; cases z))⟩)
  · exact .inr h
theorem ok_B_init (T : Txt K mg) : FnOk P w K mg base CX0 1 T.f_B_init T.d_B_init ["self", "swaps", "ways"] (sp_B_init T.C K) := by
  refine T.a_B_init.F.ok sc_B_init (fun vs H Q E h => ?_) (fun cdv A outer s H vs Q E hr h => ?_)
  · obtain ⟨x, dx, a, b, sw, wy, rfl, _⟩ := h
    rfl
  · obtain ⟨x, dx, a, b, sw, wy, rfl, hx, ha, hb, k⟩ := h
    refine ⟨_, (pss_cons (ps_fld (pv 0) (pe_callTy lstZ (by rfl) T.z_list (by decide +kernel) (pa_cons (pv 1) pa_nil)) rfl)
    (pss_one (ps_fld (pv 0) (pe_callTy lstZ (by rfl) T.z_list (by decide +kernel) (pa_cons (pv 2) pa_nil)) rfl))), ?_⟩
    refine ⟨_, rfl, a, sw, rfl, ha, fun l1 hl1 => ?_⟩
    have n1 : x ≠ l1 := ne_of_none hx hl1
    refine ⟨_, rfl, x, T.C, dx, [], rfl, (by rw [upd_ne n1]; exact hx), T.cl, T.nS, (by show 0 < 1000; decide), ?_⟩
    have s1 : ∀ c o, H c = some o → c ≠ x → (upd (upd H l1 (.lst (vi sw))) x (.ins T.C dx (putF "swaps" (.ref l1) []))) c = some o := fun c o e ne => by
      rw [upd_ne ne, upd_ne (ne_of_none e hl1)]
      exact e
    refine ⟨_, rfl, b, wy, rfl, sq_out hx hb s1, fun l2 hl2 => ?_⟩
    have n2 : x ≠ l2 := fun z => by
      rw [z, upd_same] at hl2
      cases hl2
    have n3 : l1 ≠ l2 := fun z => by
      rw [← z, upd_ne (Ne.symm n1), upd_same] at hl2
      cases hl2
    have hl2' : H l2 = none := by
      rw [upd_ne (Ne.symm n2), upd_ne (Ne.symm n3)] at hl2
      exact hl2
    refine ⟨_, rfl, x, T.C, dx, _, rfl, (by rw [upd_ne n2]; exact upd_same), T.cl, T.nW, (by show 1 < 1000; decide), ?_⟩
    refine k _ l1 l2 (fun c o e ne => ?_) hl1 hl2' n3 ⟨⟨dx, upd_same⟩, ?_, ?_⟩
    · rw [upd_ne ne, upd_ne (ne_of_none e hl2')]
      exact s1 c o e ne
    · rw [upd_ne (Ne.symm n1), upd_ne n3, upd_ne (Ne.symm n1), upd_same]
    · rw [upd_ne (Ne.symm n2), upd_same]
end
end Toy
set_option Elab.async false
set_option linter.all false
set_option maxRecDepth 100000
set_option maxHeartbeats 4000000
namespace Toy
open PySem L2
theorem map_fr (l : List Int) : (List.range l.length).map (RS.fr l) = l := by
  refine List.ext_getElem (by rw [List.length_map, List.length_range]) fun i h1 h2 => ?_
  rw [List.getElem_map, List.getElem_range, RS.fr_eq h2]
section
variable {P : Program} {w : World} {K : PySem.W.Frag} {mg : Str → Option Value} {base : Heap}
/-! ## check_row of a row -/
def sp_check_row : Sp := fun vs H Q _ => ∃ (a : Addr) (row : List Int), vs = [.ref a] ∧ H a = some (.lst (vi row)) ∧ RS.IsRow row ∧ row.length ≤ 1000 ∧ ∀ H', Same H H' → Q .non H'
theorem ok_check_row (T : Txt K mg) : FnOk P w K mg base CX0 2 T.f_check_row T.d_check_row ["row"] sp_check_row := by
  have G_is_whole : FnOk P w K mg base CX0 1 T.f_is_whole T.d_is_whole ["thing"] sp_is_whole := ok_is_whole T
  refine T.a_check_row.F.ok sc_check_row (fun vs H Q E h => ?_) (fun cdv A outer s H vs Q E hr h => ?_)
  · obtain ⟨a, row, rfl, _⟩ := h
    rfl
  · obtain ⟨a, row, rfl, ha, R, hl, k⟩ := h
    have n3 := R.three
    have sq : SqL K H a (vi row) := SqL.of ha
    refine ⟨_, (pss_cons (ps_if (PW.pt (pw_or (pt_not (pt_val (pe_callB call_isi (by rfl) T.z_isinstance (by decide +kernel) (pa_cons (pv 0) (pa_cons (pe_bltn (v := .ty "list") (by rfl) T.z_list (by decide +kernel) rfl) pa_nil))))) (pw_or (pt_cmpR op_lt (pe_callB lenZ (by rfl) T.z_len (by decide +kernel) (pa_cons (pv 0) pa_nil)) pe_int (nomark _)) (pw_or1 (pt_not (pt_val (pe_callB (allZ rfl) (by rfl) T.z_all (by decide +kernel) (pa_cons (pe_lc (own := [("thing", 1)]) (g := gName 1) (tt := tYes) rfl sc_check_row.nd (pi_list (pv 0)) (blkOk_by (N := ["row", "thing"]) (sc := defScope s_check_row) (by decide +kernel)) (fun _ _ _ _ _ => pg_name (i := 1) sc_check_row.nd rfl (Or.inl rfl)) (fun _ _ _ _ _ => pts_nil) (fun _ _ _ _ _ => (pe_call G_is_whole hr rfl T.a_is_whole.g T.a_is_whole.F.kp T.a_is_whole.b .nil pass0 (pa_cons (pv 1) pa_nil)))) pa_nil))))))))
    (pss_one ps_never)
    pss_nil)
    (pss_one (ps_if (pt_cmpR (op_neZ hr.units) (pe_callB cr_sortedI (by rfl) T.z_sorted (by decide +kernel) (pa_cons (pv 0) pa_nil)) (pe_listRg rfl (by rfl) T.z_list (prg_1 (by rfl) T.z_range (pe_callB lenZ (by rfl) T.z_len (by decide +kernel) (pa_cons (pv 0) pa_nil)))) (nomark _))
    (pss_one ps_never)
    pss_nil))), ?_⟩
    refine ⟨_, rfl, _, _, _, _, true, rfl, ClsV.ty _, TyX.base (.lst ha), kit_ty (by decide +kernel), _, rfl, ?_⟩
    refine ite_not (fun z => nomatch z) fun _ => ?_
    refine ⟨_, rfl, a, row, _, rfl, sq, rfl, _, _, rfl, rfl, _, rfl, ?_⟩
    refine ite_d (fun lt => by omega) fun _ => ?_
    refine ⟨_, rfl, a, rfl, ⟨_, sq⟩, fun D hD => lc_list (K := K) (a := a) (xs := vi row) (fun i H2 => LI H D (fun _ => .bl true) i H2) (li_start (Same.refl H) hD) (fun i H2 _ L => L.s.seq sq) ?_ ?_⟩
    · rintro i x H2 hi L
      obtain ⟨hi', rfl⟩ := vi_get hi
      exact ⟨rfl, _, rfl, _, rfl, li_step L (Same.refl _) hD (by omega) rfl⟩
    intro H2 L
    refine ⟨D, _, rfl, SqL.of (li_bls L), fun c hc => ⟨_, rfl, ?_⟩⟩
    have ec : c = true := hc.mpr fun b hb => by
      obtain ⟨_, _, rfl⟩ := List.mem_map.mp hb
      rfl
    subst ec
    refine ite_not (fun z => nomatch z) fun _ => ?_
    refine ⟨_, rfl, a, row, rfl, L.s.seq sq, fun ns p perm rising hp => ?_⟩
    have s3 := same_new L.s hp (o := .lst (ns.map V.int))
    refine ⟨_, rfl, a, row, _, rfl, s3.seq sq, rfl, _, rfl, rgOk_n (by omega), fun q hq => ?_⟩
    have npq : p ≠ q := ne_of_none upd_same hq
    refine ⟨p, q, ns, RS.ids row.length, rfl, rfl, SqL.of (by rw [upd_ne npq, upd_same]), SqL.of (by rw [upd_same, rgV_ids]), fun c2 hc2 => ⟨_, rfl, ?_⟩⟩
    have e : c2 = true := hc2.mpr ((RS.sorted_row (by omega) perm rising).mpr R.row)
    refine ite_not (fun z => ?_) fun _ => k _ (same_new s3 hq)
    rw [e] at z
    cases z
/-! ## ways_of -/
def sp_ways_of (K : PySem.W.Frag) : Sp := fun vs H Q _ => ∃ (a : Addr) (row : List Int), vs = [.ref a] ∧ SqL K H a (vi row) ∧ RS.IsRow row ∧ row.length ≤ 1000 ∧
  ∀ H' p ws, Same H H' → H p = none → H' p = some (.lst (vi ws)) → RS.NorW row ws → Q (.ref p) H'
theorem ok_ways_of (T : Txt K mg) : FnOk P w K mg base CX0 1 T.f_ways_of T.d_ways_of ["row"] (sp_ways_of K) := by
  refine T.a_ways_of.F.ok sc_ways_of (fun vs H Q E h => ?_) (fun cdv A outer s H vs Q E hr h => ?_)
  · obtain ⟨a, row, rfl, _⟩ := h
    rfl
  · obtain ⟨a, row, rfl, ha, R, hl, k⟩ := h
    have n3 := R.three
    refine ⟨_, (pss_cons (ps_set (i := 1) sc_ways_of.nd rfl (Or.inl rfl) (pe_callB lenZ (by rfl) T.z_len (by decide +kernel) (pa_cons (pv 0) pa_nil)))
    (pss_cons (ps_set (i := 2) sc_ways_of.nd rfl (Or.inl rfl) (pe_op op_repZ (pe_lst (pa_cons pe_int pa_nil)) (pv 1)))
    (pss_cons (ps_for PassesOwn.never rfl (pi_enum (by rfl) T.z_enumerate (pa_cons (pv 0) pa_nil)) (pg_tup (by rfl) (pgs_cons (pg_name (i := 3) sc_ways_of.nd rfl (Or.inl rfl)) (pgs_cons (pg_name (i := 4) sc_ways_of.nd rfl (Or.inl rfl)) pgs_nil)))
    (pss_one (ps_asg (pe_op op_sub (pv 4) (pv 3)) (pg_sub (pv 2) (pv 4) setZ))))
    (pss_cons (ps_while PassesOwn.never (pt_cmpR op_gt (pe_op op_sub (pe_callB (cr_max rfl) (by rfl) T.z_max (by decide +kernel) (pa_cons (pv 2) pa_nil)) (pe_callB (cr_min rfl) (by rfl) T.z_min (by decide +kernel) (pa_cons (pv 2) pa_nil))) (pv 1) (nomark _))
    (pss_cons (ps_par (by rfl) sc_ways_of.nd (i := 5) (j := 6) rfl rfl (by decide) rfl rfl (pa_cons (pe_bm PySem.F.plainAttrs_list PySem.F.slot_list_index PySem.F.type_list_index indZ (pv 2) (pa_cons (pe_callB (cr_max rfl) (by rfl) T.z_max (by decide +kernel) (pa_cons (pv 2) pa_nil)) pa_nil)) (pa_cons (pe_bm PySem.F.plainAttrs_list PySem.F.slot_list_index PySem.F.type_list_index indZ (pv 2) (pa_cons (pe_callB (cr_min rfl) (by rfl) T.z_min (by decide +kernel) (pa_cons (pv 2) pa_nil)) pa_nil)) pa_nil)) (by rfl))
      (pss_cons (ps_augS (pv 2) (pv 5) getZ (pv 1) ip_sub setZ)
      (pss_one (ps_augS (pv 2) (pv 6) getZ (pv 1) ip_add setZ)))))
    (pss_one (ps_ret (pv 2))))))), ?_⟩
    refine ⟨_, rfl, a, row, _, rfl, ha, rfl, ?_⟩
    refine ⟨(by show 1 ≤ sizeLine; decide), fun l0 hl0 => ⟨_, rfl, l0, _, _, rfl, rfl, upd_same, by omega, by omega, fun l hl' => ?_⟩⟩
    have s1 := same_new (Same.refl H) hl0 (o := .lst [.int 0])
    have hl1 : H l = none := s1.free hl'
    have s2 := same_new s1 hl' (o := .lst (vi (List.replicate ((row.length : Int)).toNat 0)))
    refine ⟨_, rfl, a, _, rfl, s2.seq ha, for_it (walk_enum (K := K) (a := a) (xs := vi row)) (fun i σ H2 => ∃ (ws : List Int) (v u : Option V), σ = [some (.ref a), some (.int (row.length : Int)), some (.ref l), v, u, none, none] ∧ Same H H2 ∧ H2 l = some (.lst (vi ws)) ∧ ws.length = row.length ∧ ∀ j, j < i → RS.fr ws (RS.fr row j).toNat = RS.fr row j - j)
      ⟨_, none, none, rfl, s2, upd_same, by rw [List.length_replicate]; omega, fun j hj => absurd hj (Nat.not_lt_zero _)⟩ (fun i σ H2 _ ⟨_, _, _, _, s2, _⟩ => s2.seq ha) ?_ ?_⟩
    · rintro i x σ H2 H3 hi ⟨ws, v, u, rfl, s3, hL, wl, hw⟩ ⟨t, y, z, rfl, ht, rfl, e1, e2⟩
      cases e1
      obtain ⟨hi', rfl⟩ := vi_get e2
      have l1 := R.row.lo i hi'
      have l2 := R.row.hi i hi'
      have ntl : l ≠ t := ne_of_none hL ht
      refine ⟨t, _, rfl, .inl (Rd.of upd_same), rfl, _, _, rfl, _, _, rfl, rfl, ?_⟩
      refine ⟨_, rfl, _, rfl, _, _, rfl, rfl, _, rfl, _, rfl, l, ws, _, _, rfl, rfl, rfl, (by rw [upd_ne ntl]; exact hL), l1, by rw [wl]; exact l2, ?_⟩
      refine ⟨_, _, _, rfl, same_mut (same_new s3 ht) hl1, upd_same, by rw [List.length_set]; exact wl, fun j hj => ?_⟩
      rw [RS.fr_set (by omega)]
      by_cases e : j = i
      · rw [e, if_pos rfl]
      · rw [if_neg (fun z => e (R.row.inj j i (by omega) hi' (by
          have := R.row.lo j (by omega)
          omega)))]
        exact hw j (by omega)
    · rintro σ H2 ⟨ws, v, u, rfl, s3, hL, wl, hw⟩
      rw [vi_len] at hw
      refine ⟨fun m σ H2 => ∃ (ws : List Int) (v u f g : Option V), σ = [some (.ref a), some (.int (row.length : Int)), some (.ref l), v, u, f, g] ∧ Same H H2 ∧ H2 l = some (.lst (vi ws)) ∧ RS.WInv row ws ∧ m = RS.wsize ws, ⟨_, ws, v, u, none, none, rfl, s3, hL, RS.winv_start R wl hw, rfl⟩, ?_⟩
      rintro m σ H2 ⟨ws, v, u, f, g, rfl, s3, hL, W, rfl⟩
      have sq := SqL.of (K := K) hL
      have wl := W.len
      refine ⟨_, rfl, l, ws, rfl, sq, by omega, fun M hM hM2 => ⟨_, rfl, l, ws, rfl, sq, by omega, fun m hm hm2 => ⟨_, _, rfl, rfl, _, rfl, _, _, rfl, rfl, _, rfl, ?_⟩⟩⟩
      refine ite_d (fun gt => ?_) fun le => ?_
      · refine ⟨fun σ' H' => ∃ ws', RS.wsize ws' < RS.wsize ws ∧ ∃ (v u f g : Option V), σ' = [some (.ref a), some (.int (row.length : Int)), some (.ref l), v, u, f, g] ∧ Same H H' ∧ H' l = some (.lst (vi ws')) ∧ RS.WInv row ws', fun σ' H' ⟨ws', lt, v, u, f, g, e1, e2, e3, e4⟩ => ⟨_, lt, ws', v, u, f, g, e1, e2, e3, e4, rfl⟩, ?_⟩
        refine ⟨_, rfl, .inl ⟨rfl, _, sq⟩, _, rfl, l, ws, rfl, sq, by omega, fun M' hM' hM2' => ⟨l, ws, _, rfl, rfl, sq, hM', fun f' hf' ef => ?_⟩⟩
        refine ⟨_, rfl, .inl ⟨rfl, _, sq⟩, _, rfl, l, ws, rfl, sq, by omega, fun m' hm' hm2' => ⟨l, ws, _, rfl, rfl, sq, hm', fun g' hg' eg => ?_⟩⟩
        have d1 := hM2' M hM
        have d2 := hm2' m hm
        have ne : f' ≠ g' := fun z => by
          subst z
          omega
        have e3 : RS.fr (ws.set f' (RS.fr ws f' - (row.length : Int))) g' = RS.fr ws g' := by rw [RS.fr_set hf', if_neg (Ne.symm ne)]
        refine ⟨_, _, rfl, ?_⟩
        refine ⟨_, rfl, _, rfl, l, ws, _, _, rfl, rfl, sq, by omega, by omega, rfl, _, rfl, _, _, rfl, rfl, l, ws, _, _, rfl, rfl, rfl, hL, by omega, by omega, ?_⟩
        refine ⟨_, rfl, _, rfl, l, _, _, _, rfl, rfl, SqL.of upd_same, by omega, (by rw [List.length_set]; omega), e3, _, rfl, _, _, rfl, rfl, l, _, _, _, rfl, rfl, rfl, upd_same, by omega, (by rw [List.length_set]; omega), ?_⟩
        refine ⟨RS.bal row.length ws f' g', RS.wsize_less (by omega) hf' hg' ne (by omega), _, _, _, _, rfl, same_mut (same_mut s3 hl1) hl1, upd_same, RS.winv_step W (by omega) (by omega) ne⟩
      · refine ⟨_, rfl, k H2 l ws s3 hl1 hL (RS.winv_end R W fun x y hx hy => ?_)⟩
        have := hM2 _ (RS.fr_mem (l := ws) (i := x) (by omega))
        have := hm2 _ (RS.fr_mem (l := ws) (i := y) (by omega))
        omega
/-! ## swaps_by -/
def sp_swaps_by (K : PySem.W.Frag) : Sp := fun vs H Q _ => ∃ (a b : Addr) (row ways : List Int), vs = [.ref a, .ref b] ∧ SqL K H a (vi row) ∧ SqL K H b (vi ways) ∧ RS.IsRow row ∧ row.length ≤ 100 ∧ RS.NorW row ways ∧
  ∀ H' p fs, Same H H' → H p = none → H' p = some (.lst (vi fs)) → RS.Found row ways fs → Q (.ref p) H'
theorem ok_swaps_by (T : Txt K mg) : FnOk P w K mg base CX0 1 T.f_swaps_by T.d_swaps_by ["row", "ways"] (sp_swaps_by K) := by
  refine T.a_swaps_by.F.ok sc_swaps_by (fun vs H Q E h => ?_) (fun cdv A outer s H vs Q E hr h => ?_)
  · obtain ⟨a, b, row, ways, rfl, _⟩ := h
    rfl
  · obtain ⟨a, b, row, ways, rfl, ha, hb, R, hl, W, k⟩ := h
    have n3 := R.three
    have most := RS.passes_most R W
    have m2 : ((row.length : Int) * row.length) / 4 ≤ 2500 := by
      have : (row.length : Int) * row.length ≤ 100 * 100 := Int.mul_le_mul (by omega) (by omega) (by omega) (by omega)
      omega
    refine ⟨_, (pss_cons (ps_set (i := 2) sc_swaps_by.nd rfl (Or.inl rfl) (pe_callB lenZ (by rfl) T.z_len (by decide +kernel) (pa_cons (pv 0) pa_nil)))
    (pss_cons (ps_setLc (i := 3) (own := [("thing", 8)]) (g := gName 8) (tt := tYes) rfl sc_swaps_by.nd rfl rfl (sw_true rfl rfl rfl (by decide +kernel)) (pi_list (pv 0)) (blkOk_by (N := ["row", "ways", "many", "left", "found", "waiting", "place", "after", "thing"]) (sc := defScope s_swaps_by) (by decide +kernel)) (fun _ _ _ _ _ => pg_name (i := 8) sc_swaps_by.nd rfl (Or.inl rfl)) (fun _ _ _ _ _ => pts_nil) (fun _ _ _ _ _ => (pe_ix (r := rIxZ K) ixZ (pv 1) (pv 8) (fun _ _ => rfl))))
    (pss_cons (ps_set (i := 4) sc_swaps_by.nd rfl (Or.inl rfl) (pe_lst pa_nil))
    (pss_cons (ps_setLc (i := 5) (own := [("place", 6)]) (g := gName 6) (tt := tYes) rfl sc_swaps_by.nd rfl rfl (sw_true rfl rfl rfl (by decide +kernel)) (pi_range1 rfl T.z_range (pa_cons (pv 2) pa_nil)) (blkOk_by (N := ["row", "ways", "many", "left", "found", "waiting", "place", "after", "thing"]) (sc := defScope s_swaps_by) (by decide +kernel)) (fun _ _ _ _ _ => pg_name (i := 6) sc_swaps_by.nd rfl (Or.inl rfl)) (fun _ _ _ _ _ => pts_nil) (fun _ _ _ _ _ => (pv 6)))
    (pss_cons (ps_while PassesOwn.never (pt_cmpR op_gt (pe_callB lenZ (by rfl) T.z_len (by decide +kernel) (pa_cons (pv 5) pa_nil)) pe_int (nomark _))
    (pss_cons (ps_set (i := 6) sc_swaps_by.nd rfl (Or.inl rfl) (pe_bm0 PySem.F.plainAttrs_list PySem.F.slot_list_pop PySem.F.type_list_pop popZ (pv 5)))
      (pss_cons (ps_set (i := 7) sc_swaps_by.nd rfl (Or.inl rfl) (pe_op op_modZ (pe_op op_add (pv 6) pe_int) (pv 2)))
      (pss_one (ps_if (pt_cmpR op_gt (pe_ix ixZ (pv 3) (pv 6) (fun _ _ => rfl)) (pe_ix ixZ (pv 3) (pv 7) (fun _ _ => rfl)) (nomark _))
      (pss_cons (ps_asg (pe_tup (pa_cons (pe_op op_add (pe_ix ixZ (pv 3) (pv 7) (fun _ _ => rfl)) pe_int) (pa_cons (pe_op op_sub (pe_ix ixZ (pv 3) (pv 6) (fun _ _ => rfl)) pe_int) pa_nil))) (pg_tup (by rfl) (pgs_cons (pg_sub (pv 3) (pv 6) setZ) (pgs_cons (pg_sub (pv 3) (pv 7) setZ) pgs_nil))))
        (pss_cons (ps_expr (pe_bm PySem.F.plainAttrs_list PySem.F.slot_list_append PySem.F.type_list_append appZ (pv 4) (pa_cons (pv 6) pa_nil)))
        (pss_one (ps_expr (pe_bm PySem.F.plainAttrs_list PySem.F.slot_list_extend PySem.F.type_list_extend extZ (pv 5) (pa_cons (pe_lst (pa_cons (pe_op op_modZ (pe_op op_sub (pv 6) pe_int) (pv 2)) (pa_cons (pv 7) (pa_cons (pv 6) pa_nil)))) pa_nil))))))
      pss_nil)))))
    (pss_one (ps_ret (pv 4)))))))), ?_⟩
    refine ⟨_, rfl, a, row, _, rfl, ha, rfl, ?_⟩
    -- left
    refine ⟨_, rfl, a, rfl, ⟨_, ha⟩, fun D hD => lc_list (K := K) (a := a) (xs := vi row) (fun i H2 => LI H D (fun i => .int (RS.fr (RS.leftL row ways) i)) i H2) (li_start (Same.refl H) hD) (fun i H2 _ L => L.s.seq ha) ?_ ?_⟩
    · rintro i x H2 hi L
      obtain ⟨hi', rfl⟩ := vi_get hi
      have l1 := R.row.lo i hi'
      have l2 := R.row.hi i hi'
      exact ⟨rfl, _, rfl, _, rfl, b, ways, _, _, rfl, rfl, L.s.seq hb, l1, by rw [W.len]; exact l2, rfl, li_step L (Same.refl _) hD (by omega) (by rw [RS.fr_leftL hi']; rfl)⟩
    intro H1 L1
    have hleft := li_ints L1
    rw [vi_len, ← RS.leftL_len row ways, map_fr] at hleft
    have s1 := L1.s
    -- found
    refine ⟨Nat.zero_le _, fun F hF => ?_⟩
    have s2 := same_new s1 hF (o := .lst [])
    have hF0 : H F = none := s1.free hF
    have nDF : D ≠ F := ne_of_none hleft hF
    -- waiting
    refine ⟨_, rfl, _, rfl, by omega, by omega, fun Wt hW => lc_range (lo := 0) (n := row.length) (fun i H2 => LI _ Wt (fun i => .int (0 + (i : Int))) i H2) (li_start (Same.refl _) hW) ?_ ?_⟩
    · rintro i H2 hi L
      exact ⟨rfl, _, rfl, li_step L (Same.refl _) hW (by omega) rfl⟩
    intro H3 L3
    have hW0 : H Wt = none := s2.free hW
    have s3 := Same.trans s2 L3.s
    have hwait : H3 Wt = some (.lst (vi (RS.ids row.length))) := by
      rw [li_ints L3]
      have : (List.range row.length).map (fun i : Nat => 0 + (i : Int)) = RS.ids row.length := List.map_congr_left fun i _ => Int.zero_add _
      rw [this]
    have nDW : D ≠ Wt := ne_of_none (by rw [upd_ne nDF]; exact hleft) hW
    have nFW : F ≠ Wt := ne_of_none (upd_same) hW
    have hleft3 : H3 D = some (.lst (vi (RS.leftL row ways))) := L3.s _ _ (by rw [upd_ne nDF]; exact hleft)
    have hfound3 : H3 F = some (.lst (vi [])) := L3.s _ _ upd_same
    -- the loop
    refine ⟨fun m σ H2 => ∃ (left found wait : List Int) (v u : Option V), σ = [some (.ref a), some (.ref b), some (.int (row.length : Int)), some (.ref D), some (.ref F), some (.ref Wt), v, u, none] ∧ Same H H2 ∧ H2 D = some (.lst (vi left)) ∧ H2 F = some (.lst (vi found)) ∧ H2 Wt = some (.lst (vi wait)) ∧ RS.Going row ways left found wait ∧ m = RS.goSize row.length left wait,
      ⟨_, RS.leftL row ways, [], RS.ids row.length, none, none, rfl, s3, hleft3, hfound3, hwait, RS.going_start W, rfl⟩, ?_⟩
    rintro m σ H2 ⟨left, found, wait, v, u, rfl, s4, hL, hFd, hWt, G, rfl⟩
    have fb := G.bound
    have wb := G.wlen
    have ll := G.llen
    refine ⟨_, rfl, Wt, wait, _, rfl, SqL.of hWt, rfl, _, _, rfl, rfl, _, rfl, ?_⟩
    refine ite_d (fun gt => ?_) fun le => ?_
    · obtain ⟨wt', p, ew⟩ : ∃ wt' p, wait = wt' ++ [p] := by
        rcases List.eq_nil_or_concat wait with e | ⟨l, p, e⟩
        · rw [e] at gt
          simp at gt
        · exact ⟨l, p, by rw [e]; simp⟩
      subst ew
      have hp := G.wt p (List.mem_append_right _ List.mem_cons_self)
      obtain ⟨e1, e2, e3⟩ := RS.nx_int hp.1 hp.2
      have npos : (0 : Int) < (row.length : Int) := by omega
      refine ⟨fun σ' H' => ∃ (left' found' wait' : List Int) (v u : Option V), RS.goSize row.length left' wait' < RS.goSize row.length left (wt' ++ [p]) ∧ σ' = [some (.ref a), some (.ref b), some (.int (row.length : Int)), some (.ref D), some (.ref F), some (.ref Wt), v, u, none] ∧ Same H H' ∧ H' D = some (.lst (vi left')) ∧ H' F = some (.lst (vi found')) ∧ H' Wt = some (.lst (vi wait')) ∧ RS.Going row ways left' found' wait',
        fun σ' H' ⟨l', f', w', v, u, lt, e1, e2, e3, e4, e5, e6⟩ => ⟨_, lt, l', f', w', v, u, e1, e2, e3, e4, e5, e6, rfl⟩, ?_⟩
      refine ⟨_, rfl, .inl ⟨rfl, _, SqL.of hWt⟩, Wt, wt', p, rfl, rfl, hWt, ?_⟩
      have s5 := same_mut s4 hW0 (o := .lst (vi wt'))
      have hL5 : (upd H2 Wt (.lst (vi wt'))) D = some (.lst (vi left)) := by rw [upd_ne nDW]; exact hL
      have hF5 : (upd H2 Wt (.lst (vi wt'))) F = some (.lst (vi found)) := by rw [upd_ne nFW]; exact hFd
      refine ⟨_, rfl, _, _, rfl, rfl, _, rfl, _, _, _, rfl, rfl, npos, rfl, ?_⟩
      refine ⟨_, rfl, _, rfl, D, left, _, _, rfl, rfl, SqL.of hL5, hp.1, by rw [ll]; exact hp.2, rfl, _, rfl, _, rfl, D, left, _, _, rfl, rfl, SqL.of hL5, e2, by rw [ll]; exact e3, by rw [e1], _, _, rfl, rfl, _, rfl, ?_⟩
      refine ite_d (fun dn => ?_) fun nd => ?_
      · refine ⟨_, rfl, _, rfl, D, left, _, _, rfl, rfl, SqL.of hL5, e2, by rw [ll]; exact e3, rfl, _, _, rfl, rfl, _, rfl, _, rfl, D, left, _, _, rfl, rfl, SqL.of hL5, hp.1, by rw [ll]; exact hp.2, rfl, _, _, rfl, rfl, (by show 2 ≤ sizeLine; decide), fun t ht => ?_⟩
        have nDt : D ≠ t := ne_of_none hL5 ht
        have nFt : F ≠ t := ne_of_none hF5 ht
        have nWt : Wt ≠ t := ne_of_none upd_same ht
        have s6 := same_new s5 ht (o := .tup [.int (RS.fr left ((p + 1) % (row.length : Int)).toNat + 1), .int (RS.fr left p.toNat - 1)])
        have hD0 : H D = none := hD
        refine ⟨t, _, rfl, .inl (Rd.of upd_same), rfl, _, _, rfl, _, rfl, _, rfl, D, left, _, _, rfl, rfl, rfl, (by rw [upd_ne nDt]; exact hL5), hp.1, by rw [ll]; exact hp.2, ?_⟩
        refine ⟨_, _, rfl, _, rfl, _, rfl, D, _, _, _, rfl, rfl, rfl, upd_same, e2, (by rw [List.length_set, ll]; exact e3), ?_⟩
        refine ⟨rfl, ?_⟩
        have s7 := same_mut (same_mut s6 hD0 (o := .lst (vi (left.set p.toNat (RS.fr left ((p + 1) % (row.length : Int)).toNat + 1))))) hD0 (o := .lst (vi ((left.set p.toNat (RS.fr left ((p + 1) % (row.length : Int)).toNat + 1)).set ((p + 1) % (row.length : Int)).toNat (RS.fr left p.toNat - 1))))
        have ex : (left.set p.toNat (RS.fr left ((p + 1) % (row.length : Int)).toNat + 1)).set ((p + 1) % (row.length : Int)).toNat (RS.fr left p.toNat - 1) = RS.swpW left p := by
          unfold RS.swpW
          rw [ll]; rfl
        -- found.append(place)
        refine ⟨_, rfl, .inl ⟨rfl, _, SqL.of (by rw [upd_ne (Ne.symm nDF), upd_ne (Ne.symm nDF), upd_ne nFt]; exact hF5)⟩, _, rfl, F, found, p, rfl, rfl, (by rw [upd_ne (Ne.symm nDF), upd_ne (Ne.symm nDF), upd_ne nFt]; exact hF5), by omega, ?_⟩
        have s8 := same_mut s7 hF0 (o := .lst (vi (found ++ [p])))
        -- waiting.extend
        refine ⟨_, rfl, .inl ⟨rfl, _, SqL.of (by rw [upd_ne (Ne.symm nFW), upd_ne (Ne.symm nDW), upd_ne (Ne.symm nDW), upd_ne nWt]; exact upd_same)⟩, ?_⟩
        refine ⟨_, rfl, _, _, rfl, rfl, _, rfl, _, _, _, rfl, rfl, npos, rfl, _, rfl, _, rfl, (by show 3 ≤ sizeLine; decide), fun e he => ?_⟩
        have nWe : Wt ≠ e := ne_of_none (by rw [upd_ne (Ne.symm nFW), upd_ne (Ne.symm nDW), upd_ne (Ne.symm nDW), upd_ne nWt]; exact upd_same) he
        have nFe : F ≠ e := ne_of_none upd_same he
        have nDe : D ≠ e := ne_of_none (by rw [upd_ne nDF]; exact upd_same) he
        have s9 := same_new s8 he (o := .lst [.int ((p - 1) % (row.length : Int)), .int ((p + 1) % (row.length : Int)), .int p])
        refine ⟨Wt, e, wt', [(p - 1) % (row.length : Int), (p + 1) % (row.length : Int), p], rfl, rfl, (by rw [upd_ne nWe, upd_ne (Ne.symm nFW), upd_ne (Ne.symm nDW), upd_ne (Ne.symm nDW), upd_ne nWt]; exact upd_same), upd_same, ?_, ?_⟩
        · rw [List.length_append, List.length_singleton] at wb
          simp only [List.length_cons, List.length_nil]
          omega
        have dn' : RS.fr left (RS.nx row.length p.toNat) < RS.fr left p.toNat := dn
        refine ⟨RS.swpW left p, found ++ [p], wt' ++ [(p - 1) % (row.length : Int), (p + 1) % (row.length : Int), p], _, _, RS.going_less R G dn', rfl, same_mut s9 hW0, ?_, ?_, upd_same, G.turn R dn'⟩
        · rw [upd_ne nDW, upd_ne nDe, upd_ne nDF, upd_same, ex]
        · rw [upd_ne nFW, upd_ne nFe, upd_same]
      · have nd' : ¬ RS.fr left (RS.nx row.length p.toNat) < RS.fr left p.toNat := nd
        refine ⟨left, found, wt', _, _, ?_, rfl, s5, hL5, hF5, upd_same, G.pass nd'⟩
        unfold RS.goSize
        rw [List.length_append, List.length_singleton]
        omega
    · have e : wait = [] := by
        apply List.length_eq_zero_iff.mp
        omega
      subst e
      exact ⟨_, rfl, k H2 F found s4 hF0 hFd (G.found R)⟩
end
end Toy
set_option Elab.async false
set_option linter.all false
set_option maxRecDepth 100000
set_option maxHeartbeats 4000000
namespace Toy
open PySem L2
def primes : List Int := [1000003, 1000033, 1000037, 1000039, 1000081, 1000099, 1000117, 1000121, 1000133, 1000151, 1000159, 1000171, 1000183, 1000187, 1000193, 1000199]
theorem primes_pos : ∀ j, j < 16 → 0 < RS.fr primes j := by decide
/-- the script's numbers, no greater than they may be -/
def Sc (ns : List Int) : Prop := ns.length ≤ 63 ∧ ∀ n ∈ ns, RS.BM 1048576 n
def cell (ns : List Int) (k : Int) : Int := if k < ns.length then RS.fr ns k.toNat else 0
theorem cell_bm {ns : List Int} (S : Sc ns) (k : Int) : RS.BM 1048576 (cell ns k) := by
  unfold cell
  by_cases h : k < ns.length
  · rw [if_pos h]
    by_cases h0 : k.toNat < ns.length
    · exact S.2 _ (RS.fr_mem h0)
    · unfold RS.fr
      rw [List.getD_eq_getElem?_getD, List.getElem?_eq_none (by omega)]
      exact ⟨0, Nat.zero_le _, by decide⟩
  · rw [if_neg h]
    exact ⟨0, Nat.zero_le _, by decide⟩
section
variable {P : Program} {w : World} {K : PySem.W.Frag} {mg : Str → Option Value} {base : Heap}
def sp_cell (K : PySem.W.Frag) : Sp := fun vs H Q _ => ∃ (a : Addr) (ns : List Int) (k : Int), vs = [.ref a, .int k] ∧ SqL K H a (vi ns) ∧ 0 ≤ k ∧ Q (.int (cell ns k)) H
theorem ok_l_cell_at (T : Txt K mg) : FnOk P w K mg base CX0 1 T.f_l_cell_at T.d_l_cell_at ["_law_script", "_law_k"] (sp_cell K) := by
  refine T.a_l_cell_at.F.ok sc_l_cell_at (fun vs H Q E h => ?_) (fun cdv A outer s H vs Q E hr h => ?_)
  · obtain ⟨a, ns, k, rfl, _⟩ := h
    rfl
  · obtain ⟨a, ns, i, rfl, ha, h0, k⟩ := h
    refine ⟨_, (pss_cons (ps_if (pt_cmpR op_lt (pv 1) (pe_callB lenZ (by rfl) T.z_len (by decide +kernel) (pa_cons (pv 0) pa_nil)) (nomark _))
    (pss_one (ps_ret (pe_ix ixZ (pv 0) (pv 1) (fun _ _ => rfl))))
    pss_nil)
    (pss_one (ps_ret pe_int))), ?_⟩
    refine ⟨_, rfl, _, rfl, a, ns, _, rfl, ha, rfl, _, _, rfl, rfl, _, rfl, ?_⟩
    unfold cell at k
    refine ite_d (fun h => ?_) fun h => ?_
    · rw [if_pos h] at k
      exact ⟨_, rfl, _, rfl, a, ns, _, _, rfl, rfl, ha, h0, h, rfl, k⟩
    · rw [if_neg h] at k
      exact k
def sp_draw : Sp := fun vs H Q _ => ∃ c k m : Int, vs = [.int c, .int k, .int m] ∧ 0 < m ∧ ∀ H' v, Same H H' → 0 ≤ v → v < m → Q (.int v) H'
theorem ok_l_draw (T : Txt K mg) : FnOk P w K mg base CX0 1 T.f_l_draw T.d_l_draw ["_law_cell", "_law_k", "_law_many"] sp_draw := by
  refine T.a_l_draw.F.ok sc_l_draw (fun vs H Q E h => ?_) (fun cdv A outer s H vs Q E hr h => ?_)
  · obtain ⟨c, k, m, rfl, _⟩ := h
    rfl
  · obtain ⟨c, i, m, rfl, hm, k⟩ := h
    refine ⟨_, (pss_cons (ps_set (i := 3) sc_l_draw.nd rfl (Or.inl rfl) (pe_tup (pa_cons pe_int (pa_cons pe_int (pa_cons pe_int (pa_cons pe_int (pa_cons pe_int (pa_cons pe_int (pa_cons pe_int (pa_cons pe_int (pa_cons pe_int (pa_cons pe_int (pa_cons pe_int (pa_cons pe_int (pa_cons pe_int (pa_cons pe_int (pa_cons pe_int (pa_cons pe_int pa_nil))))))))))))))))))
    (pss_one (ps_ret (pe_op op_modZ (pe_op op_modZ (pe_op op_add (pe_op op_mulZ (pv 0) pe_int) (pe_op op_mulZ (pv 1) pe_int)) (pe_ix ix_tup (pv 3) (pe_op op_modZ (pv 1) pe_int) (fun _ _ => rfl))) (pv 2))))), ?_⟩
    refine ⟨(by show 16 ≤ sizeLine; decide), fun t ht => ?_⟩
    have h0 : 0 ≤ i % 16 := Int.emod_nonneg _ (by decide)
    have h1 : i % 16 < 16 := Int.emod_lt_of_pos _ (by decide)
    have pp := primes_pos (i % 16).toNat (by omega)
    refine ⟨_, rfl, _, _, _, rfl, rfl, .inr (by decide), rfl, _, rfl, _, _, _, rfl, rfl, .inr (by decide), rfl, _, _, rfl, rfl, _, rfl, _, rfl, _, _, _, rfl, rfl, by decide, rfl, t, vi primes, _, _, rfl, rfl, .inl (Rd.of upd_same), at_vi h0 h1, _, _, _, rfl, rfl, pp, rfl, _, rfl, _, _, _, rfl, rfl, hm, rfl, ?_⟩
    exact k _ _ (same_new (Same.refl H) ht) (Int.emod_nonneg _ (by omega)) (Int.emod_lt_of_pos _ hm)
def sp_number : Sp := fun vs H Q _ => ∃ c k : Int, vs = [.int c, .int k] ∧ RS.BM 1048576 c ∧ 0 ≤ k ∧ k ≤ 1000 ∧ ∀ H' v, Same H H' → Q (.int v) H'
theorem ok_l_number (T : Txt K mg) : FnOk P w K mg base CX0 2 T.f_l_number T.d_l_number ["_law_cell", "_law_k"] sp_number := by
  have G_l_draw : FnOk P w K mg base CX0 1 T.f_l_draw T.d_l_draw ["_law_cell", "_law_k", "_law_many"] sp_draw := ok_l_draw T
  refine T.a_l_number.F.ok sc_l_number (fun vs H Q E h => ?_) (fun cdv A outer s H vs Q E hr h => ?_)
  · obtain ⟨c, k, rfl, _⟩ := h
    rfl
  · obtain ⟨c, i, rfl, hc, h0, h1, k⟩ := h
    refine ⟨_, (pss_cons (ps_if (pt_cmpR op_ge (pv 0) (pe_op op_pow pe_int pe_int) (nomark _))
    (pss_one (ps_ret (pe_op op_sub (pv 0) (pe_op op_pow pe_int pe_int))))
    pss_nil)
    (pss_one (ps_ret (pe_call G_l_draw hr rfl T.a_l_draw.g T.a_l_draw.F.kp T.a_l_draw.b .nil pass0 (pa_cons (pe_op op_mulB (pe_op op_add (pv 0) (pe_op op_mulZ pe_int (pv 1))) (pe_op op_add (pe_op op_add (pv 0) (pe_op op_mulZ pe_int (pv 1))) pe_int)) (pa_cons (pe_op op_add (pe_op op_modZ (pv 1) pe_int) pe_int) (pa_cons pe_int pa_nil))))))), ?_⟩
    refine ⟨_, rfl, _, _, rfl, rfl, ⟨by decide, by decide, by decide⟩, _, _, rfl, rfl, _, rfl, ?_⟩
    refine ite_d (fun _ => ?_) fun _ => ?_
    · exact ⟨_, rfl, _, _, rfl, rfl, ⟨by decide, by decide, by decide⟩, _, _, rfl, rfl, k H _ (Same.refl H)⟩
    · have b1 : RS.BB (c + 977 * i) := hc.add (by omega) (by omega)
      have b2 : RS.BB (c + 31 * i + 5) := by
        have e : c + 31 * i + 5 = c + (31 * i + 5) := by omega
        rw [e]
        exact hc.add (by omega) (by omega)
      refine ⟨_, rfl, _, rfl, _, _, _, rfl, rfl, .inl (by decide), rfl, _, _, rfl, rfl, _, rfl, _, rfl, _, _, _, rfl, rfl, .inl (by decide), rfl, _, _, rfl, rfl, _, _, rfl, rfl, _, _, rfl, rfl, b1.pair b2, ?_⟩
      refine ⟨_, rfl, _, _, _, rfl, rfl, by decide, rfl, _, _, rfl, rfl, _, _, _, rfl, by decide, fun H' v s' _ _ => k H' v s'⟩
def sp_order (K : PySem.W.Frag) : Sp := fun vs H Q _ => ∃ (a : Addr) (ns : List Int) (b : Int), vs = [.ref a, .int b] ∧ SqL K H a (vi ns) ∧ Sc ns ∧ 0 ≤ b ∧ b ≤ 100 ∧
  ∀ H' p row, Same H H' → H p = none → H' p = some (.lst (vi row)) → RS.IsRow row → row.length = max 3 ns.length → Q (.ref p) H'
theorem ok_l_order (T : Txt K mg) : FnOk P w K mg base CX0 3 T.f_l_order T.d_l_order ["_law_script", "_law_by"] (sp_order K) := by
  have G_l_number : FnOk P w K mg base CX0 2 T.f_l_number T.d_l_number ["_law_cell", "_law_k"] sp_number := ok_l_number T
  have G_l_cell_at : FnOk P w K mg base CX0 1 T.f_l_cell_at T.d_l_cell_at ["_law_script", "_law_k"] (sp_cell K) := ok_l_cell_at T
  refine T.a_l_order.F.ok sc_l_order (fun vs H Q E h => ?_) (fun cdv A outer s H vs Q E hr h => ?_)
  · obtain ⟨a, ns, b, rfl, _⟩ := h
    rfl
  · obtain ⟨a, ns, b, rfl, ha, S, hb0, hb1, k⟩ := h
    have hl := S.1
    refine ⟨_, (pss_cons (ps_set (i := 2) sc_l_order.nd rfl (Or.inl rfl) (pe_lst pa_nil))
    (pss_cons (ps_for PassesOwn.never rfl (pi_range1 rfl T.z_range (pa_cons (pe_callB (call_max2 rfl) (by rfl) T.z_max (by decide +kernel) (pa_cons pe_int (pa_cons (pe_callB lenZ (by rfl) T.z_len (by decide +kernel) (pa_cons (pv 0) pa_nil)) pa_nil))) pa_nil)) (pg_name (i := 3) sc_l_order.nd rfl (Or.inl rfl))
    (pss_one (ps_expr (pe_bm PySem.F.plainAttrs_list PySem.F.slot_list_insert PySem.F.type_list_insert insZ (pv 2) (pa_cons (pe_op op_modZ (pe_call G_l_number hr rfl T.a_l_number.g T.a_l_number.F.kp T.a_l_number.b .nil pass0 (pa_cons (pe_call G_l_cell_at (hr.mono (by decide)) rfl T.a_l_cell_at.g T.a_l_cell_at.F.kp T.a_l_cell_at.b .nil pass0 (pa_cons (pv 0) (pa_cons (pv 3) pa_nil))) (pa_cons (pe_op op_add (pv 3) (pv 1)) pa_nil))) (pe_op op_add (pv 3) pe_int)) (pa_cons (pv 3) pa_nil))))))
    (pss_one (ps_ret (pv 2))))), ?_⟩
    refine ⟨Nat.zero_le _, fun l hl0 => ?_⟩
    have s1 := same_new (Same.refl H) hl0 (o := .lst [])
    refine ⟨_, rfl, a, ns, _, rfl, s1.seq ha, rfl, _, _, rfl, ?_⟩
    have em : (if (ns.length : Int) > 3 then (ns.length : Int) else 3) = ((max 3 ns.length : Nat) : Int) := by
      by_cases h : (ns.length : Int) > 3
      · rw [if_pos h]; omega
      · rw [if_neg h]; omega
    rw [em]
    refine ⟨_, rfl, by omega, by omega, for_range0 (n := max 3 ns.length) (fun i σ H2 => ∃ (row : List Int) (v : Option V), σ = [some (.ref a), some (.int b), some (.ref l), v] ∧ Same H H2 ∧ H2 l = some (.lst (vi row)) ∧ row.Perm (RS.ids i) ∧ row.length = i)
      ⟨[], none, rfl, s1, upd_same, List.Perm.refl _, rfl⟩ ?_ ?_⟩
    · rintro i σ H2 hi ⟨row, v, rfl, s2, hL, hperm, rl⟩
      refine ⟨_, rfl, .inl ⟨rfl, _, SqL.of hL⟩, ?_⟩
      refine ⟨_, rfl, _, rfl, a, ns, _, rfl, s2.seq ha, by omega, ?_⟩
      refine ⟨_, rfl, _, rfl, _, _, rfl, rfl, _, _, rfl, cell_bm S _, by omega, by omega, fun H3 z s3 => ?_⟩
      have hL3 := s3 _ _ hL
      have npos : (0 : Int) < (i : Int) + 1 := by omega
      have z0 := Int.emod_nonneg z (show (i : Int) + 1 ≠ 0 by omega)
      have z1 := Int.emod_lt_of_pos z npos
      refine ⟨_, rfl, _, _, rfl, rfl, _, _, _, rfl, rfl, npos, rfl, _, rfl, l, row, _, _, rfl, rfl, hL3, by omega, z0, by omega, ?_⟩
      refine ⟨_, _, rfl, same_mut (Same.trans s2 s3) hl0, upd_same, RS.ins_perm hperm, ?_⟩
      rw [List.length_append, List.length_append, List.length_take, List.length_drop, List.length_singleton]
      omega
    · rintro σ H2 ⟨row, v, rfl, s2, hL, hperm, rl⟩
      exact ⟨_, rfl, k H2 l row s2 hl0 hL (RS.isRow_perm (by omega) (by rw [rl]; exact hperm)) rl⟩
def sp_turned (K : PySem.W.Frag) : Sp := fun vs H Q _ => ∃ (a : Addr) (row : List Int) (b : Int), vs = [.ref a, .int b] ∧ SqL K H a (vi row) ∧ 0 < row.length ∧ row.length ≤ 1000 ∧
  ∀ H' p, Same H H' → H p = none → H' p = some (.lst (vi (RS.rot row (b % (row.length : Int)).toNat))) → Q (.ref p) H'
theorem ok_l_turned (T : Txt K mg) : FnOk P w K mg base CX0 1 T.f_l_turned T.d_l_turned ["_law_row_here", "_law_by"] (sp_turned K) := by
  refine T.a_l_turned.F.ok sc_l_turned (fun vs H Q E h => ?_) (fun cdv A outer s H vs Q E hr h => ?_)
  · obtain ⟨a, row, b, rfl, _⟩ := h
    rfl
  · obtain ⟨a, row, b, rfl, ha, hpos, hl, k⟩ := h
    have npos : (0 : Int) < (row.length : Int) := by omega
    have z0 := Int.emod_nonneg b (show (row.length : Int) ≠ 0 by omega)
    have z1 := Int.emod_lt_of_pos b npos
    have ez : b % (row.length : Int) = (((b % (row.length : Int)).toNat : Nat) : Int) := by omega
    refine ⟨_, (pss_cons (ps_set (i := 2) sc_l_turned.nd rfl (Or.inl rfl) (pe_op op_modZ (pv 1) (pe_callB lenZ (by rfl) T.z_len (by decide +kernel) (pa_cons (pv 0) pa_nil))))
    (pss_one (ps_ret (pe_op op_catZ (pe_slice slZ (pv 0) (po_some (pv 2)) po_none) (pe_slice slZ (pv 0) po_none (po_some (pv 2))))))), ?_⟩
    refine ⟨_, rfl, _, rfl, a, row, _, rfl, ha, rfl, _, _, _, rfl, rfl, npos, ez, ?_⟩
    refine ⟨_, rfl, _, rfl, _, rfl, a, row, _, rfl, ha, cut_from (by omega), fun p hp => ?_⟩
    have s1 := same_new (Same.refl H) hp (o := .lst (vi (row.drop (b % (row.length : Int)).toNat)))
    refine ⟨_, rfl, _, rfl, _, rfl, a, row, _, rfl, s1.seq ha, cut_to (by omega), fun q hq => ?_⟩
    have npq : p ≠ q := ne_of_none upd_same hq
    have s2 := same_new s1 hq (o := .lst (vi (row.take (b % (row.length : Int)).toNat)))
    refine ⟨p, q, _, _, rfl, rfl, (by rw [upd_ne npq, upd_same]), upd_same, (by rw [List.length_drop, List.length_take]; omega), fun r hr => ?_⟩
    exact k _ r (same_new s2 hr) (s2.free hr) upd_same
end
end Toy
set_option Elab.async false
set_option linter.all false
set_option maxRecDepth 100000
set_option maxHeartbeats 4000000
namespace Toy
open PySem L2
section
variable {P : Program} {w : World} {K : PySem.W.Frag} {mg : Str → Option Value} {base : Heap}
/-! ## the program's way -/
def sp_way_of (K : PySem.W.Frag) : Sp := fun vs H Q _ => ∃ (a : Addr) (row : List Int), vs = [.ref a] ∧ SqL K H a (vi row) ∧ RS.IsRow row ∧ row.length ≤ 100 ∧
  ∀ H' t p q ws fs, Same H H' → H p = none → H q = none → p ≠ q → H' t = some (.tup [.ref q, .ref p]) → H' q = some (.lst (vi fs)) → H' p = some (.lst (vi ws)) → RS.NorW row ws → RS.Found row ws fs → Q (.ref t) H'
theorem ok_way_of (T : Txt K mg) : FnOk P w K mg base CX0 2 T.f_way_of T.d_way_of ["row"] (sp_way_of K) := by
  have G_ways_of : FnOk P w K mg base CX0 1 T.f_ways_of T.d_ways_of ["row"] (sp_ways_of K) := ok_ways_of T
  have G_swaps_by : FnOk P w K mg base CX0 1 T.f_swaps_by T.d_swaps_by ["row", "ways"] (sp_swaps_by K) := ok_swaps_by T
  refine T.a_way_of.F.ok sc_way_of (fun vs H Q E h => ?_) (fun cdv A outer s H vs Q E hr h => ?_)
  · obtain ⟨a, row, rfl, _⟩ := h
    rfl
  · obtain ⟨a, row, rfl, ha, R, hl, k⟩ := h
    refine ⟨_, (pss_cons (ps_set (i := 1) sc_way_of.nd rfl (Or.inl rfl) (pe_call G_ways_of hr rfl T.a_ways_of.g T.a_ways_of.F.kp T.a_ways_of.b .nil pass0 (pa_cons (pv 0) pa_nil)))
    (pss_one (ps_ret (pe_tup (pa_cons (pe_call G_swaps_by hr rfl T.a_swaps_by.g T.a_swaps_by.F.kp T.a_swaps_by.b .nil pass0 (pa_cons (pv 0) (pa_cons (pv 1) pa_nil))) (pa_cons (pv 1) pa_nil)))))), ?_⟩
    refine ⟨_, rfl, a, row, rfl, ha, R, by omega, fun H1 p ws s1 p0 hp W => ?_⟩
    refine ⟨_, rfl, _, rfl, a, p, row, ws, rfl, s1.seq ha, SqL.of hp, R, hl, W, fun H2 q fs s2 q0 hq F => ?_⟩
    refine ⟨_, rfl, (by show 2 ≤ sizeLine; decide), fun t ht => ?_⟩
    have hp2 := s2 _ _ hp
    exact k _ t p q ws fs (same_new (Same.trans s1 s2) ht) p0 (s1.free q0) (ne_of_none hp q0) upd_same (by rw [upd_ne (ne_of_none hq ht)]; exact hq) (by rw [upd_ne (ne_of_none hp2 ht)]; exact hp2) W F
def sp_brought (C : Addr) : Sp := fun vs H Q _ => ∃ (a : Addr) (row : List Int), vs = [.ref a] ∧ H a = some (.lst (vi row)) ∧ RS.IsRow row ∧ row.length ≤ 100 ∧
  ∀ H' x l1 l2 fs ws, Same H H' → H x = none → H l1 = none → H l2 = none → l1 ≠ l2 → BrAt C H' x l1 l2 fs ws → RS.NorW row ws → RS.Found row ws fs → Q (.ref x) H'
theorem ok_brought (T : Txt K mg) : FnOk P w K mg base CX0 3 T.f_brought T.d_brought ["row"] (sp_brought T.C) := by
  have G_check_row : FnOk P w K mg base CX0 2 T.f_check_row T.d_check_row ["row"] sp_check_row := ok_check_row T
  have G_way_of : FnOk P w K mg base CX0 2 T.f_way_of T.d_way_of ["row"] (sp_way_of K) := ok_way_of T
  have G_B_init : FnOk P w K mg base CX0 1 T.f_B_init T.d_B_init ["self", "swaps", "ways"] (sp_B_init T.C K) := ok_B_init T
  refine T.a_brought.F.ok sc_brought (fun vs H Q E h => ?_) (fun cdv A outer s H vs Q E hr h => ?_)
  · obtain ⟨a, row, rfl, _⟩ := h
    rfl
  · obtain ⟨a, row, rfl, ha, R, hl, k⟩ := h
    refine ⟨_, (pss_cons (ps_expr (pe_call G_check_row hr rfl T.a_check_row.g T.a_check_row.F.kp T.a_check_row.b .nil pass0 (pa_cons (pv 0) pa_nil)))
    (pss_cons (ps_asg (pe_call G_way_of hr rfl T.a_way_of.g T.a_way_of.F.kp T.a_way_of.b .nil pass0 (pa_cons (pv 0) pa_nil)) (pg_tup (by rfl) (pgs_cons (pg_name (i := 1) sc_brought.nd rfl (Or.inl rfl)) (pgs_cons (pg_name (i := 2) sc_brought.nd rfl (Or.inl rfl)) pgs_nil))))
    (pss_one (ps_ret (pe_make ⟨T.mkC, T.a_B_init.m, T.a_B_init.i, T.kC⟩ G_B_init hr rfl T.gC T.a_B_init.b .nil pass0 (pa_cons (pv 1) (pa_cons (pv 2) pa_nil))))))), ?_⟩
    refine ⟨_, rfl, a, row, rfl, ha, R, by omega, fun H1 s1 => ?_⟩
    refine ⟨_, rfl, a, row, rfl, SqL.of (s1 _ _ ha), R, hl, fun H2 t p q ws fs s2 p0 q0 npq ht hq hp W F => ?_⟩
    refine ⟨t, _, rfl, .inl (Rd.of ht), rfl, _, _, rfl, _, _, rfl, rfl, ?_⟩
    refine ⟨_, rfl, _, rfl, fun x dx nx ndx nex => ?_⟩
    have keep : ∀ b o, H2 b = some o → (upd (upd H2 dx (.own x)) x (.ins T.C dx [])) b = some o := fun b o e => by
      rw [upd_ne (ne_of_none e nx), upd_ne (ne_of_none e ndx)]
      exact e
    have back : ∀ b, (upd (upd H2 dx (.own x)) x (.ins T.C dx [])) b = none → H2 b = none := fun b e => by
      cases h : H2 b with
      | none => rfl
      | some o =>
        rw [keep b o h] at e
        cases e
    refine ⟨x, dx, q, p, fs, ws, rfl, upd_same, SqL.of (keep _ _ hq), SqL.of (keep _ _ hp), fun H3 l1 l2 s3 h1 h2 ne B => ⟨rfl, ?_⟩⟩
    have s12 := Same.trans s1 s2
    refine k H3 x l1 l2 fs ws (fun b o e => ?_) (s12.free nx) (s12.free (back _ h1)) (s12.free (back _ h2)) ne B W F
    have e2 := s12 b o e
    exact s3 b o (keep b o e2) (ne_of_none e2 nx)
def sp_done : Sp := fun vs H Q _ => ∃ (a b : Addr) (row sw : List Int), vs = [.ref a, .ref b] ∧ H a = some (.lst (vi row)) ∧ H b = some (.lst (vi sw)) ∧ RS.IsRow row ∧ row.length ≤ 1000 ∧ sw.length ≤ 10000 ∧ RS.plOk row.length sw ∧
  ∀ H' p, Same H H' → H p = none → H' p = some (.lst (vi (RS.doneL row sw))) → Q (.ref p) H'
theorem ok_done (T : Txt K mg) : FnOk P w K mg base CX0 3 T.f_done T.d_done ["row", "swaps"] sp_done := by
  have G_check_row : FnOk P w K mg base CX0 2 T.f_check_row T.d_check_row ["row"] sp_check_row := ok_check_row T
  have G_are_places : FnOk P w K mg base CX0 2 T.f_are_places T.d_are_places ["swaps", "many"] (sp_are_places K) := ok_are_places T
  have G_behind : FnOk P w K mg base CX0 1 T.f_behind T.d_behind ["row", "swaps"] (sp_behind K) := ok_behind T
  refine T.a_done.F.ok sc_done (fun vs H Q E h => ?_) (fun cdv A outer s H vs Q E hr h => ?_)
  · obtain ⟨a, b, row, sw, rfl, _⟩ := h
    rfl
  · obtain ⟨a, b, row, sw, rfl, ha, hb, R, hl, hsl, pl, k⟩ := h
    refine ⟨_, (pss_cons (ps_expr (pe_call G_check_row hr rfl T.a_check_row.g T.a_check_row.F.kp T.a_check_row.b .nil pass0 (pa_cons (pv 0) pa_nil)))
    (pss_cons (ps_if (PW.pt (pw_or (pt_not (pt_val (pe_callB call_isi (by rfl) T.z_isinstance (by decide +kernel) (pa_cons (pv 1) (pa_cons (pe_bltn (v := .ty "list") (by rfl) T.z_list (by decide +kernel) rfl) pa_nil))))) (pw_or1 (pt_not (pt_val (pe_call G_are_places hr rfl T.a_are_places.g T.a_are_places.F.kp T.a_are_places.b .nil pass0 (pa_cons (pv 1) (pa_cons (pe_callB lenZ (by rfl) T.z_len (by decide +kernel) (pa_cons (pv 0) pa_nil)) pa_nil))))))))
    (pss_one ps_never)
    pss_nil)
    (pss_one (ps_ret (pe_call G_behind (hr.mono (by decide)) rfl T.a_behind.g T.a_behind.F.kp T.a_behind.b .nil pass0 (pa_cons (pv 0) (pa_cons (pv 1) pa_nil))))))), ?_⟩
    refine ⟨_, rfl, a, row, rfl, ha, R, hl, fun H1 s1 => ?_⟩
    have ha1 := s1 _ _ ha
    have hb1 := s1 _ _ hb
    refine ⟨_, rfl, _, _, _, _, true, rfl, ClsV.ty _, TyX.base (.lst hb1), kit_ty (by decide +kernel), _, rfl, ?_⟩
    refine ite_not (fun z => nomatch z) fun _ => ?_
    refine ⟨_, rfl, _, rfl, a, row, _, rfl, SqL.of ha1, rfl, b, sw, _, rfl, SqL.of hb1, hsl, fun H2 c s2 hc => ⟨_, rfl, ?_⟩⟩
    refine ite_not (fun z => ?_) fun _ => ?_
    · have := hc.mpr pl
      rw [z] at this
      cases this
    have s12 := Same.trans s1 s2
    exact ⟨_, rfl, _, rfl, a, b, row, sw, rfl, SqL.of (s12 _ _ ha), SqL.of (s12 _ _ hb), pl, fun H3 p s3 p0 hp => k H3 p (Same.trans s12 s3) (s12.free p0) hp⟩
/-! ## the law's row -/
def sp_row (K : PySem.W.Frag) : Sp := fun vs H Q _ => ∃ (a : Addr) (ns : List Int), vs = [.ref a] ∧ SqL K H a (vi ns) ∧ Sc ns ∧
  ∀ H' p row, Same H H' → H p = none → H' p = some (.lst (vi row)) → RS.IsRow row → row.length = max 3 ns.length → Q (.ref p) H'
theorem ok_l_row (T : Txt K mg) : FnOk P w K mg base CX0 4 T.f_l_row T.d_l_row ["_law_script"] (sp_row K) := by
  have G_l_draw : FnOk P w K mg base CX0 1 T.f_l_draw T.d_l_draw ["_law_cell", "_law_k", "_law_many"] sp_draw := ok_l_draw T
  have G_l_order : FnOk P w K mg base CX0 3 T.f_l_order T.d_l_order ["_law_script", "_law_by"] (sp_order K) := ok_l_order T
  have G_l_cell_at : FnOk P w K mg base CX0 1 T.f_l_cell_at T.d_l_cell_at ["_law_script", "_law_k"] (sp_cell K) := ok_l_cell_at T
  have G_l_number : FnOk P w K mg base CX0 2 T.f_l_number T.d_l_number ["_law_cell", "_law_k"] sp_number := ok_l_number T
  have G_l_turned : FnOk P w K mg base CX0 1 T.f_l_turned T.d_l_turned ["_law_row_here", "_law_by"] (sp_turned K) := ok_l_turned T
  have G_l_done : FnOk P w K mg base CX0 1 T.f_l_done T.d_l_done ["_law_row_here", "_law_swaps"] (sp_behind K) := ok_l_done T
  refine T.a_l_row.F.ok sc_l_row (fun vs H Q E h => ?_) (fun cdv A outer s H vs Q E hr h => ?_)
  · obtain ⟨a, ns, rfl, _⟩ := h
    rfl
  · obtain ⟨a, ns, rfl, ha, S, k⟩ := h
    have hl := S.1
    refine ⟨_, (pss_cons (ps_set (i := 0) sc_l_row.nd rfl (Or.inl rfl) (pe_slice slZ (pv 0) po_none (po_some pe_int)))
    (pss_cons (ps_set (i := 1) sc_l_row.nd rfl (Or.inl rfl) (pe_call G_l_draw (hr.mono (by decide)) rfl T.a_l_draw.g T.a_l_draw.F.kp T.a_l_draw.b .nil pass0 (pa_cons (pe_call G_l_cell_at (hr.mono (by decide)) rfl T.a_l_cell_at.g T.a_l_cell_at.F.kp T.a_l_cell_at.b .nil pass0 (pa_cons (pv 0) (pa_cons pe_int pa_nil))) (pa_cons pe_int (pa_cons pe_int pa_nil)))))
    (pss_cons (ps_set (i := 2) sc_l_row.nd rfl (Or.inl rfl) (pe_call G_l_order hr rfl T.a_l_order.g T.a_l_order.F.kp T.a_l_order.b .nil pass0 (pa_cons (pv 0) (pa_cons pe_int pa_nil))))
    (pss_cons (ps_asg (pe_tup (pa_cons (pe_callB lenZ (by rfl) T.z_len (by decide +kernel) (pa_cons (pv 2) pa_nil)) (pa_cons (pe_call G_l_number (hr.mono (by decide)) rfl T.a_l_number.g T.a_l_number.F.kp T.a_l_number.b .nil pass0 (pa_cons (pe_call G_l_cell_at (hr.mono (by decide)) rfl T.a_l_cell_at.g T.a_l_cell_at.F.kp T.a_l_cell_at.b .nil pass0 (pa_cons (pv 0) (pa_cons pe_int pa_nil))) (pa_cons pe_int pa_nil))) pa_nil))) (pg_tup (by rfl) (pgs_cons (pg_name (i := 3) sc_l_row.nd rfl (Or.inr rfl)) (pgs_cons (pg_name (i := 4) sc_l_row.nd rfl (Or.inl rfl)) pgs_nil))))
    (Evl.pss_cut (ps_if (pt_cmpR op_eq (pv 1) pe_int (nomark _))
    (pss_one (ps_set (i := 2) sc_l_row.nd rfl (Or.inl rfl) (pe_call G_l_turned (hr.mono (by decide)) rfl T.a_l_turned.g T.a_l_turned.F.kp T.a_l_turned.b .nil pass0 (pa_cons (pe_listRg rfl (by rfl) T.z_list (prg_1 (by rfl) T.z_range (pv 3))) (pa_cons (pv 4) pa_nil)))))
    pss_nil)
    (Evl.pss_cut (ps_if (pt_cmpR op_eq (pv 1) pe_int (nomark _))
    (pss_one (ps_set (i := 2) sc_l_row.nd rfl (Or.inl rfl) (pe_call G_l_turned (hr.mono (by decide)) rfl T.a_l_turned.g T.a_l_turned.F.kp T.a_l_turned.b .nil pass0 (pa_cons (pe_revL (pe_listRg rfl (by rfl) T.z_list (prg_1 (by rfl) T.z_range (pv 3)))) (pa_cons (pv 4) pa_nil)))))
    pss_nil)
    (Evl.pss_cut (ps_if (pt_cmpR op_eq (pv 1) pe_int (nomark _))
    (pss_one (ps_set (i := 2) sc_l_row.nd rfl (Or.inl rfl) (pe_call G_l_done (hr.mono (by decide)) rfl T.a_l_done.g T.a_l_done.F.kp T.a_l_done.b .nil pass0 (pa_cons (pe_listRg rfl (by rfl) T.z_list (prg_1 (by rfl) T.z_range (pv 3))) (pa_cons (pe_lc (own := [("_law_k", 5), ("_law_cell", 6)]) (g := (gTup K 2 (gCons (gName 5) (gCons (gName 6) gNil)))) (tt := tYes) rfl sc_l_row.nd (pi_enum (by rfl) T.z_enumerate (pa_cons (pv 0) pa_nil)) (blkOk_by (N := ["_law_script", "_law_kind", "_law_row_here", "_law_size", "_law_by", "_law_k", "_law_cell"]) (sc := defScope s_l_row) (by decide +kernel)) (fun _ _ _ _ _ => pg_tup rfl (pgs_cons (pg_name (i := 5) sc_l_row.nd rfl (Or.inl rfl)) (pgs_cons (pg_name (i := 6) sc_l_row.nd rfl (Or.inl rfl)) pgs_nil))) (fun _ _ _ _ _ => pts_nil) (fun _ _ _ _ _ => (pe_op op_modZ (pe_call G_l_number (hr.mono (by decide)) rfl T.a_l_number.g T.a_l_number.F.kp T.a_l_number.b .nil pass0 (pa_cons (pv 6) (pa_cons (pv 5) pa_nil))) (pv 3)))) pa_nil)))))
    pss_nil)
    (pss_one (ps_ret (pv 2)))))))))), ?_⟩
    refine ⟨_, rfl, _, rfl, a, ns, ns, rfl, ha, (cut_take ns 63).trans (List.take_of_length_le hl), fun p hp0 => ?_⟩
    have s1 := same_new (Same.refl H) hp0 (o := .lst (vi ns))
    have hp1 : (upd H p (.lst (vi ns))) p = some (.lst (vi ns)) := upd_same
    refine ⟨_, rfl, p, ns, _, rfl, SqL.of hp1, by decide, _, _, _, rfl, by decide, fun H2 kd s2 k0 k1 => ?_⟩
    have hp2 := s2 _ _ hp1
    have s12 := Same.trans s1 s2
    refine ⟨_, rfl, p, ns, _, rfl, SqL.of hp2, S, by decide, by decide, fun H3 r row s3 r0 hr3 R rl => ?_⟩
    have hp3 := s3 _ _ hp2
    have s13 := Same.trans s12 s3
    have rl63 : row.length ≤ 63 := by omega
    refine ⟨_, rfl, r, row, _, rfl, SqL.of hr3, rfl, _, rfl, p, ns, _, rfl, SqL.of hp3, by decide, _, _, rfl, cell_bm S _, by decide, by decide, fun H4 by_ s4 => ⟨(by show 2 ≤ sizeLine; decide), fun t ht => ?_⟩⟩
    have s14 := Same.trans s13 s4
    have hp4 := s4 _ _ hp3
    have hr4 := s4 _ _ hr3
    have s5 := same_new s14 ht (o := .tup [.int (row.length : Int), .int by_])
    have hp5 : (upd H4 t (.tup [.int (row.length : Int), .int by_])) p = some (.lst (vi ns)) := by rw [upd_ne (ne_of_none hp4 ht)]; exact hp4
    have hr5 : (upd H4 t (.tup [.int (row.length : Int), .int by_])) r = some (.lst (vi row)) := by rw [upd_ne (ne_of_none hr4 ht)]; exact hr4
    refine ⟨t, _, rfl, .inl (Rd.of upd_same), rfl, _, _, rfl, _, _, rfl, rfl, ?_⟩
    -- between the ifs: some row stands in slot 2
    have Mid : ∃ Mid : L2.St → Hp → Prop, Mid = fun σ H' => ∃ (q : Addr) (l : List Int), σ = [some (.ref p), some (.int kd), some (.ref q), some (.int (row.length : Int)), some (.int by_), none, none] ∧ Same H H' ∧ H q = none ∧ H' q = some (.lst (vi l)) ∧ RS.IsRow l ∧ l.length = row.length ∧ H' p = some (.lst (vi ns)) := ⟨_, rfl⟩
    obtain ⟨Mid, eM⟩ := Mid
    have start : Mid [some (.ref p), some (.int kd), some (.ref r), some (.int (row.length : Int)), some (.int by_), none, none] (upd H4 t (.tup [.int (row.length : Int), .int by_])) := by
      rw [eM]
      exact ⟨r, row, rfl, s5, s12.free r0, hr5, R, rfl, hp5⟩
    have n3 := R.three
    refine ⟨Mid, ?_, ?_⟩
    · -- kind 0
      refine ⟨_, rfl, rfl, _, rfl, ?_⟩
      refine ite_eq (fun _ => ?_) fun _ => start
      refine ⟨_, rfl, _, rfl, rgOk_n (by omega), fun q hq => ?_⟩
      have s6 := same_new s5 hq (o := .lst (rgV 0 (row.length : Int)))
      refine ⟨_, rfl, q, RS.ids row.length, by_, rfl, SqL.of (by rw [upd_same, rgV_ids]), by rw [RS.ids_len]; omega, by rw [RS.ids_len]; omega, fun H7 u s7 u0 hu => ?_⟩
      rw [eM]
      exact ⟨u, _, rfl, Same.trans s6 s7, s6.free u0, hu, (RS.isRow_ids n3).rot _, (RS.rot_len _ _).trans (RS.ids_len _), s7 _ _ (by rw [upd_ne (ne_of_none hp5 hq)]; exact hp5)⟩
    intro σ H5 M5
    rw [eM] at M5
    obtain ⟨q5, l5, rfl, s5, q50, hq5, R5, ll5, hp5⟩ := M5
    refine ⟨Mid, ?_, ?_⟩
    · -- kind 1
      refine ⟨_, rfl, rfl, _, rfl, ?_⟩
      refine ite_eq (fun _ => ?_) fun _ => ?_
      · refine ⟨_, rfl, _, rfl, rgOk_n (by omega), fun q hq => ?_⟩
        have s6 := same_new s5 hq (o := .lst (rgV 0 (row.length : Int)))
        refine ⟨q, _, rfl, SqL.of upd_same, fun q2 hq2 => ?_⟩
        have s6' := same_new s6 hq2 (o := .lst (rgV 0 (row.length : Int)).reverse)
        have hp6 : (upd (upd H5 q (.lst (rgV 0 (row.length : Int)))) q2 (.lst (rgV 0 (row.length : Int)).reverse)) p = some (.lst (vi ns)) := by
          have e1 := ne_of_none hp5 hq
          have h6 : (upd H5 q (.lst (rgV 0 (row.length : Int)))) p = some (.lst (vi ns)) := by rw [upd_ne e1]; exact hp5
          rw [upd_ne (ne_of_none h6 hq2)]; exact h6
        refine ⟨_, rfl, q2, (RS.ids row.length).reverse, by_, rfl, SqL.of (by rw [upd_same, rgV_ids, ← List.map_reverse]), by rw [List.length_reverse, RS.ids_len]; omega, by rw [List.length_reverse, RS.ids_len]; omega, fun H7 u s7 u0 hu => ?_⟩
        rw [eM]
        exact ⟨u, _, rfl, Same.trans s6' s7, s6'.free u0, hu, (RS.isRow_ids n3).reverse.rot _, (RS.rot_len _ _).trans (by rw [List.length_reverse, RS.ids_len]), s7 _ _ hp6⟩
      · show Mid _ _
        rw [eM]
        exact ⟨q5, l5, rfl, s5, q50, hq5, R5, ll5, hp5⟩
    clear hq5 R5 ll5 q50 s5 hp5 start
    intro σ H6 M6
    rw [eM] at M6
    obtain ⟨q6, l6, rfl, s6, q60, hq6, R6, ll6, hp6⟩ := M6
    refine ⟨Mid, ?_, ?_⟩
    · -- kind 2
      refine ⟨_, rfl, rfl, _, rfl, ?_⟩
      refine ite_eq (fun _ => ?_) fun _ => ?_
      · refine ⟨_, rfl, _, rfl, rgOk_n (by omega), fun q hq => ?_⟩
        have hq' : (upd H6 q (.lst (rgV 0 (row.length : Int)))) q = some (.lst (vi (RS.ids row.length))) := by rw [upd_same, rgV_ids]
        have s7 := same_new s6 hq (o := .lst (rgV 0 (row.length : Int)))
        have hp7 : (upd H6 q (.lst (rgV 0 (row.length : Int)))) p = some (.lst (vi ns)) := by rw [upd_ne (ne_of_none hp6 hq)]; exact hp6
        refine ⟨_, rfl, p, _, rfl, SqL.of hp7, fun D hD => lc_it (walk_enum (K := K) (a := p) (xs := vi ns)) (fun i H8 => ∃ xs : List Int, Same (upd H6 q (.lst (rgV 0 (row.length : Int)))) H8 ∧ H8 D = some (.lst (vi xs)) ∧ RS.plOk row.length xs ∧ xs.length = i)
          ⟨[], same_new (Same.refl _) hD, upd_same, (fun z hz => nomatch hz), rfl⟩ (fun i H8 _ ⟨_, s8, _⟩ => s8.seq (SqL.of hp7)) ?_ ?_⟩
        · rintro i x H8 H9 hi ⟨xs, s8, hX, pl, xl⟩ ⟨t2, u, v, rfl, ht2, rfl, e1, e2⟩
          cases e1
          obtain ⟨hi', rfl⟩ := vi_get e2
          have nDt := ne_of_none hX ht2
          refine ⟨t2, _, rfl, .inl (Rd.of upd_same), rfl, _, _, rfl, _, _, rfl, rfl, rfl, ?_⟩
          refine ⟨_, rfl, _, rfl, _, _, rfl, S.2 _ (RS.fr_mem hi'), by omega, by omega, fun H10 z s10 => ?_⟩
          have npos : (0 : Int) < (row.length : Int) := by omega
          have hX10 : H10 D = some (.lst (vi xs)) := s10 _ _ (by rw [upd_ne nDt]; exact hX)
          refine ⟨_, rfl, _, _, _, rfl, rfl, npos, rfl, _, hX10, by rw [vi_len, xl]; exact size_lt (by omega), xs ++ [z % (row.length : Int)], same_mut (Same.trans (same_new s8 ht2) s10) hD, ?_, ?_, ?_⟩
          · rw [upd_same, vi_snoc]
          · intro y hy
            rcases List.mem_append.mp hy with h | h
            · exact pl y h
            · rw [List.mem_singleton.mp h]
              exact ⟨Int.emod_nonneg _ (by omega), Int.emod_lt_of_pos _ npos⟩
          · rw [List.length_append, List.length_singleton, xl]
        · rintro H8 ⟨xs, s8, hX, pl, xl⟩
          have s78 := Same.trans s7 s8
          refine ⟨q, D, RS.ids row.length, xs, rfl, SqL.of (s8 _ _ hq'), SqL.of hX, by rw [RS.ids_len]; exact pl, fun H9 u s9 u0 hu => ?_⟩
          rw [eM]
          exact ⟨u, _, rfl, Same.trans s78 s9, s78.free u0, hu, (RS.isRow_ids n3).done (by rw [RS.ids_len]; exact pl), (RS.doneL_len _ _).trans (RS.ids_len _), s9 _ _ (s8 _ _ hp7)⟩
      · show Mid _ _
        rw [eM]
        exact ⟨q6, l6, rfl, s6, q60, hq6, R6, ll6, hp6⟩
    intro σ H7 M7
    rw [eM] at M7
    obtain ⟨q7, l7, rfl, s7, q70, hq7, R7, ll7, hp7⟩ := M7
    exact ⟨_, rfl, k H7 q7 l7 s7 q70 hq7 R7 (ll7.trans rl)⟩
end
end Toy
set_option Elab.async false
set_option linter.all false
set_option maxRecDepth 100000
set_option maxHeartbeats 4000000
namespace Toy
open PySem L2
theorem fr_mapr {n : Nat} (f : Nat → Int) {i : Nat} (h : i < n) : RS.fr ((List.range n).map f) i = f i := by
  rw [RS.fr_eq (by rw [List.length_map, List.length_range]; exact h), List.getElem_map, List.getElem_range]
/-- named by a list of places -/
theorem nm_pl {one other pl : List Int} (T : RS.Two one other) (h : ∀ j, j < other.length → RS.fr pl (RS.fr other j).toNat = j) : RS.Nm one other ((List.range one.length).map fun i => RS.fr pl (RS.fr one i).toNat) := by
  have key : ∀ i, i < one.length → ∃ q : Nat, q < other.length ∧ RS.fr other q = RS.fr one i ∧ RS.fr ((List.range one.length).map fun i => RS.fr pl (RS.fr one i).toNat) i = q := fun i hi => by
    have l0 := T.r1.row.lo i hi
    have l1 := T.r1.row.hi i hi
    have tl := T.len
    obtain ⟨q, hq, e⟩ := RS.row_hits T.r2.row (t := (RS.fr one i).toNat) (by omega)
    have e' : RS.fr other q = RS.fr one i := by omega
    refine ⟨q, hq, e', ?_⟩
    rw [fr_mapr _ hi, ← e']
    exact h q hq
  have tl := T.len
  refine ⟨by rw [List.length_map, List.length_range], fun i hi => ?_, fun i hi => ?_, fun i hi => ?_⟩
  all_goals
    obtain ⟨q, hq, e1, e2⟩ := key i hi
    rw [e2]
  · omega
  · omega
  · rw [Int.toNat_natCast]; exact e1
section
variable {P : Program} {w : World} {K : PySem.W.Frag} {mg : Str → Option Value} {base : Heap}
def sp_check_both : Sp := fun vs H Q _ => ∃ (a b : Addr) (one other : List Int), vs = [.ref a, .ref b] ∧ H a = some (.lst (vi one)) ∧ H b = some (.lst (vi other)) ∧ RS.Two one other ∧ one.length ≤ 100 ∧ ∀ H', Same H H' → Q .non H'
theorem ok_check_both (T : Txt K mg) : FnOk P w K mg base CX0 3 T.f_check_both T.d_check_both ["one", "other"] sp_check_both := by
  have G_check_row : FnOk P w K mg base CX0 2 T.f_check_row T.d_check_row ["row"] sp_check_row := ok_check_row T
  refine T.a_check_both.F.ok sc_check_both (fun vs H Q E h => ?_) (fun cdv A outer s H vs Q E hr h => ?_)
  · obtain ⟨a, b, one, other, rfl, _⟩ := h
    rfl
  · obtain ⟨a, b, one, other, rfl, ha, hb, W, hl, k⟩ := h
    have tl := W.len
    refine ⟨_, (pss_cons (ps_expr (pe_call G_check_row hr rfl T.a_check_row.g T.a_check_row.F.kp T.a_check_row.b .nil pass0 (pa_cons (pv 0) pa_nil)))
    (pss_cons (ps_expr (pe_call G_check_row hr rfl T.a_check_row.g T.a_check_row.F.kp T.a_check_row.b .nil pass0 (pa_cons (pv 1) pa_nil)))
    (pss_one (ps_if (pt_cmpR op_ne (pe_callB lenZ (by rfl) T.z_len (by decide +kernel) (pa_cons (pv 0) pa_nil)) (pe_callB lenZ (by rfl) T.z_len (by decide +kernel) (pa_cons (pv 1) pa_nil)) (nomark _))
    (pss_one ps_never)
    pss_nil)))), ?_⟩
    refine ⟨_, rfl, a, one, rfl, ha, W.r1, by omega, fun H1 s1 => ?_⟩
    refine ⟨_, rfl, b, other, rfl, s1 _ _ hb, W.r2, by omega, fun H2 s2 => ?_⟩
    have s12 := Same.trans s1 s2
    refine ⟨_, rfl, a, one, _, rfl, SqL.of (s12 _ _ ha), rfl, _, rfl, b, other, _, rfl, SqL.of (s12 _ _ hb), rfl, rfl, _, rfl, ?_⟩
    exact ite_ne (fun hne => hne (by rw [tl])) fun _ => k H2 s12
def sp_named_by (K : PySem.W.Frag) : Sp := fun vs H Q _ => ∃ (a b : Addr) (one other : List Int), vs = [.ref a, .ref b] ∧ SqL K H a (vi one) ∧ SqL K H b (vi other) ∧ RS.Two one other ∧ one.length ≤ 100 ∧
  ∀ H' p m, Same H H' → H p = none → H' p = some (.lst (vi m)) → RS.Nm one other m → Q (.ref p) H'
theorem ok_named_by (T : Txt K mg) : FnOk P w K mg base CX0 1 T.f_named_by T.d_named_by ["one", "other"] (sp_named_by K) := by
  refine T.a_named_by.F.ok sc_named_by (fun vs H Q E h => ?_) (fun cdv A outer s H vs Q E hr h => ?_)
  · obtain ⟨a, b, one, other, rfl, _⟩ := h
    rfl
  · obtain ⟨a, b, one, other, rfl, ha, hb, W, hl, k⟩ := h
    have tl := W.len
    have n3 := W.r1.three
    refine ⟨_, (pss_cons (ps_set (i := 2) sc_named_by.nd rfl (Or.inr rfl) (pe_op op_repZ (pe_lst (pa_cons pe_int pa_nil)) (pe_callB lenZ (by rfl) T.z_len (by decide +kernel) (pa_cons (pv 1) pa_nil))))
    (pss_cons (ps_for PassesOwn.never rfl (pi_enum (by rfl) T.z_enumerate (pa_cons (pv 1) pa_nil)) (pg_tup (by rfl) (pgs_cons (pg_name (i := 3) sc_named_by.nd rfl (Or.inl rfl)) (pgs_cons (pg_name (i := 4) sc_named_by.nd rfl (Or.inl rfl)) pgs_nil)))
    (pss_one (ps_asg (pv 3) (pg_sub (pv 2) (pv 4) setZ))))
    (pss_one (ps_ret (pe_lc (own := [("thing", 4)]) (g := gName 4) (tt := tYes) rfl sc_named_by.nd (pi_list (pv 0)) (blkOk_by (N := ["one", "other", "places", "place", "thing"]) (sc := defScope s_named_by) (by decide +kernel)) (fun _ _ _ _ _ => pg_name (i := 4) sc_named_by.nd rfl (Or.inl rfl)) (fun _ _ _ _ _ => pts_nil) (fun _ _ _ _ _ => (pe_ix (r := rIxZ K) ixZ (pv 2) (pv 4) (fun _ _ => rfl)))))))), ?_⟩
    refine ⟨(by show 1 ≤ sizeLine; decide), fun l0 hl0 => ?_⟩
    have s1 := same_new (Same.refl H) hl0 (o := .lst [.int 0])
    refine ⟨_, rfl, b, other, _, rfl, s1.seq hb, rfl, l0, _, _, rfl, rfl, upd_same, by omega, by omega, fun l hl' => ?_⟩
    have hl1 : H l = none := s1.free hl'
    have s2 := same_new s1 hl' (o := .lst (vi (List.replicate ((other.length : Int)).toNat 0)))
    refine ⟨_, rfl, b, _, rfl, s2.seq hb, for_it (walk_enum (K := K) (a := b) (xs := vi other)) (fun i σ H2 => ∃ (pl : List Int) (v u : Option V), σ = [some (.ref a), some (.ref b), some (.ref l), v, u] ∧ Same H H2 ∧ H2 l = some (.lst (vi pl)) ∧ pl.length = other.length ∧ ∀ j, j < i → RS.fr pl (RS.fr other j).toNat = j)
      ⟨_, none, none, rfl, s2, upd_same, by rw [List.length_replicate]; omega, fun j hj => absurd hj (Nat.not_lt_zero _)⟩ (fun i σ H2 _ ⟨_, _, _, _, s2, _⟩ => s2.seq hb) ?_ ?_⟩
    · rintro i x σ H2 H3 hi ⟨pl, v, u, rfl, s3, hL, wl, hw⟩ ⟨t, y, z, rfl, ht, rfl, e1, e2⟩
      cases e1
      obtain ⟨hi', rfl⟩ := vi_get e2
      have l1 := W.r2.row.lo i hi'
      have l2 := W.r2.row.hi i hi'
      have ntl : l ≠ t := ne_of_none hL ht
      refine ⟨t, _, rfl, .inl (Rd.of upd_same), rfl, _, _, rfl, _, _, rfl, rfl, ?_⟩
      refine ⟨_, rfl, _, rfl, _, rfl, l, pl, _, _, rfl, rfl, rfl, (by rw [upd_ne ntl]; exact hL), l1, by rw [wl]; exact l2, ?_⟩
      refine ⟨_, _, _, rfl, same_mut (same_new s3 ht) hl1, upd_same, by rw [List.length_set]; exact wl, fun j hj => ?_⟩
      rw [RS.fr_set (by omega)]
      by_cases e : j = i
      · rw [e, if_pos rfl]
      · rw [if_neg (fun z => e (W.r2.row.inj j i (by omega) hi' (by
          have := W.r2.row.lo j (by omega)
          omega)))]
        exact hw j (by omega)
    · rintro σ H2 ⟨pl, v, u, rfl, s3, hL, wl, hw⟩
      rw [vi_len] at hw
      refine ⟨_, rfl, a, rfl, ⟨_, s3.seq ha⟩, fun D hD => lc_list (K := K) (a := a) (xs := vi one) (fun i H3 => LI H2 D (fun i => .int (RS.fr pl (RS.fr one i).toNat)) i H3) (li_start (Same.refl H2) hD) (fun i H3 _ L => L.s.seq (s3.seq ha)) ?_ ?_⟩
      · rintro i x H3 hi L
        obtain ⟨hi', rfl⟩ := vi_get hi
        have l1 := W.r1.row.lo i hi'
        have l2 := W.r1.row.hi i hi'
        exact ⟨rfl, _, rfl, _, rfl, l, pl, _, _, rfl, rfl, SqL.of (L.s _ _ hL), l1, by omega, rfl, li_step L (Same.refl _) hD (by omega) rfl⟩
      · intro H3 L
        rw [vi_len] at L
        exact k H3 D _ (Same.trans s3 L.s) (s3.free hD) (li_ints L) (nm_pl W hw)
def sp_leading : Sp := fun vs H Q _ => ∃ (a b : Addr) (one other : List Int), vs = [.ref a, .ref b] ∧ H a = some (.lst (vi one)) ∧ H b = some (.lst (vi other)) ∧ RS.Two one other ∧ one.length ≤ 100 ∧
  ∀ H' p s, Same H H' → H p = none → H' p = some (.lst (vi s)) → RS.plOk one.length s → RS.doneL one s = other → RS.Ap one other s.length → Q (.ref p) H'
theorem ok_leading (T : Txt K mg) : FnOk P w K mg base CX0 4 T.f_leading T.d_leading ["one", "other"] sp_leading := by
  have G_check_both : FnOk P w K mg base CX0 3 T.f_check_both T.d_check_both ["one", "other"] sp_check_both := ok_check_both T
  have G_named_by : FnOk P w K mg base CX0 1 T.f_named_by T.d_named_by ["one", "other"] (sp_named_by K) := ok_named_by T
  have G_way_of : FnOk P w K mg base CX0 2 T.f_way_of T.d_way_of ["row"] (sp_way_of K) := ok_way_of T
  refine T.a_leading.F.ok sc_leading (fun vs H Q E h => ?_) (fun cdv A outer s H vs Q E hr h => ?_)
  · obtain ⟨a, b, one, other, rfl, _⟩ := h
    rfl
  · obtain ⟨a, b, one, other, rfl, ha, hb, W, hl, k⟩ := h
    refine ⟨_, (pss_cons (ps_expr (pe_call G_check_both hr rfl T.a_check_both.g T.a_check_both.F.kp T.a_check_both.b .nil pass0 (pa_cons (pv 0) (pa_cons (pv 1) pa_nil))))
    (pss_one (ps_ret (pe_ix ix_tup (pe_call G_way_of (hr.mono (by decide)) rfl T.a_way_of.g T.a_way_of.F.kp T.a_way_of.b .nil pass0 (pa_cons (pe_call G_named_by (hr.mono (by decide)) rfl T.a_named_by.g T.a_named_by.F.kp T.a_named_by.b .nil pass0 (pa_cons (pv 0) (pa_cons (pv 1) pa_nil))) pa_nil)) pe_int (fun _ _ => rfl))))), ?_⟩
    refine ⟨_, rfl, _, rfl, a, b, one, other, rfl, ha, hb, W, hl, fun H1 s1 => ?_⟩
    refine ⟨_, rfl, _, rfl, a, b, one, other, rfl, SqL.of (s1 _ _ ha), SqL.of (s1 _ _ hb), W, hl, fun H2 p m s2 p0 hp N => ?_⟩
    have R := RS.nm_row W N
    refine ⟨p, m, rfl, SqL.of hp, R, by rw [N.len]; exact hl, fun H3 t p' q ws fs s3 p0' q0 npq ht hq hp' NW F => ?_⟩
    have s13 := Same.trans (Same.trans s1 s2) s3
    refine ⟨t, _, 0, .ref q, rfl, rfl, .inl (Rd.of ht), rfl, ?_⟩
    have pl : RS.plOk one.length fs := by rw [← N.len]; exact F.pl
    exact k H3 q fs s13 ((Same.trans s1 s2).free q0) hq pl (RS.lead_of W N pl F.home) ⟨m, N, by rw [F.num]; exact NW.dist⟩
def sp_apart : Sp := fun vs H Q _ => ∃ (a b : Addr) (one other : List Int), vs = [.ref a, .ref b] ∧ H a = some (.lst (vi one)) ∧ H b = some (.lst (vi other)) ∧ RS.Two one other ∧ one.length ≤ 100 ∧
  ∀ H' k, Same H H' → RS.Ap one other k → Q (.int k) H'
theorem ok_apart (T : Txt K mg) : FnOk P w K mg base CX0 4 T.f_apart T.d_apart ["one", "other"] sp_apart := by
  have G_check_both : FnOk P w K mg base CX0 3 T.f_check_both T.d_check_both ["one", "other"] sp_check_both := ok_check_both T
  have G_named_by : FnOk P w K mg base CX0 1 T.f_named_by T.d_named_by ["one", "other"] (sp_named_by K) := ok_named_by T
  have G_way_of : FnOk P w K mg base CX0 2 T.f_way_of T.d_way_of ["row"] (sp_way_of K) := ok_way_of T
  refine T.a_apart.F.ok sc_apart (fun vs H Q E h => ?_) (fun cdv A outer s H vs Q E hr h => ?_)
  · obtain ⟨a, b, one, other, rfl, _⟩ := h
    rfl
  · obtain ⟨a, b, one, other, rfl, ha, hb, W, hl, k⟩ := h
    refine ⟨_, (pss_cons (ps_expr (pe_call G_check_both hr rfl T.a_check_both.g T.a_check_both.F.kp T.a_check_both.b .nil pass0 (pa_cons (pv 0) (pa_cons (pv 1) pa_nil))))
    (pss_one (ps_ret (pe_callB lenZ (by rfl) T.z_len (by decide +kernel) (pa_cons (pe_ix ix_tup (pe_call G_way_of (hr.mono (by decide)) rfl T.a_way_of.g T.a_way_of.F.kp T.a_way_of.b .nil pass0 (pa_cons (pe_call G_named_by (hr.mono (by decide)) rfl T.a_named_by.g T.a_named_by.F.kp T.a_named_by.b .nil pass0 (pa_cons (pv 0) (pa_cons (pv 1) pa_nil))) pa_nil)) pe_int (fun _ _ => rfl)) pa_nil))))), ?_⟩
    refine ⟨_, rfl, _, rfl, a, b, one, other, rfl, ha, hb, W, hl, fun H1 s1 => ?_⟩
    refine ⟨_, rfl, _, rfl, a, b, one, other, rfl, SqL.of (s1 _ _ ha), SqL.of (s1 _ _ hb), W, hl, fun H2 p m s2 p0 hp N => ?_⟩
    have R := RS.nm_row W N
    refine ⟨p, m, rfl, SqL.of hp, R, by rw [N.len]; exact hl, fun H3 t p' q ws fs s3 p0' q0 npq ht hq hp' NW F => ?_⟩
    refine ⟨t, _, 0, .ref q, rfl, rfl, .inl (Rd.of ht), rfl, q, fs, _, rfl, SqL.of hq, rfl, ?_⟩
    exact k H3 _ (Same.trans (Same.trans s1 s2) s3) ⟨m, N, by rw [F.num]; exact NW.dist⟩
end
end Toy
set_option Elab.async false
set_option linter.all false
set_option maxRecDepth 100000
set_option maxHeartbeats 4000000
namespace Toy
open PySem L2
/-! ## what things are -/
inductive Ty5 (H : Hp) : V → String → Prop where
  | non : Ty5 H .non "NoneType"
  | bl (b : Bool) : Ty5 H (.bl b) "bool"
  | int (n : Int) : Ty5 H (.int n) "int"
  | str (z : Str) : Ty5 H (.str z) "str"
  | lst {a : Addr} {xs : List V} (e : H a = some (.lst xs)) : Ty5 H (.ref a) "list"
  | tup {a : Addr} {xs : List V} (e : H a = some (.tup xs)) : Ty5 H (.ref a) "tuple"
  | dic {a : Addr} {kvs : List (Key × V)} (e : H a = some (.dK kvs)) : Ty5 H (.ref a) "dict"
theorem Ty5.same {H H' : Hp} {v : V} {t : String} (k : Ty5 H v t) (s : Same H H') : Ty5 H' v t := by
  cases k with
  | non => exact .non
  | bl b => exact .bl b
  | int n => exact .int n
  | str z => exact .str z
  | lst e => exact .lst (s _ _ e)
  | tup e => exact .tup (s _ _ e)
  | dic e => exact .dic (s _ _ e)
theorem Ty5.tyx {K : PySem.W.Frag} {H : Hp} {v : V} {t : String} (k : Ty5 H v t) : TyX K H v (.type t) := by
  cases k with
  | non => exact .base .non
  | bl b => exact .base (.bl b)
  | int n => exact .base (.int n)
  | str z => exact .base (.str z)
  | lst e => exact .base (.lst e)
  | tup e => exact .base (.tup e)
  | dic e => exact .base (.dK e)
def wh : V → Bool
  | .int _ => true
  | _ => false
def isI (t : String) : Bool := t == "int" || t == "bool"
def isB (t : String) : Bool := t == "bool"
theorem Ty5.kInt {K : PySem.W.Frag} {H : Hp} {v : V} {t : String} (k : Ty5 H v t) : PySem.W.kitOne K (.type t) (.type "int") = some (isI t) := by
  cases k <;> exact kit_ty (by decide +kernel)
theorem Ty5.kBool {K : PySem.W.Frag} {H : Hp} {v : V} {t : String} (k : Ty5 H v t) : PySem.W.kitOne K (.type t) (.type "bool") = some (isB t) := by
  cases k <;> exact kit_ty (by decide +kernel)
def isL (t : String) : Bool := t == "list"
theorem Ty5.kList {K : PySem.W.Frag} {H : Hp} {v : V} {t : String} (k : Ty5 H v t) : PySem.W.kitOne K (.type t) (.type "list") = some (isL t) := by
  cases k <;> exact kit_ty (by decide +kernel)
theorem Ty5.wh {H : Hp} {v : V} {t : String} (k : Ty5 H v t) : (isI t && !isB t) = Toy.wh v := by
  cases k <;> rfl
/-- each of the things is of a known kind -/
def Kn (H : Hp) (xs : List V) : Prop := ∀ x ∈ xs, ∃ t, Ty5 H x t
theorem Kn.same {H H' : Hp} {xs : List V} (k : Kn H xs) (s : Same H H') : Kn H' xs := fun x hx => let ⟨t, e⟩ := k x hx; ⟨t, e.same s⟩
/-- what is no row -/
inductive BadV (H : Hp) : V → Prop where
  | no {v : V} {t : String} (ty : Ty5 H v t) (h : isL t = false) : BadV H v
  | short {a : Addr} {xs : List V} (e : H a = some (.lst xs)) (l : xs.length < 3) : BadV H (.ref a)
  | strange {a : Addr} {xs : List V} (e : H a = some (.lst xs)) (l0 : 3 ≤ xs.length) (l1 : xs.length ≤ 1000) (k : Kn H xs) (z : V) (m : z ∈ xs) (w : wh z = false) : BadV H (.ref a)
  | twice {a : Addr} {l : List Int} (e : H a = some (.lst (vi l))) (l0 : 3 ≤ l.length) (l1 : l.length ≤ 1000) (n : ¬ RS.IsRow l) : BadV H (.ref a)
theorem BadV.same {H H' : Hp} {v : V} (b : BadV H v) (s : Same H H') : BadV H' v := by
  cases b with
  | no ty h => exact .no (ty.same s) h
  | short e l => exact .short (s _ _ e) l
  | strange e l0 l1 k z m w => exact .strange (s _ _ e) l0 l1 (k.same s) z m w
  | twice e l0 l1 n => exact .twice (s _ _ e) l0 l1 n
/-- what is no list of exchanges of n places -/
inductive BadS (H : Hp) (n : Int) : V → Prop where
  | no {v : V} {t : String} (ty : Ty5 H v t) (h : isL t = false) : BadS H n v
  | out {a : Addr} {xs : List V} (e : H a = some (.lst xs)) (l1 : xs.length ≤ 1000) (k : Kn H xs) (z : V) (m : z ∈ xs) (w : wh z = false ∨ ∃ i, z = .int i ∧ ¬ (0 ≤ i ∧ i < n)) : BadS H n (.ref a)
theorem BadS.same {H H' : Hp} {n : Int} {v : V} (b : BadS H n v) (s : Same H H') : BadS H' n v := by
  cases b with
  | no ty h => exact .no (ty.same s) h
  | out e l1 k z m w => exact .out (s _ _ e) l1 (k.same s) z m w
section
variable {P : Program} {w : World} {K : PySem.W.Frag} {mg : Str → Option Value} {base : Heap}
def sp_is_wholeX : Sp := fun vs H Q _ => ∃ (x : V) (t : String), vs = [x] ∧ Ty5 H x t ∧ Q (.bl (wh x)) H
theorem okX_is_whole (T : Txt K mg) : FnOk P w K mg base CX0 1 T.f_is_whole T.d_is_whole ["thing"] sp_is_wholeX := by
  refine T.a_is_whole.F.ok sc_is_whole (fun vs H Q E h => ?_) (fun cdv A outer s H vs Q E hr h => ?_)
  · obtain ⟨x, t, rfl, _⟩ := h
    rfl
  · obtain ⟨x, t, rfl, ty, k⟩ := h
    have ew := ty.wh
    refine ⟨_, (pss_one (ps_ret (pe_and (pe_callB call_isi (by rfl) T.z_isinstance (by decide +kernel) (pa_cons (pv 0) (pa_cons (pe_bltn (v := .ty "int") (by rfl) T.z_int (by decide +kernel) rfl) pa_nil))) (pe_one (pe_not (pe_callB call_isi (by rfl) T.z_isinstance (by decide +kernel) (pa_cons (pv 0) (pa_cons (pe_bltn (v := .ty "bool") (by rfl) T.z_bool (by decide +kernel) rfl) pa_nil)))))))), ?_⟩
    refine ⟨_, rfl, _, _, _, _, isI t, rfl, ClsV.ty _, ty.tyx, ty.kInt, _, rfl, ?_⟩
    cases hi : isI t with
    | true =>
      refine iteT ?_
      rw [hi] at ew
      refine ⟨_, rfl, _, _, _, _, isB t, rfl, ClsV.ty _, ty.tyx, ty.kBool, _, rfl, ?_⟩
      have ew' : (!isB t) = wh x := ew
      show Q (.bl (!isB t)) H
      rw [ew']
      exact k
    | false =>
      refine iteF ?_
      rw [hi] at ew
      have ew' : false = wh x := ew
      show Q (.bl false) H
      rw [ew']
      exact k
end
end Toy
set_option Elab.async false
set_option linter.all false
set_option maxRecDepth 100000
set_option maxHeartbeats 4000000
namespace Toy
open PySem L2
theorem getD_mem {xs : List V} {x : V} {i : Nat} (h : xs[i]? = some x) : xs.getD i .non = x := by
  rw [List.getD_eq_getElem?_getD, h]; rfl
theorem mem_at {xs : List V} {z : V} (h : z ∈ xs) : ∃ i, i < xs.length ∧ xs.getD i .non = z := by
  obtain ⟨i, hi, e⟩ := List.mem_iff_getElem.mp h
  exact ⟨i, hi, getD_mem (by rw [← e]; exact List.getElem?_eq_getElem hi)⟩
theorem all_wh {xs : List V} {c : Bool} (hc : c = true ↔ ∀ b ∈ (List.range xs.length).map (fun i => wh (xs.getD i .non)), b = true) : c = true ↔ ∀ x ∈ xs, wh x = true := by
  refine hc.trans ⟨fun h x hx => ?_, fun h b hb => ?_⟩
  · obtain ⟨i, hi, e⟩ := mem_at hx
    exact h _ (List.mem_map.mpr ⟨i, List.mem_range.mpr hi, by rw [e]⟩)
  · obtain ⟨i, hi, rfl⟩ := List.mem_map.mp hb
    rw [List.mem_range] at hi
    exact h _ (by rw [List.getD_eq_getElem?_getD, List.getElem?_eq_getElem hi]; exact List.getElem_mem hi)
section
variable {P : Program} {w : World} {K : PySem.W.Frag} {mg : Str → Option Value} {base : Heap}
/-- a row at an address -/
structure Rw (H : Hp) (a : Addr) (l : List Int) : Prop where
  at_ : H a = some (.lst (vi l))
  row : RS.IsRow l
  le : l.length ≤ 100
theorem Rw.same {H H' : Hp} {a : Addr} {l : List Int} (r : Rw H a l) (s : Same H H') : Rw H' a l := ⟨s _ _ r.at_, r.row, r.le⟩
def sp_check_rowX (C : Addr) : Sp := fun vs H Q E => (∃ (a : Addr) (l : List Int), vs = [.ref a] ∧ Rw H a l ∧ ∀ H', Same H H' → Q .non H') ∨ ∃ v : V, vs = [v] ∧ BadV H v ∧ ∀ H', Same H H' → E (.ref C) none H'
theorem okX_check_row (T : Txt K mg) : FnOk P w K mg base (L2.CX P w) 2 T.f_check_row T.d_check_row ["row"] (sp_check_rowX T.BadRow) := by
  have GX_is_whole : FnOk P w K mg base CX0 1 T.f_is_whole T.d_is_whole ["thing"] sp_is_wholeX := okX_is_whole T
  refine T.a_check_row.F.okX sc_check_row (fun vs H Q E h => ?_) (fun cdv A outer s H vs Q E hr h => ?_)
  · rcases h with ⟨a, l, rfl, _⟩ | ⟨v, rfl, _⟩ <;> rfl
  · have long : ∀ {a : Addr} {xs : List V}, vs = [.ref a] → H a = some (.lst xs) → 3 ≤ xs.length → xs.length ≤ 1000 → Kn H xs →
        ((∃ z ∈ xs, wh z = false) ∧ (∀ H', Same H H' → E (.ref T.BadRow) none H')) ∨ (∃ l : List Int, xs = vi l ∧ ((RS.IsRow l ∧ ∀ H', Same H H' → Q .non H') ∨ (¬ RS.IsRow l ∧ ∀ H', Same H H' → E (.ref T.BadRow) none H'))) →
        ∃ t, PSs (cxOf (L2.CX P w) P w K mg base ["row", "thing"] "check_row" (defScope s_check_row) T.f_check_row cdv A outer s H E) (defBody s_check_row) t ∧ t { nx := fun _ H' => Q .non H', rt := Q } (start ["row", "thing"] vs) H := by
      intro a xs ev ha l3 hl kn ways
      subst ev
      have sq : SqL K H a xs := SqL.of ha
      refine ⟨_, (pss_cons (ps_if (PW.pt (pw_or (pt_not (pt_val (pe_callB call_isi (by rfl) T.z_isinstance (by decide +kernel) (pa_cons (pv 0) (pa_cons (pe_bltn (v := .ty "list") (by rfl) T.z_list (by decide +kernel) rfl) pa_nil))))) (pw_or (pt_cmpR op_lt (pe_callB call_len_seq (by rfl) T.z_len (by decide +kernel) (pa_cons (pv 0) pa_nil)) pe_int (nomark _)) (pw_or1 (pt_not (pt_val (pe_callB (allZ rfl) (by rfl) T.z_all (by decide +kernel) (pa_cons (pe_lc (own := [("thing", 1)]) (g := gName 1) (tt := tYes) rfl sc_check_row.nd (pi_list (pv 0)) (blkOk_by (N := ["row", "thing"]) (sc := defScope s_check_row) (by decide +kernel)) (fun _ _ _ _ _ => pg_name (i := 1) sc_check_row.nd rfl (Or.inl rfl)) (fun _ _ _ _ _ => pts_nil) (fun _ _ _ _ _ => (pe_call GX_is_whole hr rfl T.a_is_whole.g T.a_is_whole.F.kp T.a_is_whole.b .nil pass0 (pa_cons (pv 1) pa_nil)))) pa_nil))))))))
    (pss_one (ps_raise rfl (takes_of rfl rfl rfl rfl) (pmk_own PySem.F.excBase_ValueError T.eBadRow.x T.gBadRow T.eBadRow.k (raises_own T.eBadRow.e.hs T.eBadRow.t) rfl)))
    pss_nil)
    (pss_one (ps_if (pt_cmpR (op_neZ hr.units) (pe_callB cr_sortedI (by rfl) T.z_sorted (by decide +kernel) (pa_cons (pv 0) pa_nil)) (pe_listRg rfl (by rfl) T.z_list (prg_1 (by rfl) T.z_range (pe_callB lenZ (by rfl) T.z_len (by decide +kernel) (pa_cons (pv 0) pa_nil)))) (nomark _))
    (pss_one (ps_raise rfl (takes_of rfl rfl rfl rfl) (pmk_own PySem.F.excBase_ValueError T.eBadRow.x T.gBadRow T.eBadRow.k (raises_own T.eBadRow.e.hs T.eBadRow.t) rfl)))
    pss_nil))), ?_⟩
      refine ⟨_, rfl, _, _, _, _, true, rfl, ClsV.ty _, TyX.base (.lst ha), kit_ty (by decide +kernel), _, rfl, ?_⟩
      refine ite_not (fun z => nomatch z) fun _ => ?_
      refine ⟨_, rfl, a, xs, rfl, .inl sq, _, _, rfl, rfl, _, rfl, ?_⟩
      refine ite_d (fun lt => by omega) fun _ => ?_
      refine ⟨_, rfl, a, rfl, ⟨_, sq⟩, fun D hD => lc_list (K := K) (a := a) (xs := xs) (fun i H2 => LI H D (fun i => .bl (wh (xs.getD i .non))) i H2) (li_start (Same.refl H) hD) (fun i H2 _ L => L.s.seq sq) ?_ ?_⟩
      · rintro i x H2 hi L
        obtain ⟨t, ty⟩ := kn x (List.mem_of_getElem? hi)
        have hi' := (List.getElem?_eq_some_iff.mp hi).1
        exact ⟨rfl, _, rfl, x, t, rfl, ty.same L.s, li_step L (Same.refl _) hD (by omega) (by rw [getD_mem hi])⟩
      intro H2 L
      refine ⟨D, _, rfl, SqL.of (li_bls L), fun c hc => ⟨_, rfl, ?_⟩⟩
      have s2 := L.s
      replace hc := all_wh hc
      rcases ways with ⟨⟨z, hz, hw⟩, k⟩ | ⟨l, rfl, ways⟩
      · have ec : c = false := not_iff_false hc fun h => by
          have := h z hz
          rw [hw] at this
          cases this
        subst ec
        exact iteT (k _ s2)
      have ec : c = true := hc.mpr fun x hx => by
        obtain ⟨n, _, rfl⟩ := List.mem_map.mp hx
        rfl
      subst ec
      rw [vi_len] at l3 hl
      refine ite_not (fun z => nomatch z) fun _ => ?_
      refine ⟨_, rfl, a, l, rfl, s2.seq sq, fun ns p perm rising hp => ?_⟩
      have s3 := same_new s2 hp (o := .lst (ns.map V.int))
      refine ⟨_, rfl, a, l, _, rfl, s3.seq sq, rfl, _, rfl, rgOk_n (by omega), fun q hq => ?_⟩
      have npq : p ≠ q := ne_of_none upd_same hq
      refine ⟨p, q, ns, RS.ids l.length, rfl, rfl, SqL.of (by rw [upd_ne npq, upd_same]), SqL.of (by rw [upd_same, rgV_ids]), fun c2 hc2 => ⟨_, rfl, ?_⟩⟩
      have e : c2 = true ↔ RS.IsRow l := hc2.trans ((RS.sorted_row (by omega) perm rising).trans ⟨fun r => ⟨l3, r⟩, fun r => r.row⟩)
      have s4 := same_new s3 hq (o := .lst (rgV 0 (l.length : Int)))
      rcases ways with ⟨R, k⟩ | ⟨R, k⟩
      · refine ite_not (fun z => ?_) fun _ => k _ s4
        rw [e.mpr R] at z
        cases z
      · refine ite_not (fun z => k _ s4) fun z => (R (e.mp z)).elim
    rcases h with ⟨a, l, ev, R, k⟩ | ⟨v, ev, b, k⟩
    · have := R.row.three
      have := R.le
      exact long ev R.at_ (by rw [vi_len]; exact R.row.three) (by rw [vi_len]; omega) (fun x hx => by
        obtain ⟨n, _, rfl⟩ := List.mem_map.mp hx
        exact ⟨_, .int n⟩) (.inr ⟨l, rfl, .inl ⟨R.row, k⟩⟩)
    · cases b with
      | no ty hno =>
        subst ev
        refine ⟨_, (pss_cons (ps_if (PW.pt (pw_or (pt_not (pt_val (pe_callB call_isi (by rfl) T.z_isinstance (by decide +kernel) (pa_cons (pv 0) (pa_cons (pe_bltn (v := .ty "list") (by rfl) T.z_list (by decide +kernel) rfl) pa_nil))))) (pw_or (pt_cmpR op_lt (pe_callB call_len_seq (by rfl) T.z_len (by decide +kernel) (pa_cons (pv 0) pa_nil)) pe_int (nomark _)) (pw_or1 (pt_not (pt_val (pe_callB (allZ rfl) (by rfl) T.z_all (by decide +kernel) (pa_cons (pe_lc (own := [("thing", 1)]) (g := gName 1) (tt := tYes) rfl sc_check_row.nd (pi_list (pv 0)) (blkOk_by (N := ["row", "thing"]) (sc := defScope s_check_row) (by decide +kernel)) (fun _ _ _ _ _ => pg_name (i := 1) sc_check_row.nd rfl (Or.inl rfl)) (fun _ _ _ _ _ => pts_nil) (fun _ _ _ _ _ => (pe_call GX_is_whole hr rfl T.a_is_whole.g T.a_is_whole.F.kp T.a_is_whole.b .nil pass0 (pa_cons (pv 1) pa_nil)))) pa_nil))))))))
    (pss_one (ps_raise rfl (takes_of rfl rfl rfl rfl) (pmk_own PySem.F.excBase_ValueError T.eBadRow.x T.gBadRow T.eBadRow.k (raises_own T.eBadRow.e.hs T.eBadRow.t) rfl)))
    pss_nil)
    (pss_one (ps_if (pt_cmpR (op_neZ hr.units) (pe_callB cr_sortedI (by rfl) T.z_sorted (by decide +kernel) (pa_cons (pv 0) pa_nil)) (pe_listRg rfl (by rfl) T.z_list (prg_1 (by rfl) T.z_range (pe_callB lenZ (by rfl) T.z_len (by decide +kernel) (pa_cons (pv 0) pa_nil)))) (nomark _))
    (pss_one (ps_raise rfl (takes_of rfl rfl rfl rfl) (pmk_own PySem.F.excBase_ValueError T.eBadRow.x T.gBadRow T.eBadRow.k (raises_own T.eBadRow.e.hs T.eBadRow.t) rfl)))
    pss_nil))), ?_⟩
        refine ⟨_, rfl, _, _, _, _, _, rfl, ClsV.ty _, ty.tyx, ty.kList, _, rfl, ?_⟩
        rw [hno]
        exact iteT (k _ (Same.refl H))
      | short ha l =>
        subst ev
        refine ⟨_, (pss_cons (ps_if (PW.pt (pw_or (pt_not (pt_val (pe_callB call_isi (by rfl) T.z_isinstance (by decide +kernel) (pa_cons (pv 0) (pa_cons (pe_bltn (v := .ty "list") (by rfl) T.z_list (by decide +kernel) rfl) pa_nil))))) (pw_or (pt_cmpR op_lt (pe_callB call_len_seq (by rfl) T.z_len (by decide +kernel) (pa_cons (pv 0) pa_nil)) pe_int (nomark _)) (pw_or1 (pt_not (pt_val (pe_callB (allZ rfl) (by rfl) T.z_all (by decide +kernel) (pa_cons (pe_lc (own := [("thing", 1)]) (g := gName 1) (tt := tYes) rfl sc_check_row.nd (pi_list (pv 0)) (blkOk_by (N := ["row", "thing"]) (sc := defScope s_check_row) (by decide +kernel)) (fun _ _ _ _ _ => pg_name (i := 1) sc_check_row.nd rfl (Or.inl rfl)) (fun _ _ _ _ _ => pts_nil) (fun _ _ _ _ _ => (pe_call GX_is_whole hr rfl T.a_is_whole.g T.a_is_whole.F.kp T.a_is_whole.b .nil pass0 (pa_cons (pv 1) pa_nil)))) pa_nil))))))))
    (pss_one (ps_raise rfl (takes_of rfl rfl rfl rfl) (pmk_own PySem.F.excBase_ValueError T.eBadRow.x T.gBadRow T.eBadRow.k (raises_own T.eBadRow.e.hs T.eBadRow.t) rfl)))
    pss_nil)
    (pss_one (ps_if (pt_cmpR (op_neZ hr.units) (pe_callB cr_sortedI (by rfl) T.z_sorted (by decide +kernel) (pa_cons (pv 0) pa_nil)) (pe_listRg rfl (by rfl) T.z_list (prg_1 (by rfl) T.z_range (pe_callB lenZ (by rfl) T.z_len (by decide +kernel) (pa_cons (pv 0) pa_nil)))) (nomark _))
    (pss_one (ps_raise rfl (takes_of rfl rfl rfl rfl) (pmk_own PySem.F.excBase_ValueError T.eBadRow.x T.gBadRow T.eBadRow.k (raises_own T.eBadRow.e.hs T.eBadRow.t) rfl)))
    pss_nil))), ?_⟩
        refine ⟨_, rfl, _, _, _, _, true, rfl, ClsV.ty _, TyX.base (.lst ha), kit_ty (by decide +kernel), _, rfl, ?_⟩
        refine ite_not (fun z => nomatch z) fun _ => ?_
        refine ⟨_, rfl, _, _, rfl, .inl (SqL.of ha), _, _, rfl, rfl, _, rfl, ?_⟩
        exact ite_d (fun lt => k _ (Same.refl H)) fun ge => absurd (by omega) ge
      | strange ha l0 l1 kn z m hw => exact long ev ha l0 l1 kn (.inl ⟨⟨z, m, hw⟩, k⟩)
      | twice ha l0 l1 n => exact long ev ha (by rw [vi_len]; exact l0) (by rw [vi_len]; exact l1) (fun x hx => by
          obtain ⟨n, _, rfl⟩ := List.mem_map.mp hx
          exact ⟨_, .int n⟩) (.inr ⟨_, rfl, .inr ⟨n, k⟩⟩)
end
end Toy
set_option Elab.async false
set_option linter.all false
set_option maxRecDepth 100000
set_option maxHeartbeats 4000000
namespace Toy
open PySem L2
def okP (n : Int) : V → Bool
  | .int i => decide (0 ≤ i ∧ i < n)
  | _ => false
section
variable {P : Program} {w : World} {K : PySem.W.Frag} {mg : Str → Option Value} {base : Heap}
def sp_are_placesX : Sp := fun vs H Q _ => ∃ (a : Addr) (xs : List V) (n : Int), vs = [.ref a, .int n] ∧ H a = some (.lst xs) ∧ xs.length ≤ 1000 ∧ Kn H xs ∧ (∃ z ∈ xs, okP n z = false) ∧ ∀ H', Same H H' → Q (.bl false) H'
theorem okX_are_places (T : Txt K mg) : FnOk P w K mg base CX0 2 T.f_are_places T.d_are_places ["swaps", "many"] sp_are_placesX := by
  have GX_is_whole : FnOk P w K mg base CX0 1 T.f_is_whole T.d_is_whole ["thing"] sp_is_wholeX := okX_is_whole T
  refine T.a_are_places.F.ok sc_are_places (fun vs H Q E h => ?_) (fun cdv A outer s H vs Q E hr h => ?_)
  · obtain ⟨a, xs, n, rfl, _⟩ := h
    rfl
  · obtain ⟨a, xs, n, rfl, ha, hl, kn, ⟨z, hz, zf⟩, k⟩ := h
    have sq : SqL K H a xs := SqL.of ha
    refine ⟨_, (pss_one (ps_ret (pe_callB (allZ rfl) (by rfl) T.z_all (by decide +kernel) (pa_cons (pe_lc (own := [("place", 2)]) (g := gName 2) (tt := tYes) rfl sc_are_places.nd (pi_list (pv 0)) (blkOk_by (N := ["swaps", "many", "place"]) (sc := defScope s_are_places) (by decide +kernel)) (fun _ _ _ _ _ => pg_name (i := 2) sc_are_places.nd rfl (Or.inl rfl)) (fun _ _ _ _ _ => pts_nil) (fun _ _ _ _ _ => (pe_and (pe_call GX_is_whole hr rfl T.a_is_whole.g T.a_is_whole.F.kp T.a_is_whole.b .nil pass0 (pa_cons (pv 2) pa_nil)) (pe_one (pe_chain op_le op_lt pe_int (pv 2) (pv 1)))))) pa_nil)))), ?_⟩
    refine ⟨_, rfl, a, rfl, ⟨_, sq⟩, fun D hD => lc_list (K := K) (a := a) (xs := xs) (fun i H2 => LI H D (fun i => .bl (okP n (xs.getD i .non))) i H2) (li_start (Same.refl H) hD) (fun i H2 _ L => L.s.seq sq) ?_ ?_⟩
    · rintro i x H2 hi L
      obtain ⟨t, ty⟩ := kn x (List.mem_of_getElem? hi)
      have hi' := (List.getElem?_eq_some_iff.mp hi).1
      have fin : ∀ b, b = okP n x → ∃ acc, H2 D = some (.lst acc) ∧ acc.length < sizeLine ∧ LI H D (fun i => .bl (okP n (xs.getD i .non))) (i + 1) (upd H2 D (.lst (acc ++ [V.bl b]))) := fun b hb => li_step L (Same.refl _) hD (by omega) (by rw [getD_mem hi, hb])
      refine ⟨rfl, _, rfl, x, t, rfl, ty.same L.s, _, rfl, ?_⟩
      cases hw : wh x with
      | false =>
        refine iteF (fin false ?_)
        cases x <;> first | rfl | cases hw
      | true =>
        obtain ⟨v, rfl⟩ : ∃ v, x = .int v := by
          cases x <;> first | exact ⟨_, rfl⟩ | cases hw
        refine iteT ⟨_, rfl, _, _, rfl, rfl, _, rfl, ?_⟩
        refine ite2 (fun h0 => ?_) (fun h0 => ?_)
        · have h0' := of_decide_eq_true h0
          refine ⟨_, rfl, _, _, rfl, rfl, fin _ ?_⟩
          show _ = decide (0 ≤ v ∧ v < n)
          by_cases h1 : v < n
          · rw [decide_eq_true h1, decide_eq_true (show 0 ≤ v ∧ v < n from ⟨h0', h1⟩)]
          · rw [decide_eq_false h1, decide_eq_false (fun z => h1 z.2)]
        · have h0' : ¬ 0 ≤ v := fun z => h0 (decide_eq_true z)
          refine fin false ?_
          show _ = decide (0 ≤ v ∧ v < n)
          rw [decide_eq_false (fun z => h0' z.1)]
    intro H2 L
    refine ⟨D, _, rfl, SqL.of (li_bls L), fun c hc => ?_⟩
    have ec : c = false := not_iff_false hc fun h => by
      obtain ⟨i, hi, e⟩ := mem_at hz
      have := h _ (List.mem_map.mpr ⟨i, List.mem_range.mpr hi, rfl⟩)
      rw [e, zf] at this
      cases this
    rw [ec]
    exact k _ L.s
def sp_doneX (C1 C2 : Addr) : Sp := fun vs H Q E => ∃ v1 v2 : V, vs = [v1, v2] ∧ ((BadV H v1 ∧ ∀ H', Same H H' → E (.ref C1) none H') ∨ ∃ (a : Addr) (l : List Int), v1 = .ref a ∧ Rw H a l ∧ BadS H (l.length : Int) v2 ∧ ∀ H', Same H H' → E (.ref C2) none H')
theorem okX_done (T : Txt K mg) : FnOk P w K mg base (L2.CX P w) 3 T.f_done T.d_done ["row", "swaps"] (sp_doneX T.BadRow T.BadSwaps) := by
  have GX_are_places : FnOk P w K mg base CX0 2 T.f_are_places T.d_are_places ["swaps", "many"] sp_are_placesX := okX_are_places T
  have GX_check_row : FnOk P w K mg base (L2.CX P w) 2 T.f_check_row T.d_check_row ["row"] (sp_check_rowX T.BadRow) := okX_check_row T
  have G_behind : FnOk P w K mg base CX0 1 T.f_behind T.d_behind ["row", "swaps"] (sp_behind K) := ok_behind T
  refine T.a_done.F.okX sc_done (fun vs H Q E h => ?_) (fun cdv A outer s H vs Q E hr h => ?_)
  · obtain ⟨v1, v2, rfl, _⟩ := h
    rfl
  · obtain ⟨v1, v2, rfl, h⟩ := h
    refine ⟨_, (pss_cons (ps_expr (pe_callS GX_check_row hr rfl T.a_check_row.g T.a_check_row.F.kp T.a_check_row.b (fun σ => passAt (takes_of rfl rfl rfl rfl) σ) (pa_cons (pv 0) pa_nil)))
    (pss_cons (ps_if (PW.pt (pw_or (pt_not (pt_val (pe_callB call_isi (by rfl) T.z_isinstance (by decide +kernel) (pa_cons (pv 1) (pa_cons (pe_bltn (v := .ty "list") (by rfl) T.z_list (by decide +kernel) rfl) pa_nil))))) (pw_or1 (pt_not (pt_val (pe_call GX_are_places hr rfl T.a_are_places.g T.a_are_places.F.kp T.a_are_places.b .nil pass0 (pa_cons (pv 1) (pa_cons (pe_callB lenZ (by rfl) T.z_len (by decide +kernel) (pa_cons (pv 0) pa_nil)) pa_nil))))))))
    (pss_one (ps_raise rfl (takes_of rfl rfl rfl rfl) (pmk_own PySem.F.excBase_ValueError T.eBadSwaps.x T.gBadSwaps T.eBadSwaps.k (raises_own T.eBadSwaps.e.hs T.eBadSwaps.t) rfl)))
    pss_nil)
    (pss_one (ps_ret (pe_call G_behind (hr.mono (by decide)) rfl T.a_behind.g T.a_behind.F.kp T.a_behind.b .nil pass0 (pa_cons (pv 0) (pa_cons (pv 1) pa_nil))))))), ?_⟩
    rcases h with ⟨b, k⟩ | ⟨a, l, rfl, R, b, k⟩
    · exact ⟨_, rfl, .inr ⟨_, rfl, b, k⟩⟩
    · refine ⟨_, rfl, .inl ⟨a, l, rfl, R, fun H1 s1 => ?_⟩⟩
      have R1 := R.same s1
      have b1 := b.same s1
      cases b1 with
      | no ty h =>
        refine ⟨_, rfl, _, _, _, _, _, rfl, ClsV.ty _, ty.tyx, ty.kList, _, rfl, ?_⟩
        rw [h]
        exact iteT (k _ s1)
      | out hb l1 kn z m hw =>
        refine ⟨_, rfl, _, _, _, _, true, rfl, ClsV.ty _, TyX.base (.lst hb), kit_ty (by decide +kernel), _, rfl, ?_⟩
        refine ite_not (fun z => nomatch z) fun _ => ?_
        refine ⟨_, rfl, _, rfl, a, l, _, rfl, SqL.of R1.at_, rfl, _, _, _, rfl, hb, l1, kn, ⟨z, m, ?_⟩, fun H2 s2 => ⟨_, rfl, iteT (k _ (Same.trans s1 s2))⟩⟩
        rcases hw with hw | ⟨i, rfl, hw⟩
        · cases z <;> first | rfl | cases hw
        · exact decide_eq_false hw
/-- two that are no pair of rows -/
def Both (C1 C2 : Addr) (H : Hp) (E : XK) (v1 v2 : V) : Prop := (BadV H v1 ∧ ∀ H', Same H H' → E (.ref C1) none H') ∨ (∃ (a : Addr) (l : List Int), v1 = .ref a ∧ Rw H a l ∧ BadV H v2 ∧ ∀ H', Same H H' → E (.ref C1) none H') ∨
  ∃ (a : Addr) (l : List Int) (b : Addr) (m : List Int), v1 = .ref a ∧ v2 = .ref b ∧ Rw H a l ∧ Rw H b m ∧ l.length ≠ m.length ∧ ∀ H', Same H H' → E (.ref C2) none H'
def sp_bothX (C1 C2 : Addr) : Sp := fun vs H Q E => ∃ v1 v2 : V, vs = [v1, v2] ∧ Both C1 C2 H E v1 v2
theorem okX_check_both (T : Txt K mg) : FnOk P w K mg base (L2.CX P w) 3 T.f_check_both T.d_check_both ["one", "other"] (sp_bothX T.BadRow T.Unlike) := by
  have GX_check_row : FnOk P w K mg base (L2.CX P w) 2 T.f_check_row T.d_check_row ["row"] (sp_check_rowX T.BadRow) := okX_check_row T
  refine T.a_check_both.F.okX sc_check_both (fun vs H Q E h => ?_) (fun cdv A outer s H vs Q E hr h => ?_)
  · obtain ⟨v1, v2, rfl, _⟩ := h
    rfl
  · obtain ⟨v1, v2, rfl, h⟩ := h
    refine ⟨_, (pss_cons (ps_expr (pe_callS GX_check_row hr rfl T.a_check_row.g T.a_check_row.F.kp T.a_check_row.b (fun σ => passAt (takes_of rfl rfl rfl rfl) σ) (pa_cons (pv 0) pa_nil)))
    (pss_cons (ps_expr (pe_callS GX_check_row hr rfl T.a_check_row.g T.a_check_row.F.kp T.a_check_row.b (fun σ => passAt (takes_of rfl rfl rfl rfl) σ) (pa_cons (pv 1) pa_nil)))
    (pss_one (ps_if (pt_cmpR op_ne (pe_callB lenZ (by rfl) T.z_len (by decide +kernel) (pa_cons (pv 0) pa_nil)) (pe_callB lenZ (by rfl) T.z_len (by decide +kernel) (pa_cons (pv 1) pa_nil)) (nomark _))
    (pss_one (ps_raise rfl (takes_of rfl rfl rfl rfl) (pmk_own PySem.F.excBase_ValueError T.eUnlike.x T.gUnlike T.eUnlike.k (raises_own T.eUnlike.e.hs T.eUnlike.t) rfl)))
    pss_nil)))), ?_⟩
    rcases h with ⟨b, k⟩ | ⟨a, l, rfl, R, b, k⟩ | ⟨a, l, b, m, rfl, rfl, R, R', ne, k⟩
    · exact ⟨_, rfl, .inr ⟨_, rfl, b, k⟩⟩
    · exact ⟨_, rfl, .inl ⟨a, l, rfl, R, fun H1 s1 => ⟨_, rfl, .inr ⟨_, rfl, b.same s1, fun H2 s2 => k _ (Same.trans s1 s2)⟩⟩⟩⟩
    · refine ⟨_, rfl, .inl ⟨a, l, rfl, R, fun H1 s1 => ⟨_, rfl, .inl ⟨b, m, rfl, R'.same s1, fun H2 s2 => ?_⟩⟩⟩⟩
      have s12 := Same.trans s1 s2
      refine ⟨_, rfl, a, l, _, rfl, SqL.of (R.same s12).at_, rfl, _, rfl, b, m, _, rfl, SqL.of (R'.same s12).at_, rfl, rfl, _, rfl, ?_⟩
      exact ite_ne (fun _ => k _ s12) fun e => (ne (by omega)).elim
def sp_badX (C : Addr) : Sp := fun vs H Q E => ∃ v : V, vs = [v] ∧ BadV H v ∧ ∀ H', Same H H' → E (.ref C) none H'
theorem okX_brought (T : Txt K mg) : FnOk P w K mg base (L2.CX P w) 3 T.f_brought T.d_brought ["row"] (sp_badX T.BadRow) := by
  have GX_check_row : FnOk P w K mg base (L2.CX P w) 2 T.f_check_row T.d_check_row ["row"] (sp_check_rowX T.BadRow) := okX_check_row T
  have G_way_of : FnOk P w K mg base CX0 2 T.f_way_of T.d_way_of ["row"] (sp_way_of K) := ok_way_of T
  have G_B_init : FnOk P w K mg base CX0 1 T.f_B_init T.d_B_init ["self", "swaps", "ways"] (sp_B_init T.C K) := ok_B_init T
  refine T.a_brought.F.okX sc_brought (fun vs H Q E h => ?_) (fun cdv A outer s H vs Q E hr h => ?_)
  · obtain ⟨v, rfl, _⟩ := h
    rfl
  · obtain ⟨v, rfl, b, k⟩ := h
    exact ⟨_, (pss_cons (ps_expr (pe_callS GX_check_row hr rfl T.a_check_row.g T.a_check_row.F.kp T.a_check_row.b (fun σ => passAt (takes_of rfl rfl rfl rfl) σ) (pa_cons (pv 0) pa_nil)))
    (pss_cons (ps_asg (pe_call G_way_of hr rfl T.a_way_of.g T.a_way_of.F.kp T.a_way_of.b .nil pass0 (pa_cons (pv 0) pa_nil)) (pg_tup (by rfl) (pgs_cons (pg_name (i := 1) sc_brought.nd rfl (Or.inl rfl)) (pgs_cons (pg_name (i := 2) sc_brought.nd rfl (Or.inl rfl)) pgs_nil))))
    (pss_one (ps_ret (pe_make ⟨T.mkC, T.a_B_init.m, T.a_B_init.i, T.kC⟩ G_B_init hr rfl T.gC T.a_B_init.b .nil pass0 (pa_cons (pv 1) (pa_cons (pv 2) pa_nil))))))), _, rfl, .inr ⟨_, rfl, b, k⟩⟩
theorem okX_apart (T : Txt K mg) : FnOk P w K mg base (L2.CX P w) 4 T.f_apart T.d_apart ["one", "other"] (sp_bothX T.BadRow T.Unlike) := by
  have GX_check_both : FnOk P w K mg base (L2.CX P w) 3 T.f_check_both T.d_check_both ["one", "other"] (sp_bothX T.BadRow T.Unlike) := okX_check_both T
  have G_named_by : FnOk P w K mg base CX0 1 T.f_named_by T.d_named_by ["one", "other"] (sp_named_by K) := ok_named_by T
  have G_way_of : FnOk P w K mg base CX0 2 T.f_way_of T.d_way_of ["row"] (sp_way_of K) := ok_way_of T
  refine T.a_apart.F.okX sc_apart (fun vs H Q E h => ?_) (fun cdv A outer s H vs Q E hr h => ?_)
  · obtain ⟨v1, v2, rfl, _⟩ := h
    rfl
  · obtain ⟨v1, v2, rfl, h⟩ := h
    exact ⟨_, (pss_cons (ps_expr (pe_callS GX_check_both hr rfl T.a_check_both.g T.a_check_both.F.kp T.a_check_both.b (fun σ => passAt (takes_of rfl rfl rfl rfl) σ) (pa_cons (pv 0) (pa_cons (pv 1) pa_nil))))
    (pss_one (ps_ret (pe_callB lenZ (by rfl) T.z_len (by decide +kernel) (pa_cons (pe_ix ix_tup (pe_call G_way_of (hr.mono (by decide)) rfl T.a_way_of.g T.a_way_of.F.kp T.a_way_of.b .nil pass0 (pa_cons (pe_call G_named_by (hr.mono (by decide)) rfl T.a_named_by.g T.a_named_by.F.kp T.a_named_by.b .nil pass0 (pa_cons (pv 0) (pa_cons (pv 1) pa_nil))) pa_nil)) pe_int (fun _ _ => rfl)) pa_nil))))), _, rfl, _, rfl, v1, v2, rfl, h⟩
theorem okX_leading (T : Txt K mg) : FnOk P w K mg base (L2.CX P w) 4 T.f_leading T.d_leading ["one", "other"] (sp_bothX T.BadRow T.Unlike) := by
  have GX_check_both : FnOk P w K mg base (L2.CX P w) 3 T.f_check_both T.d_check_both ["one", "other"] (sp_bothX T.BadRow T.Unlike) := okX_check_both T
  have G_named_by : FnOk P w K mg base CX0 1 T.f_named_by T.d_named_by ["one", "other"] (sp_named_by K) := ok_named_by T
  have G_way_of : FnOk P w K mg base CX0 2 T.f_way_of T.d_way_of ["row"] (sp_way_of K) := ok_way_of T
  refine T.a_leading.F.okX sc_leading (fun vs H Q E h => ?_) (fun cdv A outer s H vs Q E hr h => ?_)
  · obtain ⟨v1, v2, rfl, _⟩ := h
    rfl
  · obtain ⟨v1, v2, rfl, h⟩ := h
    exact ⟨_, (pss_cons (ps_expr (pe_callS GX_check_both hr rfl T.a_check_both.g T.a_check_both.F.kp T.a_check_both.b (fun σ => passAt (takes_of rfl rfl rfl rfl) σ) (pa_cons (pv 0) (pa_cons (pv 1) pa_nil))))
    (pss_one (ps_ret (pe_ix ix_tup (pe_call G_way_of (hr.mono (by decide)) rfl T.a_way_of.g T.a_way_of.F.kp T.a_way_of.b .nil pass0 (pa_cons (pe_call G_named_by (hr.mono (by decide)) rfl T.a_named_by.g T.a_named_by.F.kp T.a_named_by.b .nil pass0 (pa_cons (pv 0) (pa_cons (pv 1) pa_nil))) pa_nil)) pe_int (fun _ _ => rfl))))), _, rfl, _, rfl, v1, v2, rfl, h⟩
/-! ## the doors -/
def sp_with_rowX (C : Addr) : Sp := fun vs H Q E => ∃ (d : Int) (v : V), vs = [.int d, v] ∧ BadV H v ∧ ∀ H', Same H H' → E (.ref C) none H'
theorem rw_012 {H : Hp} {p : Addr} (h : H p = some (.lst [.int 0, .int 1, .int 2])) : Rw H p [0, 1, 2] := ⟨h, RS.isRow_ids (n := 3) (by decide), by decide⟩
theorem okX_l_with_row (T : Txt K mg) : FnOk P w K mg base (L2.CX P w) 5 T.f_l_with_row T.d_l_with_row ["_law_door", "_law_row_here"] (sp_with_rowX T.BadRow) := by
  have GX_brought : FnOk P w K mg base (L2.CX P w) 3 T.f_brought T.d_brought ["row"] (sp_badX T.BadRow) := okX_brought T
  have GX_done : FnOk P w K mg base (L2.CX P w) 3 T.f_done T.d_done ["row", "swaps"] (sp_doneX T.BadRow T.BadSwaps) := okX_done T
  have GX_apart : FnOk P w K mg base (L2.CX P w) 4 T.f_apart T.d_apart ["one", "other"] (sp_bothX T.BadRow T.Unlike) := okX_apart T
  have GX_leading : FnOk P w K mg base (L2.CX P w) 4 T.f_leading T.d_leading ["one", "other"] (sp_bothX T.BadRow T.Unlike) := okX_leading T
  refine T.a_l_with_row.F.okX sc_l_with_row (fun vs H Q E h => ?_) (fun cdv A outer s H vs Q E hr h => ?_)
  · obtain ⟨d, v, rfl, _⟩ := h
    rfl
  · obtain ⟨d, v, rfl, b, k⟩ := h
    have ahead : ∀ p, H p = none → Both T.BadRow T.Unlike (upd H p (.lst [.int 0, .int 1, .int 2])) E v (.ref p) := fun p hp => by
      have s1 := same_new (Same.refl H) hp (o := .lst [.int 0, .int 1, .int 2])
      exact .inl ⟨b.same s1, fun H' s' => k _ (Same.trans s1 s')⟩
    have behind : ∀ p, H p = none → Both T.BadRow T.Unlike (upd H p (.lst [.int 0, .int 1, .int 2])) E (.ref p) v := fun p hp => by
      have s1 := same_new (Same.refl H) hp (o := .lst [.int 0, .int 1, .int 2])
      exact .inr (.inl ⟨p, [0, 1, 2], rfl, rw_012 upd_same, b.same s1, fun H' s' => k _ (Same.trans s1 s')⟩)
    refine ⟨_, (pss_cons (ps_if (pt_cmpR op_lt (pv 0) pe_int (nomark _))
    (pss_one (ps_ret (pe_ifExp (pt_cmpR op_eq (pv 0) pe_int (nomark _)) (pe_callS GX_brought (hr.mono (by decide)) rfl T.a_brought.g T.a_brought.F.kp T.a_brought.b (fun σ => passAt (takes_of rfl rfl rfl rfl) σ) (pa_cons (pv 1) pa_nil)) (pe_callS GX_done (hr.mono (by decide)) rfl T.a_done.g T.a_done.F.kp T.a_done.b (fun σ => passAt (takes_of rfl rfl rfl rfl) σ) (pa_cons (pv 1) (pa_cons pe_non pa_nil))))))
    pss_nil)
    (pss_cons (ps_if (pt_cmpR op_lt (pv 0) pe_int (nomark _))
    (pss_one (ps_ret (pe_ifExp (pt_cmpR op_eq (pv 0) pe_int (nomark _)) (pe_callS GX_apart hr rfl T.a_apart.g T.a_apart.F.kp T.a_apart.b (fun σ => passAt (takes_of rfl rfl rfl rfl) σ) (pa_cons (pv 1) (pa_cons (pe_lst (pa_cons pe_int (pa_cons pe_int (pa_cons pe_int pa_nil)))) pa_nil))) (pe_callS GX_apart hr rfl T.a_apart.g T.a_apart.F.kp T.a_apart.b (fun σ => passAt (takes_of rfl rfl rfl rfl) σ) (pa_cons (pe_lst (pa_cons pe_int (pa_cons pe_int (pa_cons pe_int pa_nil)))) (pa_cons (pv 1) pa_nil))))))
    pss_nil)
    (pss_one (ps_ret (pe_ifExp (pt_cmpR op_eq (pv 0) pe_int (nomark _)) (pe_callS GX_leading hr rfl T.a_leading.g T.a_leading.F.kp T.a_leading.b (fun σ => passAt (takes_of rfl rfl rfl rfl) σ) (pa_cons (pv 1) (pa_cons (pe_lst (pa_cons pe_int (pa_cons pe_int (pa_cons pe_int pa_nil)))) pa_nil))) (pe_callS GX_leading hr rfl T.a_leading.g T.a_leading.F.kp T.a_leading.b (fun σ => passAt (takes_of rfl rfl rfl rfl) σ) (pa_cons (pe_lst (pa_cons pe_int (pa_cons pe_int (pa_cons pe_int pa_nil)))) (pa_cons (pv 1) pa_nil)))))))), ?_⟩
    refine ⟨_, rfl, _, _, rfl, rfl, _, rfl, ?_⟩
    refine ite_d (fun _ => ?_) fun _ => ?_
    · refine ⟨_, rfl, rfl, _, rfl, ?_⟩
      refine ite_eq (fun _ => ?_) fun _ => ?_
      · exact ⟨_, rfl, _, rfl, b, k⟩
      · exact ⟨_, rfl, _, _, rfl, .inl ⟨b, k⟩⟩
    refine ⟨_, rfl, _, _, rfl, rfl, _, rfl, ?_⟩
    refine ite_d (fun _ => ?_) fun _ => ?_
    · refine ⟨_, rfl, rfl, _, rfl, ?_⟩
      refine ite_eq (fun _ => ?_) fun _ => ?_
      · exact ⟨_, rfl, (by show 3 ≤ sizeLine; decide), fun p hp => ⟨_, _, rfl, ahead p hp⟩⟩
      · exact ⟨(by show 3 ≤ sizeLine; decide), fun p hp => ⟨_, rfl, _, _, rfl, behind p hp⟩⟩
    · refine ⟨_, rfl, rfl, _, rfl, ?_⟩
      refine ite_eq (fun _ => ?_) fun _ => ?_
      · exact ⟨_, rfl, (by show 3 ≤ sizeLine; decide), fun p hp => ⟨_, _, rfl, ahead p hp⟩⟩
      · exact ⟨(by show 3 ≤ sizeLine; decide), fun p hp => ⟨_, rfl, _, _, rfl, behind p hp⟩⟩
def sp_with_swapsX (C : Addr) : Sp := fun vs H Q E => ∃ (a : Addr) (l : List Int) (v : V), vs = [.ref a, v] ∧ Rw H a l ∧ BadS H (l.length : Int) v ∧ ∀ H', Same H H' → E (.ref C) none H'
theorem okX_l_with_swaps (T : Txt K mg) : FnOk P w K mg base (L2.CX P w) 4 T.f_l_with_swaps T.d_l_with_swaps ["_law_row_here", "_law_swaps"] (sp_with_swapsX T.BadSwaps) := by
  have GX_done : FnOk P w K mg base (L2.CX P w) 3 T.f_done T.d_done ["row", "swaps"] (sp_doneX T.BadRow T.BadSwaps) := okX_done T
  refine T.a_l_with_swaps.F.okX sc_l_with_swaps (fun vs H Q E h => ?_) (fun cdv A outer s H vs Q E hr h => ?_)
  · obtain ⟨a, l, v, rfl, _⟩ := h
    rfl
  · obtain ⟨a, l, v, rfl, R, b, k⟩ := h
    exact ⟨_, (pss_one (ps_ret (pe_callS GX_done hr rfl T.a_done.g T.a_done.F.kp T.a_done.b (fun σ => passAt (takes_of rfl rfl rfl rfl) σ) (pa_cons (pv 0) (pa_cons (pv 1) pa_nil))))), _, rfl, _, rfl, _, _, rfl, .inr ⟨a, l, rfl, R, b, k⟩⟩
def sp_with_otherX (C : Addr) : Sp := fun vs H Q E => ∃ (a : Addr) (l : List Int) (p b : Addr) (d : Int) (m : List Int), vs = [.ref a, .ref p] ∧ Rw H a l ∧ H p = some (.tup [.int d, .ref b]) ∧ Rw H b m ∧ l.length ≠ m.length ∧ ∀ H', Same H H' → E (.ref C) none H'
theorem okX_l_with_other (T : Txt K mg) : FnOk P w K mg base (L2.CX P w) 5 T.f_l_with_other T.d_l_with_other ["_law_row_here", "_law_pair"] (sp_with_otherX T.Unlike) := by
  have GX_apart : FnOk P w K mg base (L2.CX P w) 4 T.f_apart T.d_apart ["one", "other"] (sp_bothX T.BadRow T.Unlike) := okX_apart T
  have GX_leading : FnOk P w K mg base (L2.CX P w) 4 T.f_leading T.d_leading ["one", "other"] (sp_bothX T.BadRow T.Unlike) := okX_leading T
  refine T.a_l_with_other.F.okX sc_l_with_other (fun vs H Q E h => ?_) (fun cdv A outer s H vs Q E hr h => ?_)
  · obtain ⟨a, l, p, b, d, m, rfl, _⟩ := h
    rfl
  · obtain ⟨a, l, p, b, d, m, rfl, R, hp, R', ne, k⟩ := h
    refine ⟨_, (pss_one (ps_ret (pe_ifExp (pt_cmpR op_eq (pe_ix ix_tup (pv 1) pe_int (fun _ _ => rfl)) pe_int (nomark _)) (pe_callS GX_apart hr rfl T.a_apart.g T.a_apart.F.kp T.a_apart.b (fun σ => passAt (takes_of rfl rfl rfl rfl) σ) (pa_cons (pv 0) (pa_cons (pe_ix ix_tup (pv 1) pe_int (fun _ _ => rfl)) pa_nil))) (pe_callS GX_leading hr rfl T.a_leading.g T.a_leading.F.kp T.a_leading.b (fun σ => passAt (takes_of rfl rfl rfl rfl) σ) (pa_cons (pe_ix ix_tup (pv 1) pe_int (fun _ _ => rfl)) (pa_cons (pv 0) pa_nil)))))), ?_⟩
    refine ⟨_, rfl, p, _, 0, .int d, rfl, rfl, .inl (Rd.of hp), rfl, rfl, _, rfl, ?_⟩
    refine ite_eq (fun _ => ?_) fun _ => ?_
    · exact ⟨_, rfl, _, rfl, p, _, 1, .ref b, rfl, rfl, .inl (Rd.of hp), rfl, _, _, rfl, .inr (.inr ⟨a, l, b, m, rfl, rfl, R, R', ne, k⟩)⟩
    · exact ⟨_, rfl, p, _, 1, .ref b, rfl, rfl, .inl (Rd.of hp), rfl, _, rfl, _, _, rfl, .inr (.inr ⟨b, m, a, l, rfl, rfl, R', R, Ne.symm ne, k⟩)⟩
end
end Toy
set_option Elab.async false
set_option linter.all false
set_option maxRecDepth 100000
set_option maxHeartbeats 4000000
namespace Toy
open PySem L2 PySem.Spec PyProof.Rows
/-- isinstance of a pinned error -/
theorem call_isP {X : Cx} {a D : Addr} {oe : Obj} (hp : (a, oe) ∈ X.pn) (C : ExcC X.K D) (hz : Zc (.ref D) none oe) (hf : ∃ vs, oe.data = .fields vs) : CallR X (.builtin "isinstance") (rIsE X.K D a) := by
  intro pins s σ H xs us Q I r h
  obtain ⟨c, cv, b, rfl, hcv, e, q⟩ := h
  obtain ⟨u1, u2, rfl, r1, r2⟩ := vals2 r
  cases (show u1 = Value.ref a from r1)
  obtain rfl : u2 = cv := hcv _ r2
  have P1 := (I.pin (a, oe) (List.mem_append_left _ hp)).1
  have J : PySem.W.InstAt s.heap a oe D none := by
    obtain ⟨vs, hv⟩ := hf
    exact ⟨P1, hz.1, by unfold PySem.W.notCls; rw [hv] <;> rfl, by rw [hz.2]; exact True.intro⟩
  have Z := PySem.W.handS_kitx_exc (K := X.K) (x := a) (ox := oe) C.hg C.hk C.hs C.hd C.ha C.hn C.ht C.hm
  exact PySem.W.kia_one Z I.kIn J e (fun z => nomatch z) fun tk => ⟨.bl b, H, I.tok tk, rfl, q⟩
section
variable {P : Program} {w : World} {K : PySem.W.Frag} {mg : Str → Option Value} {base : Heap}
/-- the empty view of the heap -/
def noH : Hp := fun _ => none
def kindsV (b0 b1 b2 : Bool) : List V := [.bl b0, .bl b1, .bl b2, .bl true]
theorem kinds_code (T : Txt K mg) {A : Around} {outer : List Env} {s : Shared} {a D : Addr} {oe : Obj} {b0 b1 b2 : Bool} (dp : A.depth < recursionLimit) (e0 : Env0 P w K mg base A outer s noH) (hpin : L2H.PinOk outer noH s (a, oe))
    (C : ExcC K D) (hz : Zc (.ref D) none oe) (hf : ∃ vs, oe.data = .fields vs)
    (k0 : PySem.W.kitOne K (.ref D) (.ref T.BadRow) = some b0) (k1 : PySem.W.kitOne K (.ref D) (.ref T.BadSwaps) = some b1) (k2 : PySem.W.kitOne K (.ref D) (.ref T.Unlike) = some b2) (k3 : PySem.W.kitOne K (.ref D) (.type "ValueError") = some true) :
    codeAny (model P w) A (.call (.ref T.f_l_kinds) ⟨[.ref a], []⟩) (CR CX0 outer P w noH s (fun v H' => ∃ l, v = .ref l ∧ H' l = some (.lst (kindsV b0 b1 b2))) E0) s := by
  have S := sc_l_kinds
  obtain ⟨oc, od, kV, doc, pm, an, cdv, ct, osl, efd, lk, hcd⟩ := T.a_l_kinds.F.ex
  have up : ∀ b o, base.get? b = some o → s.heap.get? b = some o := fun b o e => (e0.bs b o e).1
  have KX : K.In s.heap := e0.mod.kin.keeps up
  have bind := T.a_l_kinds.b s [.ref a] KX rfl
  rw [efd] at lk bind
  refine codeAny_call_function dp (KX _ _ lk) rfl S.co S.gen rfl (PySem.W.codeRec_of KX hcd) (bind _ _ _ _ ?_)
  refine wpAny_newFunctionEnv_cells S.kind (fun y hy => ?_) fun env he s1 x => ?_
  · rw [List.mem_singleton.mp hy]
    exact .inl rfl
  subst he
  refine ⟨e0.mod.nolimit.keeps fun b o e => x.toInCall.keep b o (up b o e), codeAny_func ?_⟩
  have J : Inv (L2H.cxH CX0 P w K mg base ["_law_error", "_law_found"] "_law_kinds" (defScope s_l_kinds) T.f_l_kinds cdv A outer s noH E0 (a, oe)) [] (L2.start ["_law_error", "_law_found"] [.ref a]) noH s1 :=
    L2H.inv_startH S hpin e0 rfl (.cons rfl .nil) x
  have hpn : (a, oe) ∈ (L2H.cxH CX0 P w K mg base ["_law_error", "_law_found"] "_law_kinds" (defScope s_l_kinds) T.f_l_kinds cdv A outer s noH E0 (a, oe)).nox.pn := List.mem_singleton.mpr rfl
  have body : ∃ t, PSs (L2H.cxH CX0 P w K mg base ["_law_error", "_law_found"] "_law_kinds" (defScope s_l_kinds) T.f_l_kinds cdv A outer s noH E0 (a, oe)).nox (defBody s_l_kinds) t ∧
      t { nx := fun _ H' => False, rt := fun v H' => ∃ l, v = .ref l ∧ H' l = some (.lst (kindsV b0 b1 b2)) } (L2.start ["_law_error", "_law_found"] [.ref a]) noH := by
    have isC : CallR (L2H.cxH CX0 P w K mg base ["_law_error", "_law_found"] "_law_kinds" (defScope s_l_kinds) T.f_l_kinds cdv A outer s noH E0 (a, oe)).nox (.builtin "isinstance") (rIsE K D a) := call_isP hpn C hz hf
    refine ⟨_, (pss_cons (ps_set (i := 1) sc_l_kinds.nd rfl (Or.inl rfl) (pe_lst (pa_cons (pe_callB isC (by rfl) T.z_isinstance (by decide +kernel) (pa_cons (pv 0) (pa_cons (pe_glob (v := .ref T.BadRow) rfl T.gBadRow rfl) pa_nil))) (pa_cons (pe_callB isC (by rfl) T.z_isinstance (by decide +kernel) (pa_cons (pv 0) (pa_cons (pe_glob (v := .ref T.BadSwaps) rfl T.gBadSwaps rfl) pa_nil))) (pa_cons (pe_callB isC (by rfl) T.z_isinstance (by decide +kernel) (pa_cons (pv 0) (pa_cons (pe_glob (v := .ref T.Unlike) rfl T.gUnlike rfl) pa_nil))) pa_nil)))))
    (pss_one (ps_ret (pe_op op_cat (pv 1) (pe_lst (pa_cons (pe_callB isC (by rfl) T.z_isinstance (by decide +kernel) (pa_cons (pv 0) (pa_cons (pe_bltn (v := .ty "ValueError") (by rfl) T.z_ValueError (by decide +kernel) rfl) pa_nil))) pa_nil)))))), ?_⟩
    refine ⟨_, rfl, _, _, b0, rfl, fun u r => r, k0, ?_⟩
    refine ⟨_, rfl, _, _, b1, rfl, fun u r => r, k1, ?_⟩
    refine ⟨_, rfl, _, _, b2, rfl, fun u r => r, k2, ?_⟩
    refine ⟨(by show 3 ≤ sizeLine; decide), fun p hp => ?_⟩
    refine ⟨_, rfl, _, rfl, _, _, true, rfl, fun u r => r, k3, (by show 1 ≤ sizeLine; decide), fun q hq => ?_⟩
    have npq : p ≠ q := ne_of_none upd_same hq
    exact ⟨p, q, _, _, rfl, rfl, (by rw [upd_ne npq, upd_same]), upd_same, by show 4 ≤ sizeLine; decide, fun l hl => ⟨l, rfl, upd_same⟩⟩
  obtain ⟨t, ht, hq⟩ := body
  refine wpAny_mono (ht.nox.run [] s1 _ noH _ J hq) (fun fl s' hs => ?_) fun e s' hs => hs
  cases fl with
  | ret u =>
    obtain ⟨v, σ', H', J', rv, q⟩ := hs
    exact ⟨v, H', J'.os, J'.bare, J'.base, J'.hok, rv, q⟩
  | next => exact hs.elim fun _ z => z.elim fun _ z => z.2.elim
  | brk => exact hs.elim fun _ z => z.elim fun _ z => z.2.elim
  | cont => exact hs.elim fun _ z => z.elim fun _ z => z.2.elim
end
end Toy
set_option Elab.async false
set_option linter.all false
set_option maxRecDepth 100000
set_option maxHeartbeats 4000000
namespace Toy
open PySem L2 PySem.Spec PyProof.Rows
theorem none_out {X : Cx} : Takes X (fun _ _ _ _ => False) := fun _ _ x => by
  obtain ⟨_, _, _, _, _, _, _, _, _, _, _, _, _, _, _, _, no⟩ := x
  exact no.elim
/-- a call that saw nothing of the heap, seen with the heap -/
theorem ce_widen {P : Program} {w : World} {outer : List Env} {H : Hp} {s s' : Shared} {u : Value} {vs : List V} {Q : VK} (hok : HOk P w H s.heap) (frf : ∀ b ∈ frs outer, H b = none) (q : ∀ l, H l = none → Q (.ref l) (upd H l (.lst vs)))
    (h : CE outer P w noH s (fun v H' => ∃ l, v = .ref l ∧ H' l = some (.lst vs)) u s') : CE outer P w H s Q u s' := by
  obtain ⟨v, H', os, bare, un, hk, r, l, rfl, hl⟩ := h
  have no : ∀ b : Addr, b ∉ ([] : List Addr) := fun b z => nomatch z
  have new : s.heap.get? l = none := by
    cases e : s.heap.get? l with
    | none => rfl
    | some o =>
      have := un.free l o e rfl (no l)
      rw [this] at hl
      cases hl
  have hn : H l = none := hok.gone new
  have off : ∀ b u, H b = some u → b ≠ l := fun b u e => ne_of_none e hn
  refine ⟨.ref l, upd H l (.lst vs), os, bare, ⟨fun b o e n hb hx => un.keep b o e rfl hb hx, fun b o e n hb hx => un.slot b o e rfl hb hx, fun b o e n hx => ?_, fun b o e hx => un.there b o e hx, fun b xs e => ?_, fun b o x e => ?_, fun b ps e => ⟨#[], ?_⟩⟩, fun b x e => ?_, r, q l hn⟩
  · have : b ≠ l := fun z => by
      rw [z, new] at e
      cases e
    rw [upd_ne this]
    exact n
  · rw [upd_ne (off b _ e)]; exact e
  · rw [upd_ne (off b _ e)]; exact e
  · rw [upd_ne (off b _ e), e, Array.append_empty]
  · by_cases hb : b = l
    · rw [hb, upd_same] at e
      cases e
      obtain ⟨z, its, n, rv, eh⟩ := hk l _ hl
      rw [hb]
      exact ⟨z, its, n, rv, eh⟩
    · rw [upd_ne hb] at e
      have keep : ∀ c, (c = b ∨ H c = some (.own b)) → c ∉ frs outer := fun c hc hm => by
        have nn := frf c hm
        rcases hc with z | z
        · rw [z, e] at nn
          cases nn
        · rw [z] at nn
          cases nn
      exact (hok b x e).stay (fun c o hc ho => un.keep c o ho rfl (keep c hc) (no c)) (fun c hc => by rw [upd_ne (off c _ hc)]; exact hc) fun c xs hc => by rw [upd_ne (off c _ hc)]; exact hc
/-- the kinds of the error that the suite holds -/
def tKinds {K : PySem.W.Frag} {mg : Str → Option Value} (T : Txt K mg) (i : Nat) (a : Addr) (cls : Value) (d : Option Addr) : TE := fun σ H Q => ∃ (D : Addr) (b0 b1 b2 : Bool), cls = .ref D ∧ d = none ∧ ExcC K D ∧
  PySem.W.kitOne K (.ref D) (.ref T.BadRow) = some b0 ∧ PySem.W.kitOne K (.ref D) (.ref T.BadSwaps) = some b1 ∧ PySem.W.kitOne K (.ref D) (.ref T.Unlike) = some b2 ∧ PySem.W.kitOne K (.ref D) (.type "ValueError") = some true ∧
  σ[i]? = some (some (.ref a)) ∧ ∀ l, H l = none → Q (.ref l) (upd H l (.lst (kindsV b0 b1 b2)))
theorem pe_kinds {X : Cx} {pn : List (Addr × Obj)} {a : Addr} {oe : Obj} {cls : Value} {d : Option Addr} {i : Nat} {p q pos : Pos} (T : Txt X.K X.mg) (dp : X.A.depth < recursionLimit) (hz : Zc cls d oe) (hf : ∃ vs, oe.data = .fields vs)
    (hN : X.N[i]? = some ("_law_error" : Str)) (hv : Vis X.env.scope "_law_error") (hg : Gl X "_law_kinds") : PE (X.suite a ((a, oe) :: pn)) (.Call (.Name "_law_kinds" p) [.Name "_law_error" q] [] pos) (tKinds T i a cls d) := by
  refine ⟨fun pins s σ H Q I h => ?_⟩
  obtain ⟨D, b0, b1, b2, rfl, rfl, C, k0, k1, k2, k3, hs, k⟩ := h
  have hg' : Gl (X.suite a ((a, oe) :: pn)) "_law_kinds" := hg
  have hm' : (X.suite a ((a, oe) :: pn)).mg "_law_kinds" = some (.ref T.f_l_kinds) := T.a_l_kinds.g
  refine wpAny_Call_Name_kw (ld_glob I hg' hm' ?_ (by decide))
  have ha : PA (X.suite a ((a, oe) :: pn)) [.Name "_law_error" q] (tCons (tVar i) tNil) := pa_cons (pe_var hN hv) pa_nil
  refine PySem.W.callWith_K (h₀ := X.base) I.ok.mod.kin T.a_l_kinds.F.kp (thn (ha.run pos pins s σ H (fun vs H1 => vs = [.ref a] ∧ H1 = H) I ⟨_, hs, rfl, rfl⟩) fun us s1 hh => ?_) rfl rfl
  obtain ⟨vs, H1, I1, r, rfl, rfl⟩ := hh
  refine ⟨I1.kIn, ?_⟩
  cases r with
  | cons ru rn =>
    cases rn
    cases ru
    show wpAny _ _ (call (.ref T.f_l_kinds) [.ref a]) _ _ _
    have P1 := I1.pin (a, oe) (List.mem_append_left _ List.mem_cons_self)
    have e0 := I1.env0
    have e0' : Env0 X.prog X.w X.K X.mg X.base (X.suite a ((a, oe) :: pn)).A (X.suite a ((a, oe) :: pn)).stack s1 noH := ⟨e0.frames, e0.mod, fun b o e => ⟨(e0.bs b o e).1, rfl⟩, e0.bsz, e0.funs, fun _ _ => rfl, (fun b o e => by cases e), e0.bare⟩
    have hpin : L2H.PinOk (X.suite a ((a, oe) :: pn)).stack noH s1 (a, oe) := ⟨P1.1, rfl, fun hm => (List.mem_cons.mp (I1.stkSub a hm)).elim P1.2.2.1 P1.2.2.2.1, P1.2.2.2.2⟩
    refine wpAny_call (codeAny_mono (kinds_code T dp e0' hpin C hz hf k0 k1 k2 k3) fun r s' hq => ?_)
    cases r with
    | error e => exact False.elim hq
    | ok fl =>
      cases fl with
      | ret u => exact I1.after (ce_widen I1.hok e0.frf k hq)
      | next => exact False.elim hq
      | brk => exact False.elim hq
      | cont => exact False.elim hq
/-- a call of a slot's def that may raise -/
def tCallLS (i : Nat) (f : Addr) (sp : Sp) (E : L2.St → XK) (t : TA) : TE := fun σ H Q => σ[i]? = some (some (.ref f)) ∧ t σ H fun vs H1 => sp vs H1 Q (E σ)
theorem pe_callLS {X : Cx} {CX : CXT} {k i : Nat} {f : Addr} {fd : FuncData} {ps : List Str} {sp : Sp} {E : L2.St → XK} {x : Str} {p pos : Pos} {e : Expr} {es : List Expr} {t : TA}
    (F : FnOk X.prog X.w X.K X.mg X.base CX k f fd ps sp) (hr : Room k X.A) (hN : X.N[i]? = some x) (hv : Vis X.env.scope x) (hk : PySem.W.keepIn X.K (.ref f) = true) (hb : Binds X.K fd ps []) (hx : ∀ σ, PassesAt CX X σ (E σ)) (ha : PA X (e :: es) t)
    (hdb : (x == ("__debug__" : Str)) = false := by decide) (hcd : (x == ("__classdict__" : Str)) = false := by decide)
    (hst : starEach (e :: es) X.env = (false, eval e X.env) :: starEach es X.env := by rfl) (hpl : (backTo pos (starEach es X.env)).any (·.1) = false := by rfl) : PE X (.Call (.Name x p) (e :: es) [] pos) (tCallLS i f sp E t) := by
  refine ⟨fun pins s σ H Q I h => ?_⟩
  have look := (pe_var (pos := p) hN hv hdb hcd).run pins s σ H (fun v H1 => v = .ref f ∧ H1 = H) I ⟨.ref f, h.1, rfl, rfl⟩
  refine wpAny_Call_Name_kw (thn look fun u s1 hh => ?_)
  obtain ⟨v, H1, I1, r1, rfl, rfl⟩ := hh
  cases r1
  exact PySem.W.callWith_K (h₀ := X.base) I.ok.mod.kin hk (thn (ha.run pos pins s1 σ _ _ I1 h.2) fun us s2 hh => by
    obtain ⟨vs, H2, I2, r, q⟩ := hh
    exact ⟨I2.kIn, run_fnS F hr hb (hx σ) I2 r q⟩) hst hpl
section
variable {P : Program} {w : World} {K : PySem.W.Frag} {mg : Str → Option Value} {base : Heap}
def Res (b0 b1 b2 : Bool) (H : Hp) (Q : VK) : Prop := ∀ H' l, Same H H' → H' l = some (.lst (kindsV b0 b1 b2)) → Q (.ref l) H'
def sp_told (T : Txt K mg) : Sp := fun vs H Q _ => (∃ (d : Int) (y : V), vs = [.ref T.f_l_with_row, .int d, y] ∧ BadV H y ∧ Res true false false H Q) ∨
  (∃ (a : Addr) (l : List Int) (y : V), vs = [.ref T.f_l_with_swaps, .ref a, y] ∧ Rw H a l ∧ BadS H (l.length : Int) y ∧ Res false true false H Q) ∨
  ∃ (a : Addr) (l : List Int) (p b : Addr) (d : Int) (m : List Int), vs = [.ref T.f_l_with_other, .ref a, .ref p] ∧ Rw H a l ∧ H p = some (.tup [.int d, .ref b]) ∧ Rw H b m ∧ l.length ≠ m.length ∧ Res false false true H Q
theorem ok_l_told (T : Txt K mg) : FnOk P w K mg base CX0 6 T.f_l_told T.d_l_told ["_law_ask", "_law_one", "_law_other"] (sp_told T) := by
  have GX_l_with_row : FnOk P w K mg base (L2.CX P w) 5 T.f_l_with_row T.d_l_with_row ["_law_door", "_law_row_here"] (sp_with_rowX T.BadRow) := okX_l_with_row T
  have GX_l_with_swaps : FnOk P w K mg base (L2.CX P w) 4 T.f_l_with_swaps T.d_l_with_swaps ["_law_row_here", "_law_swaps"] (sp_with_swapsX T.BadSwaps) := okX_l_with_swaps T
  have GX_l_with_other : FnOk P w K mg base (L2.CX P w) 5 T.f_l_with_other T.d_l_with_other ["_law_row_here", "_law_pair"] (sp_with_otherX T.Unlike) := okX_l_with_other T
  refine T.a_l_told.F.ok sc_l_told (fun vs H Q E h => ?_) (fun cdv A outer s H vs Q E hr h => ?_)
  · rcases h with ⟨_, _, rfl, _⟩ | ⟨_, _, _, rfl, _⟩ | ⟨_, _, _, _, _, _, rfl, _⟩ <;> rfl
  · have dp : (cxOf CX0 P w K mg base ["_law_ask", "_law_one", "_law_other", "_law_error"] "_law_told" (defScope s_l_told) T.f_l_told cdv A outer s H E).nox.A.depth < recursionLimit := hr.depth
    rcases h with ⟨d, y, rfl, b, k⟩ | ⟨a, l, y, rfl, R, b, k⟩ | ⟨a, l, p, c, d, m, rfl, R, hp, R', ne, k⟩
    · refine ⟨_, (pss_cons (ps_try_as (i := 3) rfl rfl sc_l_told.nd rfl rfl ⟨rfl, by decide, .inl T.gSwapError⟩ none_out
          (fun W pn xe tk _ => (pss_one (ps_expr (pe_callLS (i := 0) GX_l_with_row hr rfl (Or.inl rfl) T.a_l_with_row.F.kp T.a_l_with_row.b (fun σ => passAt tk σ) (pa_cons (pv 1) (pa_cons (pv 2) pa_nil))))))
          (fun a oe cls d pn hz hf => (pss_one (ps_ret (pe_kinds (i := 3) T dp hz hf rfl (Or.inl rfl) rfl)))))
        (pss_one (ps_ret (pe_lst pa_nil)))), ?_⟩
      refine ⟨rfl, _, rfl, _, rfl, d, y, rfl, b, fun H1 s1 => ⟨true, PySem.W.exm_ref T.bS T.dS T.tS T.eBadRow.s, fun _ a ha => ?_, fun z => nomatch z⟩⟩
      exact ⟨T.BadRow, _, _, _, rfl, rfl, T.eBadRow.e, T.k00, T.k01, T.k02, T.eBadRow.v, rfl, fun l hl => k _ l (same_new s1 hl) upd_same⟩
    · refine ⟨_, (pss_cons (ps_try_as (i := 3) rfl rfl sc_l_told.nd rfl rfl ⟨rfl, by decide, .inl T.gSwapError⟩ none_out
          (fun W pn xe tk _ => (pss_one (ps_expr (pe_callLS (i := 0) GX_l_with_swaps (hr.mono (by decide)) rfl (Or.inl rfl) T.a_l_with_swaps.F.kp T.a_l_with_swaps.b (fun σ => passAt tk σ) (pa_cons (pv 1) (pa_cons (pv 2) pa_nil))))))
          (fun a oe cls d pn hz hf => (pss_one (ps_ret (pe_kinds (i := 3) T dp hz hf rfl (Or.inl rfl) rfl)))))
        (pss_one (ps_ret (pe_lst pa_nil)))), ?_⟩
      refine ⟨rfl, _, rfl, _, rfl, a, l, y, rfl, R, b, fun H1 s1 => ⟨true, PySem.W.exm_ref T.bS T.dS T.tS T.eBadSwaps.s, fun _ a ha => ?_, fun z => nomatch z⟩⟩
      exact ⟨T.BadSwaps, _, _, _, rfl, rfl, T.eBadSwaps.e, T.k10, T.k11, T.k12, T.eBadSwaps.v, rfl, fun l hl => k _ l (same_new s1 hl) upd_same⟩
    · refine ⟨_, (pss_cons (ps_try_as (i := 3) rfl rfl sc_l_told.nd rfl rfl ⟨rfl, by decide, .inl T.gSwapError⟩ none_out
          (fun W pn xe tk _ => (pss_one (ps_expr (pe_callLS (i := 0) GX_l_with_other hr rfl (Or.inl rfl) T.a_l_with_other.F.kp T.a_l_with_other.b (fun σ => passAt tk σ) (pa_cons (pv 1) (pa_cons (pv 2) pa_nil))))))
          (fun a oe cls d pn hz hf => (pss_one (ps_ret (pe_kinds (i := 3) T dp hz hf rfl (Or.inl rfl) rfl)))))
        (pss_one (ps_ret (pe_lst pa_nil)))), ?_⟩
      refine ⟨rfl, _, rfl, _, rfl, a, l, p, c, d, m, rfl, R, hp, R', ne, fun H1 s1 => ⟨true, PySem.W.exm_ref T.bS T.dS T.tS T.eUnlike.s, fun _ a ha => ?_, fun z => nomatch z⟩⟩
      exact ⟨T.Unlike, _, _, _, rfl, rfl, T.eUnlike.e, T.k20, T.k21, T.k22, T.eUnlike.v, rfl, fun l hl => k _ l (same_new s1 hl) upd_same⟩
end
end Toy
set_option Elab.async false
set_option linter.all false
set_option maxRecDepth 100000
set_option maxHeartbeats 4000000
namespace Toy
open PySem L2
/-! ## lists of strange things -/
def Bads (H : Hp) (xs : List V) : Prop := ∀ x ∈ xs, BadV H x
theorem Bads.nil {H : Hp} : Bads H [] := fun _ h => nomatch h
theorem Bads.cons {H : Hp} {x : V} {xs : List V} (b : BadV H x) (k : Bads H xs) : Bads H (x :: xs) := fun y hy => by
  rcases List.mem_cons.mp hy with rfl | h
  · exact b
  · exact k y h
theorem Bads.same {H H' : Hp} {xs : List V} (b : Bads H xs) (s : Same H H') : Bads H' xs := fun x hx => (b x hx).same s
theorem Bads.app {H : Hp} {xs ys : List V} (b : Bads H xs) (k : Bads H ys) : Bads H (xs ++ ys) := fun x hx => (List.mem_append.mp hx).elim (b x) (k x)
def BadsS (H : Hp) (n : Int) (xs : List V) : Prop := ∀ x ∈ xs, BadS H n x
theorem BadsS.nil {H : Hp} {n : Int} : BadsS H n [] := fun _ h => nomatch h
theorem BadsS.cons {H : Hp} {n : Int} {x : V} {xs : List V} (b : BadS H n x) (k : BadsS H n xs) : BadsS H n (x :: xs) := fun y hy => by
  rcases List.mem_cons.mp hy with rfl | h
  · exact b
  · exact k y h
theorem BadsS.same {H H' : Hp} {n : Int} {xs : List V} (b : BadsS H n xs) (s : Same H H') : BadsS H' n xs := fun x hx => (b x hx).same s
theorem BadsS.app {H : Hp} {n : Int} {xs ys : List V} (b : BadsS H n xs) (k : BadsS H n ys) : BadsS H n (xs ++ ys) := fun x hx => (List.mem_append.mp hx).elim (b x) (k x)
theorem Kn.nil {H : Hp} : Kn H [] := fun _ h => nomatch h
theorem Kn.cons {H : Hp} {x : V} {xs : List V} {t : String} (b : Ty5 H x t) (k : Kn H xs) : Kn H (x :: xs) := fun y hy => by
  rcases List.mem_cons.mp hy with rfl | h
  · exact ⟨t, b⟩
  · exact k y h
theorem Kn.app {H : Hp} {xs ys : List V} (b : Kn H xs) (k : Kn H ys) : Kn H (xs ++ ys) := fun x hx => (List.mem_append.mp hx).elim (b x) (k x)
theorem kn_vi {H : Hp} (l : List Int) : Kn H (vi l) := fun x hx => by
  obtain ⟨n, _, rfl⟩ := List.mem_map.mp hx
  exact ⟨_, .int n⟩
theorem not_out {l : List Int} (i : Nat) (h : i < l.length) (o : RS.fr l i < 0 ∨ (l.length : Int) ≤ RS.fr l i) : ¬ RS.IsRow l := fun R => by
  have a := R.row.lo i h
  have b := R.row.hi i h
  omega
theorem not_dup {l : List Int} (i j : Nat) (hi : i < l.length) (hj : j < l.length) (e : RS.fr l i = RS.fr l j) (ne : i ≠ j) : ¬ RS.IsRow l := fun R => ne (R.row.inj i j hi hj e)
/-! ## the heap but for one object -/
def hide (H : Hp) (r : Addr) : Hp := fun b => if b = r then none else H b
theorem hide_at {H : Hp} {r b : Addr} {o : HO} (ne : b ≠ r) (e : H b = some o) : hide H r b = some o := by
  unfold hide
  rw [if_neg ne]
  exact e
theorem hide_to {H H' : Hp} {r : Addr} (h : ∀ b o, b ≠ r → H b = some o → H' b = some o) : Same (hide H r) (hide H' r) := fun b o e => by
  unfold hide at e ⊢
  by_cases z : b = r
  · rw [if_pos z] at e
    cases e
  · rw [if_neg z] at e ⊢
    exact h b o z e
theorem hide_back {H : Hp} {r : Addr} : Same (hide H r) H := fun b o e => by
  unfold hide at e
  by_cases z : b = r
  · rw [if_pos z] at e
    cases e
  · rw [if_neg z] at e
    exact e
theorem hide_new {H : Hp} {r : Addr} {o : HO} (h : H r = none) : Same H (hide (upd H r o) r) := fun b x e => hide_at (ne_of_none e h) (by rw [upd_ne (ne_of_none e h)]; exact e)
/-! ## a row with one strange thing -/
def Odd (H : Hp) (n : Int) (v : V) : Prop := (∃ t, Ty5 H v t ∧ wh v = false) ∨ ∃ z : Int, v = .int z ∧ (z < 0 ∨ n ≤ z)
theorem Odd.same {H H' : Hp} {n : Int} {v : V} (o : Odd H n v) (s : Same H H') : Odd H' n v := o.elim (fun ⟨t, k, w⟩ => .inl ⟨t, k.same s, w⟩) .inr
theorem odd_row {H : Hp} {c : Addr} {row : List Int} {at_ : Nat} {v : V} (R : RS.IsRow row) (le : row.length ≤ 100) (h : at_ < row.length) (o : Odd H (row.length : Int) v) (hc : H c = some (.lst (vi (row.take at_) ++ [v] ++ vi (row.drop (at_ + 1))))) : BadV H (.ref c) := by
  have n3 := R.three
  have len : (vi (row.take at_) ++ [v] ++ vi (row.drop (at_ + 1))).length = row.length := by
    rw [List.length_append, List.length_append, vi_len, vi_len, List.length_take, List.length_drop, List.length_singleton]
    omega
  rcases o with ⟨t, ty, hw⟩ | ⟨z, rfl, hz⟩
  · exact .strange hc (by omega) (by omega) (((kn_vi _).app (.cons ty .nil)).app (kn_vi _)) v (List.mem_append_left _ (List.mem_append_right _ List.mem_cons_self)) hw
  · have e : vi (row.take at_) ++ [V.int z] ++ vi (row.drop (at_ + 1)) = vi (row.take at_ ++ [z] ++ row.drop (at_ + 1)) := by
      unfold vi
      rw [List.map_append, List.map_append]; rfl
    rw [e] at hc len
    rw [vi_len] at len
    refine .twice hc (by omega) (by omega) (not_out at_ (by omega) ?_)
    have ef : RS.fr (row.take at_ ++ [z] ++ row.drop (at_ + 1)) at_ = z := by
      rw [RS.fr_eq (by omega), List.getElem_append_left (by rw [List.length_append, List.length_take, List.length_singleton]; omega), List.getElem_append_right (by rw [List.length_take]; omega)]
      simp
    rw [ef, len]
    exact hz
theorem strange8 {H : Hp} {u1 u2 u3 : Addr} {n f : Int} {x1 x2 : List V} {kvs : List (Key × V)} (f0 : 0 ≤ f) (h1 : H u1 = some (.lst x1)) (h2 : H u2 = some (.tup x2)) (h3 : H u3 = some (.dK kvs)) (z : Str) : ∀ m : Nat, m < 8 →
    ∃ v, ([.non, .str z, .bl true, .ref u1, .ref u2, .ref u3, .int (n + f), .int (-1 - f)] : List V)[m]? = some v ∧ Odd H n v
  | 0, _ => ⟨_, rfl, .inl ⟨_, .non, rfl⟩⟩
  | 1, _ => ⟨_, rfl, .inl ⟨_, .str z, rfl⟩⟩
  | 2, _ => ⟨_, rfl, .inl ⟨_, .bl true, rfl⟩⟩
  | 3, _ => ⟨_, rfl, .inl ⟨_, .lst h1, rfl⟩⟩
  | 4, _ => ⟨_, rfl, .inl ⟨_, .tup h2, rfl⟩⟩
  | 5, _ => ⟨_, rfl, .inl ⟨_, .dic h3, rfl⟩⟩
  | 6, _ => ⟨_, rfl, .inr ⟨_, rfl, .inr (by omega)⟩⟩
  | 7, _ => ⟨_, rfl, .inr ⟨_, rfl, .inl (by omega)⟩⟩
  | m + 8, h => absurd h (by omega)
/-- every (1 + n // 6)-th place -/
def turns (n : Nat) : Nat := (n + n / 6) / (1 + n / 6)
theorem rg63 : ∀ n : Nat, n < 64 → 3 ≤ n → (1 + (n : Int) / 6 ≠ 0 ∧ (1 + (n : Int) / 6).natAbs < 1073741824 ∧ Builtin.Range.small 0 (n : Int) (1 + (n : Int) / 6) = true ∧ Builtin.Range.rangeSize 0 (n : Int) (1 + (n : Int) / 6) = (turns n : Int)) ∧ turns n ≤ 20 ∧ ∀ i, i < turns n → i * (1 + n / 6) < n := by decide +kernel
theorem cut_drop' (l : List Int) (k : Nat) : cutI l (some ((k : Int) + 1)) none = l.drop (k + 1) := by
  have e : ((k : Int) + 1) = ((k + 1 : Nat) : Int) := by omega
  rw [e]
  by_cases h : k + 1 ≤ l.length
  · exact cut_from h
  · unfold cutI
    rw [HT.sIx_none, HT.sIx_nat, Nat.min_eq_right (by omega), List.drop_length, List.drop_of_length_le (by omega)]
    simp
/-! ## what stays -/
structure Stay (H : Hp) (q k du d0 d1 d2 : Addr) (row : List Int) : Prop where
  rq : Rw H q row
  hk : H k = some (.lst (vi row))
  hdu : H du = some (.lst [.ref d0, .ref d1, .ref d2])
  h0 : H d0 = some (.lst (kindsV true false false))
  h1 : H d1 = some (.lst (kindsV false true false))
  h2 : H d2 = some (.lst (kindsV false false true))
theorem Stay.same {H H' : Hp} {q k du d0 d1 d2 : Addr} {row : List Int} (t : Stay H q k du d0 d1 d2 row) (s : Same H H') : Stay H' q k du d0 d1 d2 row := ⟨t.rq.same s, s _ _ t.hk, s _ _ t.hdu, s _ _ t.h0, s _ _ t.h1, s _ _ t.h2⟩
theorem dp_kinds (K : PySem.W.Frag) (H : Hp) (a b c : Bool) : DpAll K H (kindsV a b c) [.bool a, .bool b, .bool c, .bool true] := .cons (.bl a) (.cons (.bl b) (.cons (.bl c) (.cons (.bl true) .nil)))
theorem shaped_kinds : ∀ a b c : Bool, SeqAt.shaped (.list [.bool a, .bool b, .bool c, .bool true]) = true := by decide
theorem eqv_kinds : ∀ a b c : Bool, PyData.eqv (.list [.bool a, .bool b, .bool c, .bool true]) (.list [.bool a, .bool b, .bool c, .bool true]) = true := by decide
theorem isRow_succ {row : List Int} (R : RS.IsRow row) : RS.IsRow (row ++ [(row.length : Int)]) := by
  have n3 := R.three
  have p := RS.row_perm R.row
  refine RS.isRow_perm (by rw [List.length_append]; omega) ?_
  rw [List.length_append, List.length_singleton, RS.ids_succ]
  exact p.append_right _
theorem done_twice {row : List Int} (R : RS.IsRow row) : RS.doneL row [(row.length : Int) - 1, (row.length : Int) - 1] = row := by
  have n3 := R.three
  show RS.swp (RS.swp row _) _ = row
  exact RS.swp_swp (by omega) (by omega)
end Toy
set_option Elab.async false
set_option linter.all false
set_option maxRecDepth 100000
set_option maxHeartbeats 8000000
namespace Toy
open PySem L2
section
variable {P : Program} {w : World} {K : PySem.W.Frag} {mg : Str → Option Value} {base : Heap}
def dueV (j : Nat) : List V := [.bl (decide (V.int (j : Int) = V.int 0)), .bl (decide (V.int (j : Int) = V.int 1)), .bl (decide (V.int (j : Int) = V.int 2)), .bl true]
def sp_law (K : PySem.W.Frag) : Sp := fun vs H Q _ => ∃ (a : Addr) (ns : List Int), vs = [.ref a] ∧ SqL K H a (vi ns) ∧ Sc ns ∧ ∀ H', Q (.bl true) H'
theorem ok_law (T : Txt K mg) : FnOk P w K mg base CX0 7 T.f_law T.d_law ["_law_script"] (sp_law K) := by
  have G_l_row : FnOk P w K mg base CX0 4 T.f_l_row T.d_l_row ["_law_script"] (sp_row K) := ok_l_row T
  have G_l_cell_at : FnOk P w K mg base CX0 1 T.f_l_cell_at T.d_l_cell_at ["_law_script", "_law_k"] (sp_cell K) := ok_l_cell_at T
  have G_l_turned : FnOk P w K mg base CX0 1 T.f_l_turned T.d_l_turned ["_law_row_here", "_law_by"] (sp_turned K) := ok_l_turned T
  have G_l_told : FnOk P w K mg base CX0 6 T.f_l_told T.d_l_told ["_law_ask", "_law_one", "_law_other"] (sp_told T) := ok_l_told T
  have G_done : FnOk P w K mg base CX0 3 T.f_done T.d_done ["row", "swaps"] sp_done := ok_done T
  refine T.a_law.F.ok sc_law (fun vs H Q E h => ?_) (fun cdv A outer s H vs Q E hr h => ?_)
  · obtain ⟨a, ns, rfl, _⟩ := h
    rfl
  · obtain ⟨a, ns, rfl, ha, S, kq⟩ := h
    have nl := S.1
    obtain ⟨f, hf⟩ : ∃ f : Int, cell ns 0 % 100000000000000000000 = f := ⟨_, rfl⟩
    have f0 : 0 ≤ f := by omega
    refine ⟨_, (pss_cons (ps_set (i := 1) sc_law.nd rfl (Or.inl rfl) (pe_op op_modZ (pe_call G_l_cell_at (hr.mono (by decide)) rfl T.a_l_cell_at.g T.a_l_cell_at.F.kp T.a_l_cell_at.b .nil pass0 (pa_cons (pv 0) (pa_cons pe_int pa_nil))) (pe_op op_pow pe_int pe_int)))
    (pss_cons (ps_set (i := 2) sc_law.nd rfl (Or.inr rfl) (pe_lst pa_nil))
    (pss_cons (ps_for PassesOwn.never rfl (pi_range1 rfl T.z_range (pa_cons pe_int pa_nil)) (pg_name (i := 3) sc_law.nd rfl (Or.inl rfl))
    (pss_one (ps_expr (pe_bm PySem.F.plainAttrs_list PySem.F.slot_list_append PySem.F.type_list_append mt_append (pv 2) (pa_cons (pe_lst (pa_cons (pe_cmpR op_eq (pv 3) pe_int (nomark _)) (pa_cons (pe_cmpR op_eq (pv 3) pe_int (nomark _)) (pa_cons (pe_cmpR op_eq (pv 3) pe_int (nomark _)) (pa_cons pe_bl pa_nil))))) pa_nil)))))
    (pss_cons (ps_set (i := 4) sc_law.nd rfl (Or.inr rfl) (pe_call G_l_row (hr.mono (by decide)) rfl T.a_l_row.g T.a_l_row.F.kp T.a_l_row.b .nil pass0 (pa_cons (pv 0) pa_nil)))
    (pss_cons (ps_par (by rfl) sc_law.nd (i := 5) (j := 6) rfl rfl (by decide) rfl rfl (pa_cons (pe_callTy lstZ (by rfl) T.z_list (by decide +kernel) (pa_cons (pv 4) pa_nil)) (pa_cons (pe_callB lenZ (by rfl) T.z_len (by decide +kernel) (pa_cons (pv 4) pa_nil)) pa_nil)) (by rfl))
    (Evl.pss_cut (ps_set (i := 7) sc_law.nd rfl (Or.inl rfl) (pe_lst (pa_cons pe_non (pa_cons (pe_tup pa_nil) (pa_cons (pe_tup (pa_cons pe_int (pa_cons pe_int (pa_cons pe_int pa_nil)))) (pa_cons pe_str (pa_cons pe_dnewK (pa_cons pe_int (pa_cons (pe_lst pa_nil) (pa_cons (pe_lst (pa_cons pe_int pa_nil)) (pa_cons (pe_lst (pa_cons pe_int (pa_cons pe_int pa_nil))) (pa_cons (pe_lst (pa_cons pe_int (pa_cons pe_int (pa_cons pe_int pa_nil)))) (pa_cons (pe_lst (pa_cons pe_int (pa_cons pe_int (pa_cons pe_int pa_nil)))) (pa_cons (pe_lst (pa_cons pe_int (pa_cons pe_int (pa_cons (pe_op op_add pe_int (pv 1)) pa_nil)))) (pa_cons (pe_lst (pa_cons pe_int (pa_cons pe_int (pa_cons (pe_op op_sub (pe_un un_neg pe_int) (pv 1)) pa_nil)))) pa_nil)))))))))))))))
    (Evl.pss_cut (ps_set (i := 7) sc_law.nd rfl (Or.inl rfl) (pe_op op_cat (pv 7) (pe_lst (pa_cons (pe_lst (pa_cons pe_int (pa_cons pe_int (pa_cons pe_non pa_nil)))) (pa_cons (pe_lst (pa_cons pe_int (pa_cons pe_bl (pa_cons pe_int pa_nil)))) (pa_cons (pe_lst (pa_cons pe_str (pa_cons pe_int (pa_cons pe_int pa_nil)))) (pa_cons (pe_lst (pa_cons pe_bl (pa_cons pe_int (pa_cons pe_int pa_nil)))) (pa_cons (pe_lst (pa_cons (pe_lst (pa_cons pe_int pa_nil)) (pa_cons pe_int (pa_cons pe_int pa_nil)))) (pa_cons (pe_lst (pa_cons pe_int (pa_cons pe_int (pa_cons pe_int (pa_cons pe_int pa_nil))))) (pa_cons (pe_lst (pa_cons pe_int (pa_cons pe_int (pa_cons pe_int (pa_cons pe_int pa_nil))))) pa_nil))))))))))
    (pss_cons (ps_for PassesOwn.never rfl (pi_range3 rfl T.z_range (pa_cons pe_int (pa_cons (pv 6) (pa_cons (pe_op op_add pe_int (pe_op op_divZ (pv 6) pe_int)) pa_nil)))) (pg_name (i := 8) sc_law.nd rfl (Or.inl rfl))
    (Evl.pss_cut (ps_set (i := 9) sc_law.nd rfl (Or.inl rfl) (pe_ix ix_tup (pe_tup (pa_cons pe_non (pa_cons pe_str (pa_cons pe_bl (pa_cons (pe_lst (pa_cons pe_int pa_nil)) (pa_cons (pe_tup (pa_cons pe_int pa_nil)) (pa_cons pe_dnewK (pa_cons (pe_op op_add (pv 6) (pv 1)) (pa_cons (pe_op op_sub (pe_un un_neg pe_int) (pv 1)) pa_nil))))))))) (pe_op op_modZ (pv 8) pe_int) (fun _ _ => rfl)))
      (pss_one (ps_expr (pe_bm PySem.F.plainAttrs_list PySem.F.slot_list_append PySem.F.type_list_append mt_append (pv 7) (pa_cons (pe_op op_cat (pe_op op_cat (pe_slice slZ (pv 4) po_none (po_some (pv 8))) (pe_lst (pa_cons (pv 9) pa_nil))) (pe_slice slZ (pv 4) (po_some (pe_op op_add (pv 8) pe_int)) po_none)) pa_nil))))))
    (pss_cons (ps_for PassesOwn.never rfl (pi_range1 rfl T.z_range (pa_cons pe_int pa_nil)) (pg_name (i := 10) sc_law.nd rfl (Or.inr rfl))
    (pss_one (ps_if (pt_not (pt_val (pe_callB (allZ rfl) (by rfl) T.z_all (by decide +kernel) (pa_cons (pe_lc (own := [("_law_thing", 12)]) (g := gName 12) (tt := tYes) rfl sc_law.nd (pi_list (pv 7)) (blkOk_by (N := ["_law_script", "_law_far", "_law_due", "_law_k", "_law_row_here", "_law_kept", "_law_size", "_law_bad", "_law_at", "_law_strange", "_law_door", "_law_others", "_law_thing"]) (sc := defScope s_law) (by decide +kernel)) (fun _ _ _ _ _ => pg_name (i := 12) sc_law.nd rfl (Or.inl rfl)) (fun _ _ _ _ _ => pts_nil) (fun _ _ _ _ _ => (pe_cmpR (r := rEqD K) (op_eqD hr.units) (pe_call G_l_told hr rfl T.a_l_told.g T.a_l_told.F.kp T.a_l_told.b .nil pass0 (pa_cons (pe_glob (v := .ref T.f_l_with_row) rfl T.a_l_with_row.g rfl) (pa_cons (pv 10) (pa_cons (pv 12) pa_nil)))) (pe_ix (r := rIxL K) ix_list (pv 2) pe_int (fun _ _ => rfl)) (nomark _)))) pa_nil))))
      (pss_one (ps_ret pe_bl))
      pss_nil)))
    (Evl.pss_cut (ps_set (i := 7) sc_law.nd rfl (Or.inl rfl) (pe_lst (pa_cons pe_non (pa_cons (pe_tup pa_nil) (pa_cons (pe_tup (pa_cons pe_int pa_nil)) (pa_cons pe_str (pa_cons pe_dnewK (pa_cons pe_int (pa_cons (pe_lst (pa_cons pe_non pa_nil)) (pa_cons (pe_lst (pa_cons pe_str pa_nil)) (pa_cons (pe_lst (pa_cons pe_bl pa_nil)) (pa_cons (pe_lst (pa_cons pe_int (pa_cons pe_bl pa_nil))) (pa_cons (pe_lst (pa_cons (pe_lst (pa_cons pe_int pa_nil)) pa_nil)) (pa_cons (pe_lst (pa_cons (pe_un un_neg pe_int) pa_nil)) (pa_cons (pe_lst (pa_cons pe_int (pa_cons (pe_op op_sub (pe_un un_neg pe_int) (pv 1)) pa_nil))) (pa_cons (pe_lst (pa_cons (pv 6) pa_nil)) pa_nil))))))))))))))))
    (Evl.pss_cut (ps_expr (pe_bm PySem.F.plainAttrs_list PySem.F.slot_list_append PySem.F.type_list_append mt_append (pv 7) (pa_cons (pe_lst (pa_cons (pe_op op_add (pv 6) (pv 1)) pa_nil)) pa_nil)))
    (pss_cons (ps_if (pt_not (pt_val (pe_callB (allZ rfl) (by rfl) T.z_all (by decide +kernel) (pa_cons (pe_lc (own := [("_law_thing", 12)]) (g := gName 12) (tt := tYes) rfl sc_law.nd (pi_list (pv 7)) (blkOk_by (N := ["_law_script", "_law_far", "_law_due", "_law_k", "_law_row_here", "_law_kept", "_law_size", "_law_bad", "_law_at", "_law_strange", "_law_door", "_law_others", "_law_thing"]) (sc := defScope s_law) (by decide +kernel)) (fun _ _ _ _ _ => pg_name (i := 12) sc_law.nd rfl (Or.inl rfl)) (fun _ _ _ _ _ => pts_nil) (fun _ _ _ _ _ => (pe_cmpR (r := rEqD K) (op_eqD hr.units) (pe_call G_l_told hr rfl T.a_l_told.g T.a_l_told.F.kp T.a_l_told.b .nil pass0 (pa_cons (pe_glob (v := .ref T.f_l_with_swaps) rfl T.a_l_with_swaps.g rfl) (pa_cons (pv 4) (pa_cons (pv 12) pa_nil)))) (pe_ix (r := rIxL K) ix_list (pv 2) pe_int (fun _ _ => rfl)) (nomark _)))) pa_nil))))
    (pss_one (ps_ret pe_bl))
    pss_nil)
    (Evl.pss_cut (ps_set (i := 11) sc_law.nd rfl (Or.inl rfl) (pe_lst (pa_cons (pe_op op_catZ (pv 4) (pe_lst (pa_cons (pv 6) pa_nil))) (pa_cons (pe_call G_l_turned (hr.mono (by decide)) rfl T.a_l_turned.g T.a_l_turned.F.kp T.a_l_turned.b .nil pass0 (pa_cons (pe_listRg rfl (by rfl) T.z_list (prg_1 (by rfl) T.z_range (pe_op op_add (pv 6) pe_int))) (pa_cons pe_int pa_nil))) (pa_cons (pe_listRg rfl (by rfl) T.z_list (prg_1 (by rfl) T.z_range (pe_op op_add (pe_op op_add (pv 6) pe_int) (pe_op op_modZ (pv 1) pe_int)))) pa_nil)))))
    (Evl.pss_cut (ps_if (pt_cmpR op_gt (pv 6) pe_int (nomark _))
    (pss_one (ps_expr (pe_bm PySem.F.plainAttrs_list PySem.F.slot_list_append PySem.F.type_list_append mt_append (pv 11) (pa_cons (pe_listRg rfl (by rfl) T.z_list (prg_1 (by rfl) T.z_range (pe_op op_sub (pv 6) pe_int))) pa_nil))))
    pss_nil)
    (pss_cons (ps_for PassesOwn.never rfl (pi_tup (pe_tup (pa_cons pe_int (pa_cons pe_int pa_nil)))) (pg_name (i := 10) sc_law.nd rfl (Or.inr rfl))
    (pss_one (ps_if (pt_not (pt_val (pe_callB (allZ rfl) (by rfl) T.z_all (by decide +kernel) (pa_cons (pe_lc (own := [("_law_thing", 12)]) (g := gName 12) (tt := tYes) rfl sc_law.nd (pi_list (pv 11)) (blkOk_by (N := ["_law_script", "_law_far", "_law_due", "_law_k", "_law_row_here", "_law_kept", "_law_size", "_law_bad", "_law_at", "_law_strange", "_law_door", "_law_others", "_law_thing"]) (sc := defScope s_law) (by decide +kernel)) (fun _ _ _ _ _ => pg_name (i := 12) sc_law.nd rfl (Or.inl rfl)) (fun _ _ _ _ _ => pts_nil) (fun _ _ _ _ _ => (pe_cmpR (r := rEqD K) (op_eqD hr.units) (pe_call G_l_told hr rfl T.a_l_told.g T.a_l_told.F.kp T.a_l_told.b .nil pass0 (pa_cons (pe_glob (v := .ref T.f_l_with_other) rfl T.a_l_with_other.g rfl) (pa_cons (pv 4) (pa_cons (pe_tup (pa_cons (pv 10) (pa_cons (pv 12) pa_nil))) pa_nil)))) (pe_ix (r := rIxL K) ix_list (pv 2) pe_int (fun _ _ => rfl)) (nomark _)))) pa_nil))))
      (pss_one (ps_ret pe_bl))
      pss_nil)))
    (pss_one (ps_ret (pe_and (pe_cmpR (op_eqZ hr.units) (pv 4) (pv 5) (nomark _)) (pe_and (pe_cmpR (op_eqZ hr.units) (pe_call G_done (hr.mono (by decide)) rfl T.a_done.g T.a_done.F.kp T.a_done.b .nil pass0 (pa_cons (pv 4) (pa_cons (pe_lst pa_nil) pa_nil))) (pv 5) (nomark _)) (pe_one (pe_cmpR (op_eqZ hr.units) (pe_call G_done (hr.mono (by decide)) rfl T.a_done.g T.a_done.F.kp T.a_done.b .nil pass0 (pa_cons (pv 4) (pa_cons (pe_lst (pa_cons (pe_op op_sub (pv 6) pe_int) (pa_cons (pe_op op_sub (pv 6) pe_int) pa_nil))) pa_nil))) (pv 5) (nomark _)))))))))))))))))))))), ?_⟩
    refine ⟨_, rfl, a, ns, 0, rfl, ha, by decide, _, _, rfl, rfl, ⟨by decide, by decide, by decide⟩, _, _, f, rfl, rfl, by decide, hf, ?_⟩
    -- what is due
    refine ⟨Nat.zero_le _, fun du hdu => ?_⟩
    refine ⟨3, rfl, by decide, by decide, for_range0 (n := 3) (fun i σ H2 => ∃ (rs : List Addr) (v3 : Option V), σ = [some (.ref a), some (.int f), some (.ref du), v3, none, none, none, none, none, none, none, none, none] ∧ Same H H2 ∧ H2 du = some (.lst (rs.map V.ref)) ∧ rs.length = i ∧ ∀ (j : Nat) (b : Addr), rs[j]? = some b → H2 b = some (.lst (dueV j)) ∧ b ≠ du)
      ⟨[], none, rfl, same_new (Same.refl H) hdu, upd_same, rfl, fun j b h => by simp at h⟩ ?_ ?_⟩
    · rintro i σ H2 hi ⟨rs, v3, rfl, s2, hL, rl, hb⟩
      refine ⟨_, rfl, .inl ⟨rfl, _, SqL.of hL⟩, ?_⟩
      refine ⟨_, rfl, rfl, _, rfl, rfl, _, rfl, rfl, (by show 4 ≤ sizeLine; decide), fun d hd => ?_⟩
      have s3 := same_new s2 hd (o := .lst (dueV i))
      have ndd : du ≠ d := ne_of_none hL hd
      refine ⟨du, _, _, rfl, rfl, (by rw [upd_ne ndd]; exact hL), (by rw [List.length_map]; exact size_lt (by omega)), ?_⟩
      refine ⟨rs ++ [d], _, rfl, same_mut s3 hdu, (by rw [upd_same, List.map_append]; rfl), (by rw [List.length_append, rl]; rfl), fun j b h => ?_⟩
      by_cases hj : j < rs.length
      · rw [List.getElem?_append_left hj] at h
        obtain ⟨q1, q2⟩ := hb j b h
        exact ⟨by rw [upd_ne q2, upd_ne (ne_of_none q1 hd)]; exact q1, q2⟩
      · rw [List.getElem?_append_right (by omega)] at h
        have hj0 : j - rs.length = 0 := by
          have := (List.getElem?_eq_some_iff.mp h).1
          simp at this
          omega
        rw [hj0] at h
        have eb : b = d := by simpa using h.symm
        have ej : j = i := by omega
        subst eb ej
        exact ⟨by rw [upd_ne (Ne.symm ndd)]; exact upd_same, Ne.symm ndd⟩
    rintro σ H2 ⟨rs, v3, rfl, s2, hL, rl, hb⟩
    obtain ⟨d0, d1, d2, rfl⟩ : ∃ d0 d1 d2, rs = [d0, d1, d2] := by
      match rs, rl with
      | [x, y, z], _ => exact ⟨x, y, z, rfl⟩
    have q0 := (hb 0 d0 rfl).1
    have q1 := (hb 1 d1 rfl).1
    have q2 := (hb 2 d2 rfl).1
    -- the row
    refine ⟨_, rfl, a, ns, rfl, s2.seq ha, S, fun H3 q row s3 q00 hq R rl => ?_⟩
    have n3 := R.three
    have n63 : row.length ≤ 63 := by omega
    refine ⟨_, rfl, q, row, rfl, SqL.of hq, fun k k0 => ⟨_, rfl, q, row, _, rfl, SqL.of ((same_new (Same.refl H3) k0) _ _ hq), rfl, _, _, rfl, ?_⟩⟩
    have s4 := same_new s3 k0 (o := .lst (vi row))
    have s4' := same_new (Same.refl H3) k0 (o := .lst (vi row))
    have ST : Stay (upd H3 k (.lst (vi row))) q k du d0 d1 d2 row := ⟨⟨s4' _ _ hq, R, by omega⟩, upd_same, s4 _ _ hL, s4 _ _ q0, s4 _ _ q1, s4 _ _ q2⟩
    obtain ⟨H4, e4⟩ : ∃ H4, H4 = upd H3 k (.lst (vi row)) := ⟨_, rfl⟩
    rw [← e4] at ST
    -- no rows
    refine ⟨fun σ H' => ∃ (p : Addr) (xs : List V), σ = [some (.ref a), some (.int f), some (.ref du), v3, some (.ref q), some (.ref k), some (.int (row.length : Int)), some (.ref p), none, none, none, none, none] ∧ Stay H' q k du d0 d1 d2 row ∧ H' p = some (.lst xs) ∧ Bads H' xs ∧ xs.length = 13, ?_, ?_⟩
    · rw [← e4]
      refine ⟨(by show 0 ≤ sizeLine; decide), fun e1 ge1 => ?_⟩
      have se1 := same_new (Same.refl _) ge1 (o := .tup [])
      refine ⟨(by show 3 ≤ sizeLine; decide), fun e2 ge2 => ?_⟩
      have se2 := same_new (Same.refl _) ge2 (o := .tup [.int 0, .int 1, .int 2])
      refine fun e3 ge3 => ?_
      have se3 := same_new (Same.refl _) ge3 (o := .dK [])
      refine ⟨(by show 0 ≤ sizeLine; decide), fun e4 ge4 => ?_⟩
      have se4 := same_new (Same.refl _) ge4 (o := .lst [])
      refine ⟨(by show 1 ≤ sizeLine; decide), fun e5 ge5 => ?_⟩
      have se5 := same_new (Same.refl _) ge5 (o := .lst [.int 0])
      refine ⟨(by show 2 ≤ sizeLine; decide), fun e6 ge6 => ?_⟩
      have se6 := same_new (Same.refl _) ge6 (o := .lst [.int 0, .int 1])
      refine ⟨(by show 3 ≤ sizeLine; decide), fun e7 ge7 => ?_⟩
      have se7 := same_new (Same.refl _) ge7 (o := .lst [.int 1, .int 2, .int 3])
      refine ⟨(by show 3 ≤ sizeLine; decide), fun e8 ge8 => ?_⟩
      have se8 := same_new (Same.refl _) ge8 (o := .lst [.int 0, .int 1, .int 1])
      refine ⟨_, rfl, _, _, rfl, rfl, (by show 3 ≤ sizeLine; decide), fun e9 ge9 => ?_⟩
      have se9 := same_new (Same.refl _) ge9 (o := .lst [.int 0, .int 1, .int (3 + f)])
      refine ⟨_, rfl, _, rfl, _, _, rfl, rfl, (by show 3 ≤ sizeLine; decide), fun e10 ge10 => ?_⟩
      have se10 := same_new (Same.refl _) ge10 (o := .lst [.int 0, .int 1, .int (-1 - f)])
      refine ⟨(by show 13 ≤ sizeLine; decide), fun eL geL => ?_⟩
      have te10 := same_new (Same.refl _) geL (o := .lst [.non, .ref e1, .ref e2, .str "012", .ref e3, .int 5, .ref e4, .ref e5, .ref e6, .ref e7, .ref e8, .ref e9, .ref e10])
      have te9 := Same.trans se10 te10
      have te8 := Same.trans se9 te9
      have te7 := Same.trans se8 te8
      have te6 := Same.trans se7 te7
      have te5 := Same.trans se6 te6
      have te4 := Same.trans se5 te5
      have te3 := Same.trans se4 te4
      have te2 := Same.trans se3 te3
      have te1 := Same.trans se2 te2
      have te0 := Same.trans se1 te1
      exact ⟨eL, _, rfl, ST.same te0, upd_same, (Bads.cons (.no .non rfl) (Bads.cons (.no (.tup (te1 _ _ upd_same)) rfl) (Bads.cons (.no (.tup (te2 _ _ upd_same)) rfl) (Bads.cons (.no (.str _) rfl) (Bads.cons (.no (.dic (te3 _ _ upd_same)) rfl) (Bads.cons (.no (.int 5) rfl) (Bads.cons (.short (te4 _ _ upd_same) (by decide)) (Bads.cons (.short (te5 _ _ upd_same) (by show 1 < 3; decide)) (Bads.cons (.short (te6 _ _ upd_same) (by show 2 < 3; decide)) (Bads.cons (.twice (l := [1, 2, 3]) (te7 _ _ upd_same) (by show 3 ≤ 3; decide) (by show 3 ≤ 1000; decide) (not_out 2 (by decide) (.inr (by decide)))) (Bads.cons (.twice (l := [0, 1, 1]) (te8 _ _ upd_same) (by show 3 ≤ 3; decide) (by show 3 ≤ 1000; decide) (not_dup 1 2 (by decide) (by decide) (by decide) (by decide))) (Bads.cons (.twice (l := [0, 1, 3 + f]) (te9 _ _ upd_same) (by show 3 ≤ 3; decide) (by show 3 ≤ 1000; decide) (not_out 2 (by show 2 < 3; decide) (.inr (show (3 : Int) ≤ 3 + f by omega)))) (Bads.cons (.twice (l := [0, 1, -1 - f]) (te10 _ _ upd_same) (by show 3 ≤ 3; decide) (by show 3 ≤ 1000; decide) (not_out 2 (by show 2 < 3; decide) (.inl (show -1 - f < 0 by omega)))) Bads.nil))))))))))))), rfl⟩
    clear ST e4
    rintro σ H5 ⟨p, xs, rfl, ST, hp, bx, xl⟩
    refine ⟨fun σ H' => ∃ (r : Addr) (xs : List V), σ = [some (.ref a), some (.int f), some (.ref du), v3, some (.ref q), some (.ref k), some (.int (row.length : Int)), some (.ref r), none, none, none, none, none] ∧ Stay (hide H' r) q k du d0 d1 d2 row ∧ H' r = some (.lst xs) ∧ Bads (hide H' r) xs ∧ xs.length = 20, ?_, ?_⟩
    · refine ⟨_, rfl, ?_⟩
      refine ⟨(by show 3 ≤ sizeLine; decide), fun b1 gb1 => ?_⟩
      have sb1 := same_new (Same.refl _) gb1 (o := .lst [.int 0, .int 1, .non])
      refine ⟨(by show 3 ≤ sizeLine; decide), fun b2 gb2 => ?_⟩
      have sb2 := same_new (Same.refl _) gb2 (o := .lst [.int 0, .bl true, .int 2])
      refine ⟨(by show 3 ≤ sizeLine; decide), fun b3 gb3 => ?_⟩
      have sb3 := same_new (Same.refl _) gb3 (o := .lst [.str "0", .int 1, .int 2])
      refine ⟨(by show 3 ≤ sizeLine; decide), fun b4 gb4 => ?_⟩
      have sb4 := same_new (Same.refl _) gb4 (o := .lst [.bl false, .int 1, .int 2])
      refine ⟨(by show 1 ≤ sizeLine; decide), fun b5 gb5 => ?_⟩
      have sb5 := same_new (Same.refl _) gb5 (o := .lst [.int 0])
      refine ⟨(by show 3 ≤ sizeLine; decide), fun b6 gb6 => ?_⟩
      have sb6 := same_new (Same.refl _) gb6 (o := .lst [.ref b5, .int 1, .int 2])
      refine ⟨(by show 4 ≤ sizeLine; decide), fun b7 gb7 => ?_⟩
      have sb7 := same_new (Same.refl _) gb7 (o := .lst [.int 0, .int 1, .int 2, .int 2])
      refine ⟨(by show 4 ≤ sizeLine; decide), fun b8 gb8 => ?_⟩
      have sb8 := same_new (Same.refl _) gb8 (o := .lst [.int 2, .int 0, .int 0, .int 1])
      refine ⟨(by show 7 ≤ sizeLine; decide), fun bL gbL => ?_⟩
      have tb8 := same_new (Same.refl _) gbL (o := .lst [.ref b1, .ref b2, .ref b3, .ref b4, .ref b6, .ref b7, .ref b8])
      have tb7 := Same.trans sb8 tb8
      have tb6 := Same.trans sb7 tb7
      have tb5 := Same.trans sb6 tb6
      have tb4 := Same.trans sb5 tb5
      have tb3 := Same.trans sb4 tb4
      have tb2 := Same.trans sb3 tb3
      have tb1 := Same.trans sb2 tb2
      have tb0 := Same.trans sb1 tb1
      refine ⟨p, bL, _, _, rfl, rfl, tb0 _ _ hp, upd_same, (by rw [xl]; exact size_le (by show 13 + 7 ≤ 100000; decide)), fun r hr => ?_⟩
      have hn := hide_new (o := .lst (xs ++ [.ref b1, .ref b2, .ref b3, .ref b4, .ref b6, .ref b7, .ref b8])) hr
      have bz := (bx.same tb0).app (Bads.cons (.strange (tb1 _ _ upd_same) (by show 3 ≤ 3; decide) (by show 3 ≤ 1000; decide) (Kn.cons (.int 0) (Kn.cons (.int 1) (Kn.cons (.non) Kn.nil))) .non (by simp) rfl) (Bads.cons (.strange (tb2 _ _ upd_same) (by show 3 ≤ 3; decide) (by show 3 ≤ 1000; decide) (Kn.cons (.int 0) (Kn.cons (.bl true) (Kn.cons (.int 2) Kn.nil))) (.bl true) (by simp) rfl) (Bads.cons (.strange (tb3 _ _ upd_same) (by show 3 ≤ 3; decide) (by show 3 ≤ 1000; decide) (Kn.cons (.str _) (Kn.cons (.int 1) (Kn.cons (.int 2) Kn.nil))) (.str "0") (by simp) rfl) (Bads.cons (.strange (tb4 _ _ upd_same) (by show 3 ≤ 3; decide) (by show 3 ≤ 1000; decide) (Kn.cons (.bl false) (Kn.cons (.int 1) (Kn.cons (.int 2) Kn.nil))) (.bl false) (by simp) rfl) (Bads.cons (.strange (tb6 _ _ upd_same) (by show 3 ≤ 3; decide) (by show 3 ≤ 1000; decide) (Kn.cons (.lst (tb5 _ _ upd_same)) (Kn.cons (.int 1) (Kn.cons (.int 2) Kn.nil))) (.ref b5) (by simp) rfl) (Bads.cons (.twice (l := [0, 1, 2, 2]) (tb7 _ _ upd_same) (by show 3 ≤ 4; decide) (by show 4 ≤ 1000; decide) (not_dup 2 3 (by decide) (by decide) (by decide) (by decide))) (Bads.cons (.twice (l := [2, 0, 0, 1]) (tb8 _ _ upd_same) (by show 3 ≤ 4; decide) (by show 4 ≤ 1000; decide) (not_dup 1 2 (by decide) (by decide) (by decide) (by decide))) Bads.nil)))))))
      exact ⟨r, _, rfl, (ST.same tb0).same hn, upd_same, bz.same hn, by rw [List.length_append, xl]; rfl⟩
    clear ST hp bx xl
    rintro σ H6 ⟨r, xs, rfl, ST, hx, bx, xl⟩
    obtain ⟨rgc, t20, tlt⟩ := rg63 row.length (by omega) n3
    refine ⟨_, rfl, _, rfl, _, _, _, rfl, rfl, by decide, by decide, rfl, _, _, rfl, rfl, 0, (row.length : Int), 1 + (row.length : Int) / 6, turns row.length, rfl, rgc, for_rangeC (fun i σ H' => ∃ (v8 v9 : Option V) (xs : List V), σ = [some (.ref a), some (.int f), some (.ref du), v3, some (.ref q), some (.ref k), some (.int (row.length : Int)), some (.ref r), v8, v9, none, none, none] ∧ Stay (hide H' r) q k du d0 d1 d2 row ∧ H' r = some (.lst xs) ∧ Bads (hide H' r) xs ∧ xs.length = 20 + i)
      ⟨none, none, xs, rfl, ST, hx, bx, xl⟩ ?_ ?_⟩
    · clear ST hx bx xl
      rintro i σ H7 hi ⟨v8, v9, xs, rfl, ST, hx, bx, xl⟩
      have alt := tlt i hi
      obtain ⟨at_, eat⟩ : ∃ at_ : Nat, at_ = i * (1 + row.length / 6) := ⟨_, rfl⟩
      rw [← eat] at alt
      have eat' : (0 : Int) + (i : Nat) * (1 + (row.length : Int) / 6) = (at_ : Int) := by
        rw [eat]
        push_cast
        omega
      rw [eat']
      refine ⟨fun σ H' => ∃ v : V, σ = [some (.ref a), some (.int f), some (.ref du), v3, some (.ref q), some (.ref k), some (.int (row.length : Int)), some (.ref r), some (.int (at_ : Int)), some v, none, none, none] ∧ Stay (hide H' r) q k du d0 d1 d2 row ∧ H' r = some (.lst xs) ∧ Bads (hide H' r) xs ∧ Odd (hide H' r) (row.length : Int) v, ?_, ?_⟩
      · refine ⟨(by show 1 ≤ sizeLine; decide), fun u1 g1 => ⟨(by show 1 ≤ sizeLine; decide), fun u2 g2 => fun u3 g3 => ?_⟩⟩
        have z1 := same_new (Same.refl _) g1 (o := .lst [.int 1])
        have z2 := same_new (Same.refl _) g2 (o := .tup [.int 2])
        have z3 := same_new (Same.refl _) g3 (o := .dK [])
        refine ⟨_, rfl, _, rfl, _, _, rfl, rfl, _, rfl, _, rfl, _, _, rfl, rfl, (by show 8 ≤ sizeLine; decide), fun t g4 => ?_⟩
        have z4 := same_new (Same.refl _) g4 (o := .tup [.non, .str "1", .bl true, .ref u1, .ref u2, .ref u3, .int ((row.length : Int) + f), .int (-1 - f)])
        have z34 := Same.trans z3 z4
        have z24 := Same.trans z2 z34
        have z14 := Same.trans z1 z24
        have ne1 : u1 ≠ r := Ne.symm (ne_of_none hx g1)
        have ne2 : u2 ≠ r := Ne.symm (ne_of_none (z1 _ _ hx) g2)
        have ne3 : u3 ≠ r := Ne.symm (ne_of_none (z2 _ _ (z1 _ _ hx)) g3)
        obtain ⟨v, hv, od⟩ := strange8 (n := (row.length : Int)) f0 (hide_at ne1 (z24 _ _ upd_same)) (hide_at ne2 (z34 _ _ upd_same)) (hide_at ne3 (z4 _ _ upd_same)) ("1" : Str) (at_ % 8) (Nat.mod_lt _ (by decide))
        have em : (at_ : Int) % 8 = ((at_ % 8 : Nat) : Int) := by omega
        refine ⟨_, rfl, _, _, _, rfl, rfl, by decide, em, t, _, _, v, rfl, rfl, .inl (Rd.of upd_same), atI_nat hv, ?_⟩
        have hs := hide_to (r := r) (fun b o _ e => z14 b o e)
        exact ⟨v, rfl, ST.same hs, z14 _ _ hx, bx.same hs, od⟩
      · clear ST hx bx
        rintro σ H8 ⟨v, rfl, ST, hx, bx, od⟩
        have hq := (ST.same hide_back).rq
        refine ⟨_, rfl, .inl ⟨rfl, _, SqL.of hx⟩, ?_⟩
        refine ⟨_, rfl, _, rfl, _, rfl, q, row, _, rfl, SqL.of hq.at_, cut_take row at_, fun c1 g1 => ?_⟩
        have z1 := same_new (Same.refl _) g1 (o := .lst (vi (row.take at_)))
        refine ⟨_, rfl, (by show 1 ≤ sizeLine; decide), fun c2 g2 => ?_⟩
        have z2 := same_new (Same.refl _) g2 (o := .lst [v])
        have hle : row.length ≤ 63 := n63
        refine ⟨c1, c2, _, _, rfl, rfl, z2 _ _ upd_same, upd_same, (by rw [vi_len, List.length_take, List.length_singleton]; exact size_le (by omega)), fun c3 g3 => ?_⟩
        have z3 := same_new (Same.refl _) g3 (o := .lst (vi (row.take at_) ++ [v]))
        refine ⟨_, rfl, _, rfl, _, _, rfl, rfl, _, rfl, q, row, _, rfl, SqL.of (z3 _ _ (z2 _ _ (z1 _ _ hq.at_))), cut_drop' row at_, fun c4 g4 => ?_⟩
        have z4 := same_new (Same.refl _) g4 (o := .lst (vi (row.drop (at_ + 1))))
        refine ⟨c3, c4, _, _, rfl, rfl, z4 _ _ upd_same, upd_same, (by rw [List.length_append, vi_len, vi_len, List.length_take, List.length_drop, List.length_singleton]; exact size_le (by omega)), fun c5 g5 => ?_⟩
        have z5 := same_new (Same.refl _) g5 (o := .lst (vi (row.take at_) ++ [v] ++ vi (row.drop (at_ + 1))))
        have z15 := Same.trans z1 (Same.trans z2 (Same.trans z3 (Same.trans z4 z5)))
        have ne5 : c5 ≠ r := Ne.symm (ne_of_none (Same.trans z1 (Same.trans z2 (Same.trans z3 z4)) _ _ hx) g5)
        refine ⟨r, _, _, rfl, rfl, z15 _ _ hx, (by rw [xl]; exact size_lt (by omega)), ?_⟩
        have hs := hide_to (r := r) (H' := upd (upd (upd (upd (upd (upd H8 c1 (.lst (vi (row.take at_)))) c2 (.lst [v])) c3 (.lst (vi (row.take at_) ++ [v]))) c4 (.lst (vi (row.drop (at_ + 1))))) c5 (.lst (vi (row.take at_) ++ [v] ++ vi (row.drop (at_ + 1))))) r (.lst (xs ++ [V.ref c5]))) (fun b o ne e => by rw [upd_ne ne]; exact z15 b o e)
        have bad := odd_row R (by omega) alt (od.same hs) (hide_at ne5 (by rw [upd_ne ne5]; exact upd_same))
        exact ⟨_, _, _, rfl, ST.same hs, upd_same, (bx.same hs).app (Bads.cons bad Bads.nil), by rw [List.length_append, xl]; rfl⟩
    clear ST hx bx xl
    rintro σ H7 ⟨v8, v9, xs, rfl, ST, hx, bx, xl⟩
    replace ST := ST.same hide_back
    replace bx := bx.same hide_back
    -- each door
    refine ⟨6, rfl, by decide, by decide, for_range0 (n := 6) (fun i σ H' => ∃ (v10 : Option V), σ = [some (.ref a), some (.int f), some (.ref du), v3, some (.ref q), some (.ref k), some (.int (row.length : Int)), some (.ref r), v8, v9, v10, none, none] ∧ Same H7 H')
      ⟨none, rfl, Same.refl _⟩ ?_ ?_⟩
    · rintro i σ H8 hi ⟨v10, rfl, s8⟩
      have ST8 := ST.same s8
      have hx8 := s8 _ _ hx
      have bx8 := bx.same s8
      refine ⟨_, rfl, r, rfl, ⟨_, SqL.of hx8⟩, fun D hD => lc_list (K := K) (a := r) (xs := xs) (fun i H2 => LI H8 D (fun _ => .bl true) i H2) (li_start (Same.refl H8) hD) (fun i H2 _ L => SqL.of (L.s _ _ hx8)) ?_ ?_⟩
      · rintro j x H9 hj L
        have bj := bx8 x (List.mem_of_getElem? hj)
        have hj' := (List.getElem?_eq_some_iff.mp hj).1
        refine ⟨rfl, _, rfl, _, rfl, .inl ⟨(i : Int), x, rfl, bj.same L.s, fun H10 l s10 hl => ?_⟩⟩
        have ST10 := (ST8.same L.s).same s10
        refine ⟨_, rfl, du, _, 0, .ref d0, rfl, rfl, SqL.of ST10.hdu, rfl, _, _, .lst (SqL.of hl) (dp_kinds _ _ _ _ _), .lst (SqL.of ST10.h0) (dp_kinds _ _ _ _ _), shaped_kinds _ _ _, shaped_kinds _ _ _, ?_⟩
        rw [eqv_kinds]
        exact li_step L s10 hD (by omega) rfl
      intro H9 L
      refine ⟨D, _, rfl, SqL.of (li_bls L), fun c hc => ⟨_, rfl, ?_⟩⟩
      have ec : c = true := hc.mpr fun b hb => by
        obtain ⟨_, _, rfl⟩ := List.mem_map.mp hb
        rfl
      subst ec
      exact ite_not (fun z => nomatch z) fun _ => ⟨_, rfl, Same.trans s8 L.s⟩
    rintro σ H8 ⟨v10, rfl, s8⟩
    replace ST := ST.same s8
    clear hx bx s8 xl
    -- no exchanges
    refine ⟨fun σ H' => ∃ (r : Addr) (xs : List V), σ = [some (.ref a), some (.int f), some (.ref du), v3, some (.ref q), some (.ref k), some (.int (row.length : Int)), some (.ref r), v8, v9, v10, none, none] ∧ Stay (hide H' r) q k du d0 d1 d2 row ∧ H' r = some (.lst xs) ∧ BadsS (hide H' r) (row.length : Int) xs ∧ xs.length = 14, ?_, ?_⟩
    · skip
      refine ⟨(by show 0 ≤ sizeLine; decide), fun c1 gc1 => ?_⟩
      have sc1 := same_new (Same.refl _) gc1 (o := .tup [])
      refine ⟨(by show 1 ≤ sizeLine; decide), fun c2 gc2 => ?_⟩
      have sc2 := same_new (Same.refl _) gc2 (o := .tup [.int 0])
      refine fun c3 gc3 => ?_
      have sc3 := same_new (Same.refl _) gc3 (o := .dK [])
      refine ⟨(by show 1 ≤ sizeLine; decide), fun c4 gc4 => ?_⟩
      have sc4 := same_new (Same.refl _) gc4 (o := .lst [.non])
      refine ⟨(by show 1 ≤ sizeLine; decide), fun c5 gc5 => ?_⟩
      have sc5 := same_new (Same.refl _) gc5 (o := .lst [.str "0"])
      refine ⟨(by show 1 ≤ sizeLine; decide), fun c6 gc6 => ?_⟩
      have sc6 := same_new (Same.refl _) gc6 (o := .lst [.bl true])
      refine ⟨(by show 2 ≤ sizeLine; decide), fun c7 gc7 => ?_⟩
      have sc7 := same_new (Same.refl _) gc7 (o := .lst [.int 0, .bl false])
      refine ⟨(by show 1 ≤ sizeLine; decide), fun c8 gc8 => ?_⟩
      have sc8 := same_new (Same.refl _) gc8 (o := .lst [.int 0])
      refine ⟨(by show 1 ≤ sizeLine; decide), fun c9 gc9 => ?_⟩
      have sc9 := same_new (Same.refl _) gc9 (o := .lst [.ref c8])
      refine ⟨_, rfl, (by show 1 ≤ sizeLine; decide), fun c10 gc10 => ?_⟩
      have sc10 := same_new (Same.refl _) gc10 (o := .lst [.int (-1)])
      refine ⟨_, rfl, _, rfl, _, _, rfl, rfl, (by show 2 ≤ sizeLine; decide), fun c11 gc11 => ?_⟩
      have sc11 := same_new (Same.refl _) gc11 (o := .lst [.int 0, .int (-1 - f)])
      refine ⟨_, rfl, (by show 1 ≤ sizeLine; decide), fun c12 gc12 => ?_⟩
      have sc12 := same_new (Same.refl _) gc12 (o := .lst [.int (row.length : Int)])
      have tc11 := Same.trans sc12 (Same.refl _)
      refine ⟨(by show 14 ≤ sizeLine; decide), fun cL gcL => ?_⟩
      have tc10 := Same.trans sc11 tc11
      have tc9 := Same.trans sc10 tc10
      have tc8 := Same.trans sc9 tc9
      have tc7 := Same.trans sc8 tc8
      have tc6 := Same.trans sc7 tc7
      have tc5 := Same.trans sc6 tc6
      have tc4 := Same.trans sc5 tc5
      have tc3 := Same.trans sc4 tc4
      have tc2 := Same.trans sc3 tc3
      have tc1 := Same.trans sc2 tc2
      have tc0 := Same.trans sc1 tc1
      have hn := hide_new (o := .lst [.non, .ref c1, .ref c2, .str "0", .ref c3, .int 5, .ref c4, .ref c5, .ref c6, .ref c7, .ref c9, .ref c10, .ref c11, .ref c12]) gcL
      have tn := Same.trans tc0 hn
      exact ⟨cL, _, rfl, ST.same tn, upd_same, BadsS.same (BadsS.cons (.no .non rfl) (BadsS.cons (.no (.tup (tc1 _ _ upd_same)) rfl) (BadsS.cons (.no (.tup (tc2 _ _ upd_same)) rfl) (BadsS.cons (.no (.str _) rfl) (BadsS.cons (.no (.dic (tc3 _ _ upd_same)) rfl) (BadsS.cons (.no (.int 5) rfl) (BadsS.cons (.out (tc4 _ _ upd_same) (by show 1 ≤ 1000; decide) (Kn.cons (.non) Kn.nil) .non (by simp) (.inl rfl)) (BadsS.cons (.out (tc5 _ _ upd_same) (by show 1 ≤ 1000; decide) (Kn.cons (.str _) Kn.nil) (.str "0") (by simp) (.inl rfl)) (BadsS.cons (.out (tc6 _ _ upd_same) (by show 1 ≤ 1000; decide) (Kn.cons (.bl true) Kn.nil) (.bl true) (by simp) (.inl rfl)) (BadsS.cons (.out (tc7 _ _ upd_same) (by show 2 ≤ 1000; decide) (Kn.cons (.int 0) (Kn.cons (.bl false) Kn.nil)) (.bl false) (by simp) (.inl rfl)) (BadsS.cons (.out (tc9 _ _ upd_same) (by show 1 ≤ 1000; decide) (Kn.cons (.lst (tc8 _ _ upd_same)) Kn.nil) (.ref c8) (by simp) (.inl rfl)) (BadsS.cons (.out (tc10 _ _ upd_same) (by show 1 ≤ 1000; decide) (Kn.cons (.int (-1)) Kn.nil) (.int (-1)) (by simp) (.inr ⟨-1, rfl, by omega⟩)) (BadsS.cons (.out (tc11 _ _ upd_same) (by show 2 ≤ 1000; decide) (Kn.cons (.int 0) (Kn.cons (.int (-1 - f)) Kn.nil)) (.int (-1 - f)) (by simp) (.inr ⟨-1 - f, rfl, by omega⟩)) (BadsS.cons (.out upd_same (by show 1 ≤ 1000; decide) (Kn.cons (.int (row.length : Int)) Kn.nil) (.int (row.length : Int)) (by simp) (.inr ⟨_, rfl, by omega⟩)) BadsS.nil)))))))))))))) hn, rfl⟩
    clear ST
    rintro σ H9 ⟨r, xs, rfl, ST, hx, bx, xl⟩
    refine ⟨fun σ H' => ∃ (xs : List V), σ = [some (.ref a), some (.int f), some (.ref du), v3, some (.ref q), some (.ref k), some (.int (row.length : Int)), some (.ref r), v8, v9, v10, none, none] ∧ Stay H' q k du d0 d1 d2 row ∧ H' r = some (.lst xs) ∧ BadsS H' (row.length : Int) xs ∧ xs.length = 15, ?_, ?_⟩
    · refine ⟨_, rfl, .inl ⟨rfl, _, SqL.of hx⟩, _, rfl, _, rfl, _, _, rfl, rfl, (by show 1 ≤ sizeLine; decide), fun u g => ?_⟩
      have z1 := same_new (Same.refl _) g (o := .lst [.int ((row.length : Int) + f)])
      refine ⟨r, _, _, rfl, rfl, z1 _ _ hx, (by rw [xl]; exact size_lt (by decide)), ?_⟩
      have ne : u ≠ r := Ne.symm (ne_of_none hx g)
      have hs := hide_to (r := r) (H' := upd (upd H9 u (.lst [.int ((row.length : Int) + f)])) r (.lst (xs ++ [V.ref u]))) (fun b o ne e => by rw [upd_ne ne]; exact z1 b o e)
      have bad : BadS (hide (upd (upd H9 u (.lst [.int ((row.length : Int) + f)])) r (.lst (xs ++ [V.ref u]))) r) (row.length : Int) (.ref u) :=
        .out (hide_at ne (by rw [upd_ne ne]; exact upd_same)) (by show 1 ≤ 1000; decide) (Kn.cons (.int _) Kn.nil) (.int ((row.length : Int) + f)) (by simp) (.inr ⟨_, rfl, by omega⟩)
      exact ⟨_, rfl, (ST.same hs).same hide_back, upd_same, ((bx.same hs).app (BadsS.cons bad BadsS.nil)).same hide_back, by rw [List.length_append, xl]; rfl⟩
    clear ST hx bx xl
    rintro σ H9 ⟨xs, rfl, ST, hx, bx, xl⟩
    refine ⟨_, rfl, r, rfl, ⟨_, SqL.of hx⟩, fun D hD => lc_list (K := K) (a := r) (xs := xs) (fun i H2 => LI H9 D (fun _ => .bl true) i H2) (li_start (Same.refl H9) hD) (fun i H2 _ L => SqL.of (L.s _ _ hx)) ?_ ?_⟩
    · rintro j x H10 hj L
      have bj := bx x (List.mem_of_getElem? hj)
      have hj' := (List.getElem?_eq_some_iff.mp hj).1
      refine ⟨rfl, _, rfl, _, rfl, .inr (.inl ⟨q, row, x, rfl, (ST.same L.s).rq, bj.same L.s, fun H11 l s11 hl => ?_⟩)⟩
      have ST11 := (ST.same L.s).same s11
      refine ⟨_, rfl, du, _, 1, .ref d1, rfl, rfl, SqL.of ST11.hdu, rfl, _, _, .lst (SqL.of hl) (dp_kinds _ _ _ _ _), .lst (SqL.of ST11.h1) (dp_kinds _ _ _ _ _), shaped_kinds _ _ _, shaped_kinds _ _ _, ?_⟩
      rw [eqv_kinds]
      exact li_step L s11 hD (by omega) rfl
    intro H10 L
    refine ⟨D, _, rfl, SqL.of (li_bls L), fun c hc => ⟨_, rfl, ?_⟩⟩
    have ec : c = true := hc.mpr fun b hb => by
      obtain ⟨_, _, rfl⟩ := List.mem_map.mp hb
      rfl
    subst ec
    refine ite_not (fun z => nomatch z) fun _ => ?_
    replace ST := ST.same L.s
    clear hx bx hc
    -- rows of other counts
    have g0 := Int.emod_nonneg f (show (5 : Int) ≠ 0 by decide)
    have g1 := Int.emod_lt_of_pos f (show (0 : Int) < 5 by decide)
    obtain ⟨m2, em2⟩ : ∃ m2 : Nat, (row.length : Int) + 2 + f % 5 = m2 := ⟨((row.length : Int) + 2 + f % 5).toNat, by omega⟩
    refine ⟨fun σ H' => ∃ (o : Addr) (xs : List V), σ = [some (.ref a), some (.int f), some (.ref du), v3, some (.ref q), some (.ref k), some (.int (row.length : Int)), some (.ref r), v8, v9, v10, some (.ref o), none] ∧ Stay (hide H' o) q k du d0 d1 d2 row ∧ H' o = some (.lst xs) ∧ (∀ x ∈ xs, ∃ b m, x = .ref b ∧ Rw (hide H' o) b m ∧ row.length ≠ m.length) ∧ xs.length = 3, ?_, ?_⟩
    · refine ⟨_, rfl, _, rfl, (by show 1 ≤ sizeLine; decide), fun u1 e1 => ?_⟩
      have z1 := same_new (Same.refl _) e1 (o := .lst [.int (row.length : Int)])
      refine ⟨q, u1, row, [(row.length : Int)], rfl, rfl, z1 _ _ ST.rq.at_, upd_same, (by show row.length + 1 ≤ 100000; omega), fun u2 e2 => ?_⟩
      have z2 := same_new (Same.refl _) e2 (o := .lst (vi (row ++ [(row.length : Int)])))
      have ex : (row.length : Int) + 1 = ((row.length + 1 : Nat) : Int) := by omega
      refine ⟨_, rfl, _, _, rfl, rfl, _, congrArg V.int ex, rgOk_n (by omega), fun u3 e3 => ?_⟩
      have z3 := same_new (Same.refl _) e3 (o := .lst (rgV 0 ((row.length + 1 : Nat) : Int)))
      refine ⟨u3, RS.ids (row.length + 1), 1, rfl, SqL.of (by rw [upd_same, rgV_ids]), by rw [RS.ids_len]; omega, by rw [RS.ids_len]; omega, fun H12 u4 s12 e4 h4 => ?_⟩
      refine ⟨_, rfl, _, _, rfl, rfl, _, rfl, _, _, _, rfl, rfl, by decide, rfl, _, _, rfl, rfl, _, congrArg V.int em2, rgOk_n (by omega), fun u5 e5 => ?_⟩
      have z5 := same_new (Same.refl _) e5 (o := .lst (rgV 0 (m2 : Int)))
      refine ⟨(by show 3 ≤ sizeLine; decide), fun o e6 => ?_⟩
      have hn := hide_new (o := .lst [.ref u2, .ref u4, .ref u5]) e6
      have za := Same.trans (Same.trans z3 s12) (Same.trans z5 hn)
      have zz := Same.trans (Same.trans z1 z2) za
      refine ⟨o, _, rfl, ST.same zz, upd_same, ?_, rfl⟩
      intro x hx
      rcases List.mem_cons.mp hx with rfl | hx
      · exact ⟨u2, _, rfl, ⟨za _ _ upd_same, isRow_succ R, by rw [List.length_append, List.length_singleton]; omega⟩, by rw [List.length_append, List.length_singleton]; omega⟩
      rcases List.mem_cons.mp hx with rfl | hx
      · exact ⟨u4, _, rfl, ⟨Same.trans z5 hn _ _ h4, (RS.isRow_ids (by omega)).rot _, by rw [RS.rot_len, RS.ids_len]; omega⟩, by rw [RS.rot_len, RS.ids_len]; omega⟩
      · rw [List.mem_singleton.mp hx]
        exact ⟨u5, RS.ids m2, rfl, ⟨hn _ _ (by rw [upd_same, rgV_ids]), RS.isRow_ids (by omega), by rw [RS.ids_len]; omega⟩, by rw [RS.ids_len]; omega⟩
    clear ST
    rintro σ H11 ⟨o, ys, rfl, ST, hy, by_, yl⟩
    refine ⟨fun σ H' => ∃ (ys : List V), σ = [some (.ref a), some (.int f), some (.ref du), v3, some (.ref q), some (.ref k), some (.int (row.length : Int)), some (.ref r), v8, v9, v10, some (.ref o), none] ∧ Stay H' q k du d0 d1 d2 row ∧ H' o = some (.lst ys) ∧ (∀ x ∈ ys, ∃ b m, x = .ref b ∧ Rw H' b m ∧ row.length ≠ m.length) ∧ ys.length ≤ 4, ?_, ?_⟩
    · refine ⟨_, rfl, _, _, rfl, rfl, _, rfl, ?_⟩
      refine ite_d (fun gt => ?_) fun _ => ?_
      · have ex : (row.length : Int) - 1 = ((row.length - 1 : Nat) : Int) := by omega
        refine ⟨_, rfl, .inl ⟨rfl, _, SqL.of hy⟩, _, rfl, _, _, rfl, rfl, _, congrArg V.int ex, rgOk_n (by omega), fun u e => ?_⟩
        have z1 := same_new (Same.refl _) e (o := .lst (rgV 0 ((row.length - 1 : Nat) : Int)))
        refine ⟨o, _, _, rfl, rfl, z1 _ _ hy, (by rw [yl]; exact size_lt (by decide)), ?_⟩
        have ne : u ≠ o := Ne.symm (ne_of_none hy e)
        have hs := hide_to (r := o) (H' := upd (upd H11 u (.lst (rgV 0 ((row.length - 1 : Nat) : Int)))) o (.lst (ys ++ [V.ref u]))) (fun b o ne e => by rw [upd_ne ne]; exact z1 b o e)
        refine ⟨_, rfl, (ST.same hs).same hide_back, upd_same, fun x hx => ?_, by rw [List.length_append, yl]; exact Nat.le_refl 4⟩
        rcases List.mem_append.mp hx with hx | hx
        · obtain ⟨b, m, e1, e2, e3⟩ := by_ x hx
          exact ⟨b, m, e1, (e2.same hs).same hide_back, e3⟩
        · rw [List.mem_singleton.mp hx]
          exact ⟨u, RS.ids (row.length - 1), rfl, ⟨by rw [upd_ne ne, upd_same, rgV_ids], RS.isRow_ids (by omega), by rw [RS.ids_len]; omega⟩, by rw [RS.ids_len]; omega⟩
      · exact ⟨_, rfl, ST.same hide_back, hy, fun x hx => by
          obtain ⟨b, m, e1, e2, e3⟩ := by_ x hx
          exact ⟨b, m, e1, e2.same hide_back, e3⟩, by omega⟩
    clear ST hy by_ yl
    rintro σ H12 ⟨ys, rfl, ST, hy, by_, yl⟩
    refine ⟨(by show 2 ≤ sizeLine; decide), fun t ht => ?_⟩
    have zt := same_new (Same.refl H12) ht (o := .tup [.int 0, .int 1])
    obtain ⟨H13, e13⟩ : ∃ H13, H13 = upd H12 t (.tup [.int 0, .int 1]) := ⟨_, rfl⟩
    have ht' : (upd H12 t (.tup [.int 0, .int 1])) t = some (.tup [.int 0, .int 1]) := upd_same
    rw [← e13] at zt ht' ⊢
    replace ST := ST.same zt
    replace hy := zt _ _ hy
    have by' : ∀ x ∈ ys, ∃ b m, x = .ref b ∧ Rw H13 b m ∧ row.length ≠ m.length := fun x hx => by
      obtain ⟨b, m, e1, e2, e3⟩ := by_ x hx
      exact ⟨b, m, e1, e2.same zt, e3⟩
    refine ⟨t, rfl, ⟨_, .inl (Rd.of ht')⟩, for_tup (K := K) (a := t) (xs := [.int 0, .int 1]) (fun i σ H' => ∃ v10 : Option V, σ = [some (.ref a), some (.int f), some (.ref du), v3, some (.ref q), some (.ref k), some (.int (row.length : Int)), some (.ref r), v8, v9, v10, some (.ref o), none] ∧ Same H13 H')
      ⟨_, rfl, Same.refl _⟩ (fun i σ H' _ ⟨_, _, s'⟩ => .inl (Rd.of (s' _ _ ht'))) ?_ ?_⟩
    · rintro i y σ H14 hi ⟨v10', rfl, s14⟩
      obtain ⟨dd, rfl⟩ : ∃ dd : Int, y = .int dd := by
        match i, hi with
        | 0, hi => exact ⟨0, by simpa using hi.symm⟩
        | 1, hi => exact ⟨1, by simpa using hi.symm⟩
        | i + 2, hi => simp at hi
      have ST14 := ST.same s14
      have hy14 := s14 _ _ hy
      refine ⟨_, rfl, o, rfl, ⟨_, SqL.of hy14⟩, fun D hD => lc_list (K := K) (a := o) (xs := ys) (fun i H2 => LI H14 D (fun _ => .bl true) i H2) (li_start (Same.refl H14) hD) (fun i H2 _ L => SqL.of (L.s _ _ hy14)) ?_ ?_⟩
      · rintro j x H15 hj L
        obtain ⟨b, m, rfl, Rb, ne⟩ := by' x (List.mem_of_getElem? hj)
        have hj' := (List.getElem?_eq_some_iff.mp hj).1
        refine ⟨rfl, _, rfl, _, rfl, _, rfl, (by show 2 ≤ sizeLine; decide), fun pr hpr => ?_⟩
        have zp := same_new (Same.refl _) hpr (o := .tup [.int dd, .ref b])
        have sl := Same.trans L.s zp
        refine .inr (.inr ⟨q, row, pr, b, dd, m, rfl, (ST14.same sl).rq, upd_same, (Rb.same s14).same sl, ne, fun H16 l s16 hl => ?_⟩)
        have ST16 := (ST14.same sl).same s16
        refine ⟨_, rfl, du, _, 2, .ref d2, rfl, rfl, SqL.of ST16.hdu, rfl, _, _, .lst (SqL.of hl) (dp_kinds _ _ _ _ _), .lst (SqL.of ST16.h2) (dp_kinds _ _ _ _ _), shaped_kinds _ _ _, shaped_kinds _ _ _, ?_⟩
        rw [eqv_kinds]
        exact li_step L (Same.trans zp s16) hD (by omega) rfl
      intro H15 L
      refine ⟨D, _, rfl, SqL.of (li_bls L), fun c hc => ⟨_, rfl, ?_⟩⟩
      have ec : c = true := hc.mpr fun b hb => by
        obtain ⟨_, _, rfl⟩ := List.mem_map.mp hb
        rfl
      subst ec
      exact ite_not (fun z => nomatch z) fun _ => ⟨_, rfl, Same.trans s14 L.s⟩
    rintro σ H14 ⟨v10', rfl, s14⟩
    replace ST := ST.same s14
    have hd1000 : row.length ≤ 1000 := by omega
    -- rows stay
    refine ⟨_, rfl, _, rfl, q, k, row, row, rfl, rfl, SqL.of ST.rq.at_, SqL.of ST.hk, fun c1 hc1 => ⟨_, rfl, ?_⟩⟩
    have e1 : c1 = true := hc1.mpr rfl
    subst e1
    refine iteT ?_
    refine ⟨_, rfl, Nat.zero_le _, fun em hem => ?_⟩
    have zm := same_new (Same.refl _) hem (o := .lst [])
    refine ⟨q, em, row, [], rfl, zm _ _ ST.rq.at_, upd_same, R, hd1000, Nat.zero_le _, (fun y hy => nomatch hy), fun H15 g s15 g0 hg => ?_⟩
    have ST15 := (ST.same zm).same s15
    refine ⟨_, rfl, g, k, row, row, rfl, rfl, SqL.of hg, SqL.of ST15.hk, fun c2 hc2 => ⟨_, rfl, ?_⟩⟩
    have e2 : c2 = true := hc2.mpr rfl
    subst e2
    refine iteT ?_
    refine ⟨_, rfl, _, rfl, _, _, rfl, rfl, _, rfl, _, _, rfl, rfl, (by show 2 ≤ sizeLine; decide), fun em2 hem2 => ?_⟩
    have zm2 := same_new (Same.refl _) hem2 (o := .lst [.int ((row.length : Int) - 1), .int ((row.length : Int) - 1)])
    refine ⟨q, em2, row, [(row.length : Int) - 1, (row.length : Int) - 1], rfl, zm2 _ _ ST15.rq.at_, upd_same, R, hd1000, (by show 2 ≤ 10000; decide), (fun y hy => ?_), fun H16 g2 s16 g20 hg2 => ?_⟩
    · have ey : y = (row.length : Int) - 1 := by
        rcases List.mem_cons.mp hy with h | h
        · exact h
        · exact List.mem_singleton.mp h
      rw [ey]
      omega
    have ST16 := (ST15.same zm2).same s16
    rw [done_twice R] at hg2
    refine ⟨_, rfl, g2, k, row, row, rfl, rfl, SqL.of hg2, SqL.of ST16.hk, fun c3 hc3 => ?_⟩
    have e3 : c3 = true := hc3.mpr rfl
    subst e3
    exact kq _
end
end Toy
set_option Elab.async false
set_option linter.all false
set_option maxRecDepth 100000
namespace Toy
open PySem L2
/-! ### what the top has left, the end -/
theorem all_mk {l : PySem.W.OpenLaw} {w : World} {K : PySem.W.Frag} {h : Heap} {mg : Str → Option Value} {fa C f0 f1 f2 f3 f4 f5 f6 f7 f8 f9 f10 f11 f12 f13 f14 f15 f16 f17 f18 f19 f20 f21 f22 f23 f24 f25 f26 SS CBadRow CBadSwaps CUnlike : Addr} (X : K.In h) (G : h.Ns mainGlobals mg) (hfa : mg "law" = some (.ref fa))
    {od0 an0 : Option Addr} {sl0 : Array (Option Value)} {oc0 kV0 dc0 pm0 cd0 ct0 : Value}
    {od1 an1 : Option Addr} {sl1 : Array (Option Value)} {oc1 kV1 dc1 pm1 cd1 ct1 : Value}
    {od2 an2 : Option Addr} {sl2 : Array (Option Value)} {oc2 kV2 dc2 pm2 cd2 ct2 : Value}
    {od3 an3 : Option Addr} {sl3 : Array (Option Value)} {oc3 kV3 dc3 pm3 cd3 ct3 : Value}
    {od4 an4 : Option Addr} {sl4 : Array (Option Value)} {oc4 kV4 dc4 pm4 cd4 ct4 : Value}
    {od5 an5 : Option Addr} {sl5 : Array (Option Value)} {oc5 kV5 dc5 pm5 cd5 ct5 : Value}
    {od6 an6 : Option Addr} {sl6 : Array (Option Value)} {oc6 kV6 dc6 pm6 cd6 ct6 : Value}
    {od7 an7 : Option Addr} {sl7 : Array (Option Value)} {oc7 kV7 dc7 pm7 cd7 ct7 : Value}
    {od8 an8 : Option Addr} {sl8 : Array (Option Value)} {oc8 kV8 dc8 pm8 cd8 ct8 : Value}
    {od9 an9 : Option Addr} {sl9 : Array (Option Value)} {oc9 kV9 dc9 pm9 cd9 ct9 : Value}
    {od10 an10 : Option Addr} {sl10 : Array (Option Value)} {oc10 kV10 dc10 pm10 cd10 ct10 : Value}
    {od11 an11 : Option Addr} {sl11 : Array (Option Value)} {oc11 kV11 dc11 pm11 cd11 ct11 : Value}
    {od12 an12 : Option Addr} {sl12 : Array (Option Value)} {oc12 kV12 dc12 pm12 cd12 ct12 : Value}
    {od13 an13 : Option Addr} {sl13 : Array (Option Value)} {oc13 kV13 dc13 pm13 cd13 ct13 : Value}
    {od14 an14 : Option Addr} {sl14 : Array (Option Value)} {oc14 kV14 dc14 pm14 cd14 ct14 : Value}
    {od15 an15 : Option Addr} {sl15 : Array (Option Value)} {oc15 kV15 dc15 pm15 cd15 ct15 : Value}
    {od16 an16 : Option Addr} {sl16 : Array (Option Value)} {oc16 kV16 dc16 pm16 cd16 ct16 : Value}
    {od17 an17 : Option Addr} {sl17 : Array (Option Value)} {oc17 kV17 dc17 pm17 cd17 ct17 : Value}
    {od18 an18 : Option Addr} {sl18 : Array (Option Value)} {oc18 kV18 dc18 pm18 cd18 ct18 : Value}
    {od19 an19 : Option Addr} {sl19 : Array (Option Value)} {oc19 kV19 dc19 pm19 cd19 ct19 : Value}
    {od20 an20 : Option Addr} {sl20 : Array (Option Value)} {oc20 kV20 dc20 pm20 cd20 ct20 : Value}
    {od21 an21 : Option Addr} {sl21 : Array (Option Value)} {oc21 kV21 dc21 pm21 cd21 ct21 : Value}
    {od22 an22 : Option Addr} {sl22 : Array (Option Value)} {oc22 kV22 dc22 pm22 cd22 ct22 : Value}
    {od23 an23 : Option Addr} {sl23 : Array (Option Value)} {oc23 kV23 dc23 pm23 cd23 ct23 : Value}
    {od24 an24 : Option Addr} {sl24 : Array (Option Value)} {oc24 kV24 dc24 pm24 cd24 ct24 : Value}
    {od25 an25 : Option Addr} {sl25 : Array (Option Value)} {oc25 kV25 dc25 pm25 cd25 ct25 : Value}
    {od26 an26 : Option Addr} {sl26 : Array (Option Value)} {oc26 kV26 dc26 pm26 cd26 ct26 : Value}
    (aC : PySem.W.nsIn K mainGlobals "Brought" = some (some (.ref C))) (pg : PySem.W.plainGet K C Str.empty = true) (hd : PySem.W.hasDictIn K C = true) (po : PySem.W.plainOver K C = true) (sa : PySem.W.findIn K (.ref C) "__setattr__" = some (some (.builtin "object.__setattr__"))) (mk : PySem.W.makesIn K C = true) (kc : PySem.W.keepIn K (.ref C) = true)
    (nS : PySem.W.findIn K (.ref C) "swaps" = some none) (nW : PySem.W.findIn K (.ref C) "ways" = some none)
    (gSS : PySem.W.nsIn K mainGlobals "SwapError" = some (some (.ref SS))) (bSS : PySem.W.subIn K (.ref SS) (.type "BaseException") = some true) (dSS : PySem.W.hasDictIn K SS = true) (tSS : PySem.W.typeIn K (.ref SS) = some (.type "type"))
    (e_N : PySem.W.specialIn K (.builtin "object.__class__") "__get__" = some (some (.builtin "getset_descriptor.__get__"))) (e_T : PySem.W.takesIn K (.builtin "object.__class__") = some true)
    (e_g0 : PySem.W.nsIn K mainGlobals "BadRow" = some (some (.ref CBadRow))) (e_x0 : PySem.W.excIn K CBadRow [.type "ValueError", .type "Exception", .type "BaseException", .type "object"] "ValueError.__new__" = true) (e_p0 : PySem.W.keepIn K (.ref CBadRow) = true) (e_t0 : PySem.W.typeIn K (.ref CBadRow) = some (.type "type")) (e_s0 : PySem.W.subIn K (.ref CBadRow) (.ref SS) = some true)
    (e_hg0 : PySem.W.findIn K (.ref CBadRow) "__getattribute__" = some (some (.builtin "BaseException.__getattribute__"))) (e_hk0 : PySem.W.findIn K (.ref CBadRow) "__getattr__" = some none) (e_hs0 : PySem.W.subIn K (.ref CBadRow) (.type "BaseException") = some true) (e_hd0 : PySem.W.hasDictIn K CBadRow = true) (e_ha0 : PySem.W.findIn K (.ref CBadRow) "__class__" = some (some (.builtin "object.__class__"))) (e_hm0 : PySem.W.mroIn K CBadRow (.type "object") = some true) (e_hv0 : PySem.W.subIn K (.ref CBadRow) (.type "ValueError") = some true) (e_ic0 : PySem.W.isClsIn K CBadRow = true)
    (e_g1 : PySem.W.nsIn K mainGlobals "BadSwaps" = some (some (.ref CBadSwaps))) (e_x1 : PySem.W.excIn K CBadSwaps [.type "ValueError", .type "Exception", .type "BaseException", .type "object"] "ValueError.__new__" = true) (e_p1 : PySem.W.keepIn K (.ref CBadSwaps) = true) (e_t1 : PySem.W.typeIn K (.ref CBadSwaps) = some (.type "type")) (e_s1 : PySem.W.subIn K (.ref CBadSwaps) (.ref SS) = some true)
    (e_hg1 : PySem.W.findIn K (.ref CBadSwaps) "__getattribute__" = some (some (.builtin "BaseException.__getattribute__"))) (e_hk1 : PySem.W.findIn K (.ref CBadSwaps) "__getattr__" = some none) (e_hs1 : PySem.W.subIn K (.ref CBadSwaps) (.type "BaseException") = some true) (e_hd1 : PySem.W.hasDictIn K CBadSwaps = true) (e_ha1 : PySem.W.findIn K (.ref CBadSwaps) "__class__" = some (some (.builtin "object.__class__"))) (e_hm1 : PySem.W.mroIn K CBadSwaps (.type "object") = some true) (e_hv1 : PySem.W.subIn K (.ref CBadSwaps) (.type "ValueError") = some true) (e_ic1 : PySem.W.isClsIn K CBadSwaps = true)
    (e_g2 : PySem.W.nsIn K mainGlobals "Unlike" = some (some (.ref CUnlike))) (e_x2 : PySem.W.excIn K CUnlike [.type "ValueError", .type "Exception", .type "BaseException", .type "object"] "ValueError.__new__" = true) (e_p2 : PySem.W.keepIn K (.ref CUnlike) = true) (e_t2 : PySem.W.typeIn K (.ref CUnlike) = some (.type "type")) (e_s2 : PySem.W.subIn K (.ref CUnlike) (.ref SS) = some true)
    (e_hg2 : PySem.W.findIn K (.ref CUnlike) "__getattribute__" = some (some (.builtin "BaseException.__getattribute__"))) (e_hk2 : PySem.W.findIn K (.ref CUnlike) "__getattr__" = some none) (e_hs2 : PySem.W.subIn K (.ref CUnlike) (.type "BaseException") = some true) (e_hd2 : PySem.W.hasDictIn K CUnlike = true) (e_ha2 : PySem.W.findIn K (.ref CUnlike) "__class__" = some (some (.builtin "object.__class__"))) (e_hm2 : PySem.W.mroIn K CUnlike (.type "object") = some true) (e_hv2 : PySem.W.subIn K (.ref CUnlike) (.type "ValueError") = some true) (e_ic2 : PySem.W.isClsIn K CUnlike = true)
    (e_q00 : PySem.W.subIn K (.ref CBadRow) (.ref CBadRow) = some true)
    (e_q01 : PySem.W.subIn K (.ref CBadRow) (.ref CBadSwaps) = some false)
    (e_q02 : PySem.W.subIn K (.ref CBadRow) (.ref CUnlike) = some false)
    (e_q10 : PySem.W.subIn K (.ref CBadSwaps) (.ref CBadRow) = some false)
    (e_q11 : PySem.W.subIn K (.ref CBadSwaps) (.ref CBadSwaps) = some true)
    (e_q12 : PySem.W.subIn K (.ref CBadSwaps) (.ref CUnlike) = some false)
    (e_q20 : PySem.W.subIn K (.ref CUnlike) (.ref CBadRow) = some false)
    (e_q21 : PySem.W.subIn K (.ref CUnlike) (.ref CBadSwaps) = some false)
    (e_q22 : PySem.W.subIn K (.ref CUnlike) (.ref CUnlike) = some true)
    (a0 : PySem.W.nsIn K mainGlobals "is_whole" = some (some (.ref f0))) (l0 : K.lookup f0 = some ⟨oc0, od0, .func (PySem.W.fnOf "is_whole" "is_whole" (defArgs s_is_whole) (defBody s_is_whole) (defScope s_is_whole) .none kV0 dc0 pm0 an0 cd0 ct0), sl0⟩) (c0 : PySem.W.codeIn K cd0 "is_whole" = true) (k0 : PySem.W.keepIn K (.ref f0) = true)
    (a1 : PySem.W.nsIn K mainGlobals "check_row" = some (some (.ref f1))) (l1 : K.lookup f1 = some ⟨oc1, od1, .func (PySem.W.fnOf "check_row" "check_row" (defArgs s_check_row) (defBody s_check_row) (defScope s_check_row) .none kV1 dc1 pm1 an1 cd1 ct1), sl1⟩) (c1 : PySem.W.codeIn K cd1 "check_row" = true) (k1 : PySem.W.keepIn K (.ref f1) = true)
    (a2 : PySem.W.nsIn K mainGlobals "are_places" = some (some (.ref f2))) (l2 : K.lookup f2 = some ⟨oc2, od2, .func (PySem.W.fnOf "are_places" "are_places" (defArgs s_are_places) (defBody s_are_places) (defScope s_are_places) .none kV2 dc2 pm2 an2 cd2 ct2), sl2⟩) (c2 : PySem.W.codeIn K cd2 "are_places" = true) (k2 : PySem.W.keepIn K (.ref f2) = true)
    (a3 : PySem.W.nsIn K mainGlobals "behind" = some (some (.ref f3))) (l3 : K.lookup f3 = some ⟨oc3, od3, .func (PySem.W.fnOf "behind" "behind" (defArgs s_behind) (defBody s_behind) (defScope s_behind) .none kV3 dc3 pm3 an3 cd3 ct3), sl3⟩) (c3 : PySem.W.codeIn K cd3 "behind" = true) (k3 : PySem.W.keepIn K (.ref f3) = true)
    (a4 : PySem.W.nsIn K mainGlobals "done" = some (some (.ref f4))) (l4 : K.lookup f4 = some ⟨oc4, od4, .func (PySem.W.fnOf "done" "done" (defArgs s_done) (defBody s_done) (defScope s_done) .none kV4 dc4 pm4 an4 cd4 ct4), sl4⟩) (c4 : PySem.W.codeIn K cd4 "done" = true) (k4 : PySem.W.keepIn K (.ref f4) = true)
    (a5 : PySem.W.findIn K (.ref C) "__init__" = some (some (.ref f5))) (i5 : PySem.W.isFn K (.ref f5) = true) (l5 : K.lookup f5 = some ⟨oc5, od5, .func (PySem.W.fnOf "__init__" "Brought.__init__" (defArgs s_B_init) (defBody s_B_init) (defScope s_B_init) .none kV5 dc5 pm5 an5 cd5 ct5), sl5⟩) (c5 : PySem.W.codeIn K cd5 "Brought.__init__" = true) (k5 : PySem.W.keepIn K (.ref f5) = true)
    (a6 : PySem.W.nsIn K mainGlobals "ways_of" = some (some (.ref f6))) (l6 : K.lookup f6 = some ⟨oc6, od6, .func (PySem.W.fnOf "ways_of" "ways_of" (defArgs s_ways_of) (defBody s_ways_of) (defScope s_ways_of) .none kV6 dc6 pm6 an6 cd6 ct6), sl6⟩) (c6 : PySem.W.codeIn K cd6 "ways_of" = true) (k6 : PySem.W.keepIn K (.ref f6) = true)
    (a7 : PySem.W.nsIn K mainGlobals "swaps_by" = some (some (.ref f7))) (l7 : K.lookup f7 = some ⟨oc7, od7, .func (PySem.W.fnOf "swaps_by" "swaps_by" (defArgs s_swaps_by) (defBody s_swaps_by) (defScope s_swaps_by) .none kV7 dc7 pm7 an7 cd7 ct7), sl7⟩) (c7 : PySem.W.codeIn K cd7 "swaps_by" = true) (k7 : PySem.W.keepIn K (.ref f7) = true)
    (a8 : PySem.W.nsIn K mainGlobals "way_of" = some (some (.ref f8))) (l8 : K.lookup f8 = some ⟨oc8, od8, .func (PySem.W.fnOf "way_of" "way_of" (defArgs s_way_of) (defBody s_way_of) (defScope s_way_of) .none kV8 dc8 pm8 an8 cd8 ct8), sl8⟩) (c8 : PySem.W.codeIn K cd8 "way_of" = true) (k8 : PySem.W.keepIn K (.ref f8) = true)
    (a9 : PySem.W.nsIn K mainGlobals "brought" = some (some (.ref f9))) (l9 : K.lookup f9 = some ⟨oc9, od9, .func (PySem.W.fnOf "brought" "brought" (defArgs s_brought) (defBody s_brought) (defScope s_brought) .none kV9 dc9 pm9 an9 cd9 ct9), sl9⟩) (c9 : PySem.W.codeIn K cd9 "brought" = true) (k9 : PySem.W.keepIn K (.ref f9) = true)
    (a10 : PySem.W.nsIn K mainGlobals "check_both" = some (some (.ref f10))) (l10 : K.lookup f10 = some ⟨oc10, od10, .func (PySem.W.fnOf "check_both" "check_both" (defArgs s_check_both) (defBody s_check_both) (defScope s_check_both) .none kV10 dc10 pm10 an10 cd10 ct10), sl10⟩) (c10 : PySem.W.codeIn K cd10 "check_both" = true) (k10 : PySem.W.keepIn K (.ref f10) = true)
    (a11 : PySem.W.nsIn K mainGlobals "named_by" = some (some (.ref f11))) (l11 : K.lookup f11 = some ⟨oc11, od11, .func (PySem.W.fnOf "named_by" "named_by" (defArgs s_named_by) (defBody s_named_by) (defScope s_named_by) .none kV11 dc11 pm11 an11 cd11 ct11), sl11⟩) (c11 : PySem.W.codeIn K cd11 "named_by" = true) (k11 : PySem.W.keepIn K (.ref f11) = true)
    (a12 : PySem.W.nsIn K mainGlobals "leading" = some (some (.ref f12))) (l12 : K.lookup f12 = some ⟨oc12, od12, .func (PySem.W.fnOf "leading" "leading" (defArgs s_leading) (defBody s_leading) (defScope s_leading) .none kV12 dc12 pm12 an12 cd12 ct12), sl12⟩) (c12 : PySem.W.codeIn K cd12 "leading" = true) (k12 : PySem.W.keepIn K (.ref f12) = true)
    (a13 : PySem.W.nsIn K mainGlobals "apart" = some (some (.ref f13))) (l13 : K.lookup f13 = some ⟨oc13, od13, .func (PySem.W.fnOf "apart" "apart" (defArgs s_apart) (defBody s_apart) (defScope s_apart) .none kV13 dc13 pm13 an13 cd13 ct13), sl13⟩) (c13 : PySem.W.codeIn K cd13 "apart" = true) (k13 : PySem.W.keepIn K (.ref f13) = true)
    (a14 : PySem.W.nsIn K mainGlobals "_law_cell_at" = some (some (.ref f14))) (l14 : K.lookup f14 = some ⟨oc14, od14, .func (PySem.W.fnOf "_law_cell_at" "_law_cell_at" (defArgs s_l_cell_at) (defBody s_l_cell_at) (defScope s_l_cell_at) .none kV14 dc14 pm14 an14 cd14 ct14), sl14⟩) (c14 : PySem.W.codeIn K cd14 "_law_cell_at" = true) (k14 : PySem.W.keepIn K (.ref f14) = true)
    (a15 : PySem.W.nsIn K mainGlobals "_law_draw" = some (some (.ref f15))) (l15 : K.lookup f15 = some ⟨oc15, od15, .func (PySem.W.fnOf "_law_draw" "_law_draw" (defArgs s_l_draw) (defBody s_l_draw) (defScope s_l_draw) .none kV15 dc15 pm15 an15 cd15 ct15), sl15⟩) (c15 : PySem.W.codeIn K cd15 "_law_draw" = true) (k15 : PySem.W.keepIn K (.ref f15) = true)
    (a16 : PySem.W.nsIn K mainGlobals "_law_number" = some (some (.ref f16))) (l16 : K.lookup f16 = some ⟨oc16, od16, .func (PySem.W.fnOf "_law_number" "_law_number" (defArgs s_l_number) (defBody s_l_number) (defScope s_l_number) .none kV16 dc16 pm16 an16 cd16 ct16), sl16⟩) (c16 : PySem.W.codeIn K cd16 "_law_number" = true) (k16 : PySem.W.keepIn K (.ref f16) = true)
    (a17 : PySem.W.nsIn K mainGlobals "_law_order" = some (some (.ref f17))) (l17 : K.lookup f17 = some ⟨oc17, od17, .func (PySem.W.fnOf "_law_order" "_law_order" (defArgs s_l_order) (defBody s_l_order) (defScope s_l_order) .none kV17 dc17 pm17 an17 cd17 ct17), sl17⟩) (c17 : PySem.W.codeIn K cd17 "_law_order" = true) (k17 : PySem.W.keepIn K (.ref f17) = true)
    (a18 : PySem.W.nsIn K mainGlobals "_law_turned" = some (some (.ref f18))) (l18 : K.lookup f18 = some ⟨oc18, od18, .func (PySem.W.fnOf "_law_turned" "_law_turned" (defArgs s_l_turned) (defBody s_l_turned) (defScope s_l_turned) .none kV18 dc18 pm18 an18 cd18 ct18), sl18⟩) (c18 : PySem.W.codeIn K cd18 "_law_turned" = true) (k18 : PySem.W.keepIn K (.ref f18) = true)
    (a19 : PySem.W.nsIn K mainGlobals "_law_done" = some (some (.ref f19))) (l19 : K.lookup f19 = some ⟨oc19, od19, .func (PySem.W.fnOf "_law_done" "_law_done" (defArgs s_l_done) (defBody s_l_done) (defScope s_l_done) .none kV19 dc19 pm19 an19 cd19 ct19), sl19⟩) (c19 : PySem.W.codeIn K cd19 "_law_done" = true) (k19 : PySem.W.keepIn K (.ref f19) = true)
    (a20 : PySem.W.nsIn K mainGlobals "_law_row" = some (some (.ref f20))) (l20 : K.lookup f20 = some ⟨oc20, od20, .func (PySem.W.fnOf "_law_row" "_law_row" (defArgs s_l_row) (defBody s_l_row) (defScope s_l_row) .none kV20 dc20 pm20 an20 cd20 ct20), sl20⟩) (c20 : PySem.W.codeIn K cd20 "_law_row" = true) (k20 : PySem.W.keepIn K (.ref f20) = true)
    (a21 : PySem.W.nsIn K mainGlobals "_law_kinds" = some (some (.ref f21))) (l21 : K.lookup f21 = some ⟨oc21, od21, .func (PySem.W.fnOf "_law_kinds" "_law_kinds" (defArgs s_l_kinds) (defBody s_l_kinds) (defScope s_l_kinds) .none kV21 dc21 pm21 an21 cd21 ct21), sl21⟩) (c21 : PySem.W.codeIn K cd21 "_law_kinds" = true) (k21 : PySem.W.keepIn K (.ref f21) = true)
    (a22 : PySem.W.nsIn K mainGlobals "_law_with_row" = some (some (.ref f22))) (l22 : K.lookup f22 = some ⟨oc22, od22, .func (PySem.W.fnOf "_law_with_row" "_law_with_row" (defArgs s_l_with_row) (defBody s_l_with_row) (defScope s_l_with_row) .none kV22 dc22 pm22 an22 cd22 ct22), sl22⟩) (c22 : PySem.W.codeIn K cd22 "_law_with_row" = true) (k22 : PySem.W.keepIn K (.ref f22) = true)
    (a23 : PySem.W.nsIn K mainGlobals "_law_with_swaps" = some (some (.ref f23))) (l23 : K.lookup f23 = some ⟨oc23, od23, .func (PySem.W.fnOf "_law_with_swaps" "_law_with_swaps" (defArgs s_l_with_swaps) (defBody s_l_with_swaps) (defScope s_l_with_swaps) .none kV23 dc23 pm23 an23 cd23 ct23), sl23⟩) (c23 : PySem.W.codeIn K cd23 "_law_with_swaps" = true) (k23 : PySem.W.keepIn K (.ref f23) = true)
    (a24 : PySem.W.nsIn K mainGlobals "_law_with_other" = some (some (.ref f24))) (l24 : K.lookup f24 = some ⟨oc24, od24, .func (PySem.W.fnOf "_law_with_other" "_law_with_other" (defArgs s_l_with_other) (defBody s_l_with_other) (defScope s_l_with_other) .none kV24 dc24 pm24 an24 cd24 ct24), sl24⟩) (c24 : PySem.W.codeIn K cd24 "_law_with_other" = true) (k24 : PySem.W.keepIn K (.ref f24) = true)
    (a25 : PySem.W.nsIn K mainGlobals "_law_told" = some (some (.ref f25))) (l25 : K.lookup f25 = some ⟨oc25, od25, .func (PySem.W.fnOf "_law_told" "_law_told" (defArgs s_l_told) (defBody s_l_told) (defScope s_l_told) .none kV25 dc25 pm25 an25 cd25 ct25), sl25⟩) (c25 : PySem.W.codeIn K cd25 "_law_told" = true) (k25 : PySem.W.keepIn K (.ref f25) = true)
    (a26 : PySem.W.nsIn K mainGlobals "law" = some (some (.ref f26))) (l26 : K.lookup f26 = some ⟨oc26, od26, .func (PySem.W.fnOf "law" "law" (defArgs s_law) (defBody s_law) (defScope s_law) .none kV26 dc26 pm26 an26 cd26 ct26), sl26⟩) (c26 : PySem.W.codeIn K cd26 "law" = true) (k26 : PySem.W.keepIn K (.ref f26) = true)
    (z_isinstance : PySem.W.nsIn K mainGlobals "isinstance" = some none)
    (z_int : PySem.W.nsIn K mainGlobals "int" = some none)
    (z_bool : PySem.W.nsIn K mainGlobals "bool" = some none)
    (z_sorted : PySem.W.nsIn K mainGlobals "sorted" = some none)
    (z_list : PySem.W.nsIn K mainGlobals "list" = some none)
    (z_len : PySem.W.nsIn K mainGlobals "len" = some none)
    (z_all : PySem.W.nsIn K mainGlobals "all" = some none)
    (z_range : PySem.W.nsIn K mainGlobals "range" = some none)
    (z_enumerate : PySem.W.nsIn K mainGlobals "enumerate" = some none)
    (z_max : PySem.W.nsIn K mainGlobals "max" = some none)
    (z_min : PySem.W.nsIn K mainGlobals "min" = some none)
    (z_ValueError : PySem.W.nsIn K mainGlobals "ValueError" = some none)
    : ∃ fd : FuncData, (∀ (s : Shared) (v : Value), BindsTo s fd ⟨[v], []⟩ [("_law_script", v)]) ∧ ∀ base : Heap, K.In base → base.Ns mainGlobals mg → FnOk l.prog w K mg base CX0 7 fa fd ["_law_script"] (sp_law K) := by
  have e := hfa.symm.trans (PySem.W.mg_of X G a26)
  cases e
  have F0 := fun_mk (st := s_is_whole) l0 c0 k0
  have b0 := F0.binds (ps := ["thing"]) fun _ _ _ _ _ _ us hl => match us, hl with | [_], _ => rfl
  have F1 := fun_mk (st := s_check_row) l1 c1 k1
  have b1 := F1.binds (ps := ["row"]) fun _ _ _ _ _ _ us hl => match us, hl with | [_], _ => rfl
  have F2 := fun_mk (st := s_are_places) l2 c2 k2
  have b2 := F2.binds (ps := ["swaps", "many"]) fun _ _ _ _ _ _ us hl => match us, hl with | [_, _], _ => rfl
  have F3 := fun_mk (st := s_behind) l3 c3 k3
  have b3 := F3.binds (ps := ["row", "swaps"]) fun _ _ _ _ _ _ us hl => match us, hl with | [_, _], _ => rfl
  have F4 := fun_mk (st := s_done) l4 c4 k4
  have b4 := F4.binds (ps := ["row", "swaps"]) fun _ _ _ _ _ _ us hl => match us, hl with | [_, _], _ => rfl
  have F5 := fun_mk (st := s_B_init) l5 c5 k5
  have b5 := F5.binds (ps := ["self", "swaps", "ways"]) fun _ _ _ _ _ _ us hl => match us, hl with | [_, _, _], _ => rfl
  have F6 := fun_mk (st := s_ways_of) l6 c6 k6
  have b6 := F6.binds (ps := ["row"]) fun _ _ _ _ _ _ us hl => match us, hl with | [_], _ => rfl
  have F7 := fun_mk (st := s_swaps_by) l7 c7 k7
  have b7 := F7.binds (ps := ["row", "ways"]) fun _ _ _ _ _ _ us hl => match us, hl with | [_, _], _ => rfl
  have F8 := fun_mk (st := s_way_of) l8 c8 k8
  have b8 := F8.binds (ps := ["row"]) fun _ _ _ _ _ _ us hl => match us, hl with | [_], _ => rfl
  have F9 := fun_mk (st := s_brought) l9 c9 k9
  have b9 := F9.binds (ps := ["row"]) fun _ _ _ _ _ _ us hl => match us, hl with | [_], _ => rfl
  have F10 := fun_mk (st := s_check_both) l10 c10 k10
  have b10 := F10.binds (ps := ["one", "other"]) fun _ _ _ _ _ _ us hl => match us, hl with | [_, _], _ => rfl
  have F11 := fun_mk (st := s_named_by) l11 c11 k11
  have b11 := F11.binds (ps := ["one", "other"]) fun _ _ _ _ _ _ us hl => match us, hl with | [_, _], _ => rfl
  have F12 := fun_mk (st := s_leading) l12 c12 k12
  have b12 := F12.binds (ps := ["one", "other"]) fun _ _ _ _ _ _ us hl => match us, hl with | [_, _], _ => rfl
  have F13 := fun_mk (st := s_apart) l13 c13 k13
  have b13 := F13.binds (ps := ["one", "other"]) fun _ _ _ _ _ _ us hl => match us, hl with | [_, _], _ => rfl
  have F14 := fun_mk (st := s_l_cell_at) l14 c14 k14
  have b14 := F14.binds (ps := ["_law_script", "_law_k"]) fun _ _ _ _ _ _ us hl => match us, hl with | [_, _], _ => rfl
  have F15 := fun_mk (st := s_l_draw) l15 c15 k15
  have b15 := F15.binds (ps := ["_law_cell", "_law_k", "_law_many"]) fun _ _ _ _ _ _ us hl => match us, hl with | [_, _, _], _ => rfl
  have F16 := fun_mk (st := s_l_number) l16 c16 k16
  have b16 := F16.binds (ps := ["_law_cell", "_law_k"]) fun _ _ _ _ _ _ us hl => match us, hl with | [_, _], _ => rfl
  have F17 := fun_mk (st := s_l_order) l17 c17 k17
  have b17 := F17.binds (ps := ["_law_script", "_law_by"]) fun _ _ _ _ _ _ us hl => match us, hl with | [_, _], _ => rfl
  have F18 := fun_mk (st := s_l_turned) l18 c18 k18
  have b18 := F18.binds (ps := ["_law_row_here", "_law_by"]) fun _ _ _ _ _ _ us hl => match us, hl with | [_, _], _ => rfl
  have F19 := fun_mk (st := s_l_done) l19 c19 k19
  have b19 := F19.binds (ps := ["_law_row_here", "_law_swaps"]) fun _ _ _ _ _ _ us hl => match us, hl with | [_, _], _ => rfl
  have F20 := fun_mk (st := s_l_row) l20 c20 k20
  have b20 := F20.binds (ps := ["_law_script"]) fun _ _ _ _ _ _ us hl => match us, hl with | [_], _ => rfl
  have F21 := fun_mk (st := s_l_kinds) l21 c21 k21
  have b21 := F21.binds (ps := ["_law_error"]) fun _ _ _ _ _ _ us hl => match us, hl with | [_], _ => rfl
  have F22 := fun_mk (st := s_l_with_row) l22 c22 k22
  have b22 := F22.binds (ps := ["_law_door", "_law_row_here"]) fun _ _ _ _ _ _ us hl => match us, hl with | [_, _], _ => rfl
  have F23 := fun_mk (st := s_l_with_swaps) l23 c23 k23
  have b23 := F23.binds (ps := ["_law_row_here", "_law_swaps"]) fun _ _ _ _ _ _ us hl => match us, hl with | [_, _], _ => rfl
  have F24 := fun_mk (st := s_l_with_other) l24 c24 k24
  have b24 := F24.binds (ps := ["_law_row_here", "_law_pair"]) fun _ _ _ _ _ _ us hl => match us, hl with | [_, _], _ => rfl
  have F25 := fun_mk (st := s_l_told) l25 c25 k25
  have b25 := F25.binds (ps := ["_law_ask", "_law_one", "_law_other"]) fun _ _ _ _ _ _ us hl => match us, hl with | [_, _, _], _ => rfl
  have F26 := fun_mk (st := s_law) l26 c26 k26
  have b26 := F26.binds (ps := ["_law_script"]) fun _ _ _ _ _ _ us hl => match us, hl with | [_], _ => rfl
  let T : Txt K mg := {
    f_is_whole := f0, d_is_whole := _,
    f_check_row := f1, d_check_row := _,
    f_are_places := f2, d_are_places := _,
    f_behind := f3, d_behind := _,
    f_done := f4, d_done := _,
    f_B_init := f5, d_B_init := _,
    f_ways_of := f6, d_ways_of := _,
    f_swaps_by := f7, d_swaps_by := _,
    f_way_of := f8, d_way_of := _,
    f_brought := f9, d_brought := _,
    f_check_both := f10, d_check_both := _,
    f_named_by := f11, d_named_by := _,
    f_leading := f12, d_leading := _,
    f_apart := f13, d_apart := _,
    f_l_cell_at := f14, d_l_cell_at := _,
    f_l_draw := f15, d_l_draw := _,
    f_l_number := f16, d_l_number := _,
    f_l_order := f17, d_l_order := _,
    f_l_turned := f18, d_l_turned := _,
    f_l_done := f19, d_l_done := _,
    f_l_row := f20, d_l_row := _,
    f_l_kinds := f21, d_l_kinds := _,
    f_l_with_row := f22, d_l_with_row := _,
    f_l_with_swaps := f23, d_l_with_swaps := _,
    f_l_with_other := f24, d_l_with_other := _,
    f_l_told := f25, d_l_told := _,
    f_law := fa, d_law := _,
    C := C, cl := ⟨pg, hd, po, sa⟩, mkC := mk, kC := kc, gC := PySem.W.mg_of X G aC, nS := nS, nW := nW,
    SwapError := SS, gSwapError := PySem.W.mg_of X G gSS, bS := bSS, dS := dSS, tS := tSS,
    BadRow := CBadRow, gBadRow := PySem.W.mg_of X G e_g0, eBadRow := ⟨e_x0, e_p0, e_t0, e_s0, ⟨e_hg0, e_hk0, e_hs0, e_hd0, e_ha0, e_N, e_T, e_hm0⟩, kit_val e_hv0⟩,
    BadSwaps := CBadSwaps, gBadSwaps := PySem.W.mg_of X G e_g1, eBadSwaps := ⟨e_x1, e_p1, e_t1, e_s1, ⟨e_hg1, e_hk1, e_hs1, e_hd1, e_ha1, e_N, e_T, e_hm1⟩, kit_val e_hv1⟩,
    Unlike := CUnlike, gUnlike := PySem.W.mg_of X G e_g2, eUnlike := ⟨e_x2, e_p2, e_t2, e_s2, ⟨e_hg2, e_hk2, e_hs2, e_hd2, e_ha2, e_N, e_T, e_hm2⟩, kit_val e_hv2⟩,
    k00 := kit_self K _,
    k01 := kit_not e_q11 e_ic1 e_t1 e_q01,
    k02 := kit_not e_q22 e_ic2 e_t2 e_q02,
    k10 := kit_not e_q00 e_ic0 e_t0 e_q10,
    k11 := kit_self K _,
    k12 := kit_not e_q22 e_ic2 e_t2 e_q12,
    k20 := kit_not e_q00 e_ic0 e_t0 e_q20,
    k21 := kit_not e_q11 e_ic1 e_t1 e_q21,
    k22 := kit_self K _,
    a_is_whole := ⟨F0, b0, PySem.W.mg_of X G a0⟩,
    a_check_row := ⟨F1, b1, PySem.W.mg_of X G a1⟩,
    a_are_places := ⟨F2, b2, PySem.W.mg_of X G a2⟩,
    a_behind := ⟨F3, b3, PySem.W.mg_of X G a3⟩,
    a_done := ⟨F4, b4, PySem.W.mg_of X G a4⟩,
    a_B_init := ⟨F5, b5, a5, i5⟩,
    a_ways_of := ⟨F6, b6, PySem.W.mg_of X G a6⟩,
    a_swaps_by := ⟨F7, b7, PySem.W.mg_of X G a7⟩,
    a_way_of := ⟨F8, b8, PySem.W.mg_of X G a8⟩,
    a_brought := ⟨F9, b9, PySem.W.mg_of X G a9⟩,
    a_check_both := ⟨F10, b10, PySem.W.mg_of X G a10⟩,
    a_named_by := ⟨F11, b11, PySem.W.mg_of X G a11⟩,
    a_leading := ⟨F12, b12, PySem.W.mg_of X G a12⟩,
    a_apart := ⟨F13, b13, PySem.W.mg_of X G a13⟩,
    a_l_cell_at := ⟨F14, b14, PySem.W.mg_of X G a14⟩,
    a_l_draw := ⟨F15, b15, PySem.W.mg_of X G a15⟩,
    a_l_number := ⟨F16, b16, PySem.W.mg_of X G a16⟩,
    a_l_order := ⟨F17, b17, PySem.W.mg_of X G a17⟩,
    a_l_turned := ⟨F18, b18, PySem.W.mg_of X G a18⟩,
    a_l_done := ⟨F19, b19, PySem.W.mg_of X G a19⟩,
    a_l_row := ⟨F20, b20, PySem.W.mg_of X G a20⟩,
    a_l_kinds := ⟨F21, b21, PySem.W.mg_of X G a21⟩,
    a_l_with_row := ⟨F22, b22, PySem.W.mg_of X G a22⟩,
    a_l_with_swaps := ⟨F23, b23, PySem.W.mg_of X G a23⟩,
    a_l_with_other := ⟨F24, b24, PySem.W.mg_of X G a24⟩,
    a_l_told := ⟨F25, b25, PySem.W.mg_of X G a25⟩,
    a_law := ⟨F26, b26, PySem.W.mg_of X G a26⟩,
    z_isinstance := PySem.W.mg_none_of X G z_isinstance, z_int := PySem.W.mg_none_of X G z_int, z_bool := PySem.W.mg_none_of X G z_bool, z_sorted := PySem.W.mg_none_of X G z_sorted, z_list := PySem.W.mg_none_of X G z_list, z_len := PySem.W.mg_none_of X G z_len, z_all := PySem.W.mg_none_of X G z_all, z_range := PySem.W.mg_none_of X G z_range, z_enumerate := PySem.W.mg_none_of X G z_enumerate, z_max := PySem.W.mg_none_of X G z_max, z_min := PySem.W.mg_none_of X G z_min, z_ValueError := PySem.W.mg_none_of X G z_ValueError }
  exact ⟨T.d_law, fun s v => .of_eq rfl, fun base _ _ => ok_law T⟩
theorem walk {l : PySem.W.OpenLaw} {q : Program} {loose : List Str} {XP : (Str → Option Value) → Heap → Prop} {YP : World → Heap → Prop} {d : DefRec} {K : Params → PySem.W.Frag} (hn : l.most = some 63) (hdf : d.params.defaults = [])
    (hY : ∀ (w : World) (h : Heap), YP w h → (K w.params).In h)
    (F : ∀ (w : World) (mg : Str → Option Value) (fa : Addr) (h : Heap), (K w.params).In h → h.Ns mainGlobals mg → mg d.name = some (.ref fa) →
      ∃ fd : FuncData, (∀ (s : Shared) (u : Value), BindsTo s fd ⟨[u], []⟩ [("_law_script", u)]) ∧ ∀ base : Heap, (K w.params).In base → base.Ns mainGlobals mg → FnOk l.prog w (K w.params) mg base CX0 7 fa fd ["_law_script"] (sp_law (K w.params))) :
    PySem.W.WalkO q loose XP YP l.row.toRowW d [] (fun f vs => PySem.call f vs) :=
  L2.walk_ofB (n := 63) (k := 7) (x := "_law_script") (CX := fun _ => CX0) (sp := fun w => sp_law (K w.params)) hn (by decide) hdf ⟨rfl, by decide, by decide⟩ hY F (fun _ _ a ns hl hb _ hS => ⟨a, ns, rfl, hS, ⟨hl, fun n hn => bm_of_bits (hb n hn)⟩, fun _ => rfl⟩) fun _ _ _ _ _ z => z
end Toy
open PySem PySem.W PyProof.Rows
set_option maxRecDepth 100000 in
set_option maxHeartbeats 0 in
theorem PySem.Challenge.cw_ringswap_k05_refused_holds : PySem.Challenge.rw_ringswap_k05_refused.Holds := by
  w_on; o_law; k_head; (case hw => w_witness2)
  k_fill
  refine Toy.walk (l := PySem.Challenge.rw_ringswap_k05_refused) rfl rfl (fun w h Y => PySem.W.kIn_of Y) ?F
  case F =>
    intro w mg fa h KX G hmg
    refine' Toy.all_mk KX G hmg ?aC ?pg ?hd ?po ?sa ?mk ?kc ?nS ?nW ?gSS ?bSS ?dSS ?tSS ?e_N ?e_T ?e_g0 ?e_x0 ?e_p0 ?e_t0 ?e_s0 ?e_hg0 ?e_hk0 ?e_hs0 ?e_hd0 ?e_ha0 ?e_hm0 ?e_hv0 ?e_ic0 ?e_g1 ?e_x1 ?e_p1 ?e_t1 ?e_s1 ?e_hg1 ?e_hk1 ?e_hs1 ?e_hd1 ?e_ha1 ?e_hm1 ?e_hv1 ?e_ic1 ?e_g2 ?e_x2 ?e_p2 ?e_t2 ?e_s2 ?e_hg2 ?e_hk2 ?e_hs2 ?e_hd2 ?e_ha2 ?e_hm2 ?e_hv2 ?e_ic2 ?e_q00 ?e_q01 ?e_q02 ?e_q10 ?e_q11 ?e_q12 ?e_q20 ?e_q21 ?e_q22 ?a0 ?l0 ?c0 ?k0 ?a1 ?l1 ?c1 ?k1 ?a2 ?l2 ?c2 ?k2 ?a3 ?l3 ?c3 ?k3 ?a4 ?l4 ?c4 ?k4 ?a5 ?i5 ?l5 ?c5 ?k5 ?a6 ?l6 ?c6 ?k6 ?a7 ?l7 ?c7 ?k7 ?a8 ?l8 ?c8 ?k8 ?a9 ?l9 ?c9 ?k9 ?a10 ?l10 ?c10 ?k10 ?a11 ?l11 ?c11 ?k11 ?a12 ?l12 ?c12 ?k12 ?a13 ?l13 ?c13 ?k13 ?a14 ?l14 ?c14 ?k14 ?a15 ?l15 ?c15 ?k15 ?a16 ?l16 ?c16 ?k16 ?a17 ?l17 ?c17 ?k17 ?a18 ?l18 ?c18 ?k18 ?a19 ?l19 ?c19 ?k19 ?a20 ?l20 ?c20 ?k20 ?a21 ?l21 ?c21 ?k21 ?a22 ?l22 ?c22 ?k22 ?a23 ?l23 ?c23 ?k23 ?a24 ?l24 ?c24 ?k24 ?a25 ?l25 ?c25 ?k25 ?a26 ?l26 ?c26 ?k26 ?z_isinstance ?z_int ?z_bool ?z_sorted ?z_list ?z_len ?z_all ?z_range ?z_enumerate ?z_max ?z_min ?z_ValueError
    (case aC => k_is)
    (case pg => k_is)
    (case hd => k_is)
    (case po => k_is)
    (case sa => k_is)
    (case mk => k_is)
    (case kc => k_is)
    (case nS => k_is)
    (case nW => k_is)
    (case gSS => k_is)
    (case bSS => k_is)
    (case dSS => k_is)
    (case tSS => k_is)
    (case e_N => k_is)
    (case e_T => k_is)
    (case e_g0 => k_is)
    (case e_x0 => k_exc)
    (case e_p0 => k_is)
    (case e_t0 => k_is)
    (case e_s0 => k_is)
    (case e_hg0 => k_is)
    (case e_hk0 => k_is)
    (case e_hs0 => k_is)
    (case e_hd0 => k_is)
    (case e_ha0 => k_is)
    (case e_hm0 => k_is)
    (case e_hv0 => k_is)
    (case e_ic0 => k_is)
    (case e_g1 => k_is)
    (case e_x1 => k_exc)
    (case e_p1 => k_is)
    (case e_t1 => k_is)
    (case e_s1 => k_is)
    (case e_hg1 => k_is)
    (case e_hk1 => k_is)
    (case e_hs1 => k_is)
    (case e_hd1 => k_is)
    (case e_ha1 => k_is)
    (case e_hm1 => k_is)
    (case e_hv1 => k_is)
    (case e_ic1 => k_is)
    (case e_g2 => k_is)
    (case e_x2 => k_exc)
    (case e_p2 => k_is)
    (case e_t2 => k_is)
    (case e_s2 => k_is)
    (case e_hg2 => k_is)
    (case e_hk2 => k_is)
    (case e_hs2 => k_is)
    (case e_hd2 => k_is)
    (case e_ha2 => k_is)
    (case e_hm2 => k_is)
    (case e_hv2 => k_is)
    (case e_ic2 => k_is)
    (case e_q00 => first | rfl | k_is)
    (case e_q01 => k_is)
    (case e_q02 => k_is)
    (case e_q10 => k_is)
    (case e_q11 => first | rfl | k_is)
    (case e_q12 => k_is)
    (case e_q20 => k_is)
    (case e_q21 => k_is)
    (case e_q22 => first | rfl | k_is)
    (case a0 => k_is)
    (case l0 => k_is)
    (case c0 => k_is)
    (case k0 => k_is)
    (case a1 => k_is)
    (case l1 => k_is)
    (case c1 => k_is)
    (case k1 => k_is)
    (case a2 => k_is)
    (case l2 => k_is)
    (case c2 => k_is)
    (case k2 => k_is)
    (case a3 => k_is)
    (case l3 => k_is)
    (case c3 => k_is)
    (case k3 => k_is)
    (case a4 => k_is)
    (case l4 => k_is)
    (case c4 => k_is)
    (case k4 => k_is)
    (case a5 => k_is)
    (case i5 => k_is)
    (case l5 => k_is)
    (case c5 => k_is)
    (case k5 => k_is)
    (case a6 => k_is)
    (case l6 => k_is)
    (case c6 => k_is)
    (case k6 => k_is)
    (case a7 => k_is)
    (case l7 => k_is)
    (case c7 => k_is)
    (case k7 => k_is)
    (case a8 => k_is)
    (case l8 => k_is)
    (case c8 => k_is)
    (case k8 => k_is)
    (case a9 => k_is)
    (case l9 => k_is)
    (case c9 => k_is)
    (case k9 => k_is)
    (case a10 => k_is)
    (case l10 => k_is)
    (case c10 => k_is)
    (case k10 => k_is)
    (case a11 => k_is)
    (case l11 => k_is)
    (case c11 => k_is)
    (case k11 => k_is)
    (case a12 => k_is)
    (case l12 => k_is)
    (case c12 => k_is)
    (case k12 => k_is)
    (case a13 => k_is)
    (case l13 => k_is)
    (case c13 => k_is)
    (case k13 => k_is)
    (case a14 => k_is)
    (case l14 => k_is)
    (case c14 => k_is)
    (case k14 => k_is)
    (case a15 => k_is)
    (case l15 => k_is)
    (case c15 => k_is)
    (case k15 => k_is)
    (case a16 => k_is)
    (case l16 => k_is)
    (case c16 => k_is)
    (case k16 => k_is)
    (case a17 => k_is)
    (case l17 => k_is)
    (case c17 => k_is)
    (case k17 => k_is)
    (case a18 => k_is)
    (case l18 => k_is)
    (case c18 => k_is)
    (case k18 => k_is)
    (case a19 => k_is)
    (case l19 => k_is)
    (case c19 => k_is)
    (case k19 => k_is)
    (case a20 => k_is)
    (case l20 => k_is)
    (case c20 => k_is)
    (case k20 => k_is)
    (case a21 => k_is)
    (case l21 => k_is)
    (case c21 => k_is)
    (case k21 => k_is)
    (case a22 => k_is)
    (case l22 => k_is)
    (case c22 => k_is)
    (case k22 => k_is)
    (case a23 => k_is)
    (case l23 => k_is)
    (case c23 => k_is)
    (case k23 => k_is)
    (case a24 => k_is)
    (case l24 => k_is)
    (case c24 => k_is)
    (case k24 => k_is)
    (case a25 => k_is)
    (case l25 => k_is)
    (case c25 => k_is)
    (case k25 => k_is)
    (case a26 => k_is)
    (case l26 => k_is)
    (case c26 => k_is)
    (case k26 => k_is)
    (case z_isinstance => k_is)
    (case z_int => k_is)
    (case z_bool => k_is)
    (case z_sorted => k_is)
    (case z_list => k_is)
    (case z_len => k_is)
    (case z_all => k_is)
    (case z_range => k_is)
    (case z_enumerate => k_is)
    (case z_max => k_is)
    (case z_min => k_is)
    (case z_ValueError => k_is)
