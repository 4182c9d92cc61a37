import PyProof.Rows.All
import Wide.All
import OpenK.AllK
import Wide.FinOn
import HandS.ForMost
import HandS.TupAny
import HandS.TupLe
import HandS.Deep
import HandS.IsInst
import HandS.Zip
import HandS.Walk
import HandS.Star
import KE.LtData
import KE.GoesNewDict
import KE.KDictDisplayH
import KE.KDictCopyH
import KE.GoesEnum
import PySem.Challenge.RW_lotplans_k47_whole_trucks
import HandS.HeadHook1
/-! Plain mathematics of lot sizing with loads (no program in sight). -/
namespace LM

def g (l : List Int) (i : Nat) : Int := l.getD i 0

def sumTo (f : Nat → Int) : Nat → Int
  | 0 => 0
  | n + 1 => sumTo f n + f n

/-- loads of an amount -/
def ld (x L : Int) : Int := -((-x) / L)

theorem sumTo_congr {f f' : Nat → Int} {n : Nat} (h : ∀ i, i < n → f i = f' i) : sumTo f n = sumTo f' n := by
  induction n with
  | zero => rfl
  | succ n ih =>
    show sumTo f n + f n = sumTo f' n + f' n
    rw [ih (fun i hi => h i (by omega)), h n (by omega)]

theorem sumTo_add (f f' : Nat → Int) (n : Nat) : sumTo (fun i => f i + f' i) n = sumTo f n + sumTo f' n := by
  induction n with
  | zero => rfl
  | succ n ih =>
    show sumTo (fun i => f i + f' i) n + (f n + f' n) = (sumTo f n + f n) + (sumTo f' n + f' n)
    rw [ih]; omega

theorem sumTo_mono {f : Nat → Int} (h : ∀ i, 0 ≤ f i) {m n : Nat} (hm : m ≤ n) : sumTo f m ≤ sumTo f n := by
  induction n with
  | zero => have : m = 0 := by omega
            subst this; exact Int.le_refl _
  | succ n ih =>
    by_cases e : m = n + 1
    · subst e; exact Int.le_refl _
    · have := ih (by omega)
      have := h n
      show sumTo f m ≤ sumTo f n + f n
      omega

theorem sumTo_nonneg {f : Nat → Int} (h : ∀ i, 0 ≤ f i) (n : Nat) : 0 ≤ sumTo f n := sumTo_mono h (Nat.zero_le n)

theorem ld_spec {x L : Int} (hL : 0 < L) : L * (ld x L - 1) < x ∧ x ≤ L * ld x L := by
  unfold ld
  have h1 := Int.mul_ediv_add_emod (-x) L
  have h2 := Int.emod_nonneg (-x) (show L ≠ 0 by omega)
  have h3 := Int.emod_lt_of_pos (-x) hL
  have e1 : L * (-(-x / L) - 1) = -(L * (-x / L)) - L := by
    rw [Int.mul_sub, Int.mul_neg, Int.mul_one]
  have e2 : L * (-(-x / L)) = -(L * (-x / L)) := by rw [Int.mul_neg]
  rw [e1, e2]
  omega

theorem ld_unique {x L q : Int} (hL : 0 < L) (h1 : L * (q - 1) < x) (h2 : x ≤ L * q) : ld x L = q := by
  obtain ⟨a1, a2⟩ := ld_spec (x := x) hL
  have b1 : L * (ld x L - 1) < L * q := by omega
  have b2 : L * (q - 1) < L * ld x L := by omega
  have c1 := Int.lt_of_mul_lt_mul_left b1 (by omega)
  have c2 := Int.lt_of_mul_lt_mul_left b2 (by omega)
  omega

/-- the law's way to reckon the loads -/
theorem ld_law {x L : Int} (hL : 0 < L) : (x + L - 1) / L = ld x L := by
  symm
  have h1 := Int.mul_ediv_add_emod (x + L - 1) L
  have h2 := Int.emod_nonneg (x + L - 1) (show L ≠ 0 by omega)
  have h3 := Int.emod_lt_of_pos (x + L - 1) hL
  apply ld_unique hL
  · rw [Int.mul_sub, Int.mul_one]; omega
  · omega

theorem ld_mono {x y L : Int} (hL : 0 < L) (h : x ≤ y) : ld x L ≤ ld y L := by
  obtain ⟨a1, _⟩ := ld_spec (x := x) hL
  obtain ⟨_, b2⟩ := ld_spec (x := y) hL
  have : L * (ld x L - 1) < L * ld y L := by omega
  have := Int.lt_of_mul_lt_mul_left this (by omega)
  omega

theorem ld_nonneg {x L : Int} (hL : 0 < L) (h : 0 ≤ x) : 0 ≤ ld x L := by
  have e : ld 0 L = 0 := ld_unique hL (by rw [Int.mul_sub]; omega) (by omega)
  have := ld_mono hL h
  omega

/-- one unit more than an amount that is no number of full loads needs no further load -/
theorem ld_succ {x L : Int} (hL : 0 < L) (h : x % L ≠ 0) : ld (x + 1) L = ld x L := by
  obtain ⟨a1, a2⟩ := ld_spec (x := x) hL
  apply ld_unique hL
  · omega
  · have : x ≠ L * ld x L := fun e => h (by rw [e]; exact Int.mul_emod_right _ _)
    omega

theorem ld_full {m L r : Int} (hL : 0 < L) (h0 : 0 ≤ r) (h1 : r < L) : ld (m * L + r) L = m + (if 0 < r then 1 else 0) := by
  have e : m * L = L * m := Int.mul_comm _ _
  apply ld_unique hL
  · split
    · rw [show m + 1 - 1 = m by omega]; omega
    · rw [Int.mul_sub, Int.add_zero]; omega
  · split
    · rw [Int.mul_add]; omega
    · rw [Int.add_zero]; omega

/-! ### stocks and costs -/
def stk (d x : Nat → Int) (k : Nat) : Int := sumTo x k - sumTo d k
def cst (L : Int) (d s u h x : Nat → Int) (i : Nat) : Int := s i * ld (x i) L + u i * x i + h i * stk d x (i + 1)
def costTo (L : Int) (d s u h x : Nat → Int) (n : Nat) : Int := sumTo (cst L d s u h x) n

structure Plan (n : Nat) (d x : Nat → Int) : Prop where
  pos : ∀ i, i < n → 0 ≤ x i
  stk : ∀ k, k ≤ n → 0 ≤ stk d x k
  fin : LM.stk d x n = 0

/-- the problem's costs are not below 0 -/
structure Pos (d s u h : Nat → Int) : Prop where
  d : ∀ i, 0 ≤ d i
  s : ∀ i, 0 ≤ s i
  u : ∀ i, 0 ≤ u i
  h : ∀ i, 0 ≤ h i

/-- between any two odd amounts there is a stock 0 -/
def Loaded (L : Int) (n : Nat) (d x : Nat → Int) : Prop :=
  ∀ a b, a < b → b < n → x a % L ≠ 0 → x b % L ≠ 0 → ∃ k, a < k ∧ k ≤ b ∧ stk d x k = 0

/-! ### the exchange -/
/-- one unit from b to a (e = 1) or from a to b (e = -1) -/
def mv (x : Nat → Int) (a b : Nat) (e : Int) : Nat → Int := fun i => if i = a then x i + e else if i = b then x i - e else x i

theorem sumTo_mv (x : Nat → Int) {a b : Nat} (hab : a < b) (e : Int) (k : Nat) :
    sumTo (mv x a b e) k = sumTo x k + (if a < k ∧ k ≤ b then e else 0) := by
  induction k with
  | zero => simp [sumTo]
  | succ k ih =>
    show sumTo (mv x a b e) k + mv x a b e k = sumTo x k + x k + _
    rw [ih]
    unfold mv
    by_cases h1 : k = a
    · subst h1
      rw [if_neg (by omega), if_pos rfl, if_pos (by omega)]; omega
    · by_cases h2 : k = b
      · subst h2
        rw [if_pos (by omega), if_neg h1, if_pos rfl, if_neg (by omega)]; omega
      · rw [if_neg h1, if_neg h2]
        by_cases h3 : a < k ∧ k ≤ b
        · rw [if_pos h3, if_pos (by omega)]; omega
        · rw [if_neg h3, if_neg (by omega)]; omega

theorem stk_mv (d x : Nat → Int) {a b : Nat} (hab : a < b) (e : Int) (k : Nat) :
    stk d (mv x a b e) k = stk d x k + (if a < k ∧ k ≤ b then e else 0) := by
  unfold stk
  rw [sumTo_mv x hab]; omega

/-- what a unit costs that is made at a, not at b -/
def gain (u h : Nat → Int) (a b : Nat) : Int := u a - u b + (sumTo h b - sumTo h a)

/-- an odd pair with stock between: a shift of the indicator of b -/
theorem cost_mv (L : Int) (d s u h x : Nat → Int) {a b : Nat} (hab : a < b) (e : Int) (n : Nat) (hb : b < n) :
    costTo L d s u h (mv x a b e) n = costTo L d s u h x n + e * gain u h a b
      + s a * (ld (x a + e) L - ld (x a) L) + s b * (ld (x b - e) L - ld (x b) L) := by
  have key : ∀ n, costTo L d s u h (mv x a b e) n = costTo L d s u h x n
      + (if a < n then e * u a + s a * (ld (x a + e) L - ld (x a) L) else 0)
      + (if b < n then -(e * u b) + s b * (ld (x b - e) L - ld (x b) L) else 0)
      + e * (sumTo h (min n b) - sumTo h (min n a)) := by
    intro n
    induction n with
    | zero => simp [costTo, sumTo]
    | succ n ih =>
      show costTo L d s u h (mv x a b e) n + cst L d s u h (mv x a b e) n = costTo L d s u h x n + cst L d s u h x n + _ + _ + _
      rw [ih]
      unfold cst
      rw [stk_mv d x hab]
      rcases Nat.lt_trichotomy n a with h1 | h1 | h1
      · have e0 : mv x a b e n = x n := by unfold mv; rw [if_neg (by omega), if_neg (by omega)]
        rw [e0, if_neg (show ¬ a < n by omega), if_neg (show ¬ b < n by omega), if_neg (show ¬ (a < n + 1 ∧ n + 1 ≤ b) by omega), if_neg (show ¬ a < n + 1 by omega), if_neg (show ¬ b < n + 1 by omega),
          show min n b = n by omega, show min n a = n by omega, show min (n + 1) b = n + 1 by omega, show min (n + 1) a = n + 1 by omega, Int.sub_self, Int.sub_self]
        simp only [Int.add_zero]
        omega
      · subst h1
        have e0 : mv x n b e n = x n + e := by unfold mv; rw [if_pos rfl]
        rw [e0, if_neg (show ¬ n < n by omega), if_neg (show ¬ b < n by omega), if_pos (show (n < n + 1 ∧ n + 1 ≤ b) by omega), if_pos (show n < n + 1 by omega), if_neg (show ¬ b < n + 1 by omega),
          show min n b = n by omega, show min n n = n by omega, show min (n + 1) b = n + 1 by omega, show min (n + 1) n = n by omega, Int.sub_self]
        show _ = _ + _ + _ + 0 + e * (sumTo h n + h n - sumTo h n)
        rw [show sumTo h n + h n - sumTo h n = h n by omega, Int.mul_add (u n), Int.mul_add (h n), Int.mul_sub (s n), Int.mul_comm e (u n), Int.mul_comm e (h n)]
        omega
      · rcases Nat.lt_trichotomy n b with h2 | h2 | h2
        · have e0 : mv x a b e n = x n := by unfold mv; rw [if_neg (by omega), if_neg (by omega)]
          rw [e0, if_pos (show a < n by omega), if_neg (show ¬ b < n by omega), if_pos (show (a < n + 1 ∧ n + 1 ≤ b) by omega), if_pos (show a < n + 1 by omega), if_neg (show ¬ b < n + 1 by omega),
            show min n b = n by omega, show min n a = a by omega, show min (n + 1) b = n + 1 by omega, show min (n + 1) a = a by omega]
          show _ = _ + _ + _ + 0 + e * (sumTo h n + h n - sumTo h a)
          rw [show sumTo h n + h n - sumTo h a = (sumTo h n - sumTo h a) + h n by omega, Int.mul_add e, Int.mul_add (h n), Int.mul_comm e (h n)]
          omega
        · subst h2
          have e0 : mv x a n e n = x n - e := by unfold mv; rw [if_neg (by omega), if_pos rfl]
          rw [e0, if_pos (show a < n by omega), if_neg (show ¬ n < n by omega), if_neg (show ¬ (a < n + 1 ∧ n + 1 ≤ n) by omega), if_pos (show a < n + 1 by omega), if_pos (show n < n + 1 by omega),
            show min n n = n by omega, show min n a = a by omega, show min (n + 1) n = n by omega, show min (n + 1) a = a by omega]
          rw [Int.mul_sub (u n), Int.mul_sub (s n), Int.mul_comm e (u n)]
          simp only [Int.add_zero]
          omega
        · have e0 : mv x a b e n = x n := by unfold mv; rw [if_neg (by omega), if_neg (by omega)]
          rw [e0, if_pos (show a < n by omega), if_pos (show b < n by omega), if_neg (show ¬ (a < n + 1 ∧ n + 1 ≤ b) by omega), if_pos (show a < n + 1 by omega), if_pos (show b < n + 1 by omega),
            show min n b = b by omega, show min n a = a by omega, show min (n + 1) b = b by omega, show min (n + 1) a = a by omega]
          simp only [Int.add_zero]
          omega
  rw [key n, if_pos (by omega), if_pos hb, show min n b = b by omega, show min n a = a by omega]
  unfold gain
  rw [Int.mul_add e, Int.mul_sub e (u a)]
  omega


theorem weight_mv (x : Nat → Int) {a b : Nat} (hab : a < b) {n : Nat} (hb : b < n) :
    sumTo (fun i => (i : Int) * mv x a b 1 i) n = sumTo (fun i => (i : Int) * x i) n + a - b := by
  have key : ∀ n, sumTo (fun i => (i : Int) * mv x a b 1 i) n = sumTo (fun i => (i : Int) * x i) n + (if a < n then (a : Int) else 0) - (if b < n then (b : Int) else 0) := by
    intro n
    induction n with
    | zero => simp [sumTo]
    | succ n ih =>
      show sumTo (fun i => (i : Int) * mv x a b 1 i) n + (n : Int) * mv x a b 1 n = sumTo (fun i => (i : Int) * x i) n + (n : Int) * x n + _ - _
      rw [ih]
      unfold mv
      rcases Nat.lt_trichotomy n a with h1 | h1 | h1
      · rw [if_neg (by omega), if_neg (by omega), if_neg (by omega), if_neg (by omega), if_neg (by omega), if_neg (by omega)]; omega
      · subst h1
        rw [if_neg (by omega), if_neg (by omega), if_pos rfl, if_pos (by omega), if_neg (by omega), Int.mul_add]; omega
      · rcases Nat.lt_trichotomy n b with h2 | h2 | h2
        · rw [if_pos h1, if_neg (by omega), if_neg (by omega), if_neg (by omega), if_pos (by omega), if_neg (by omega)]; omega
        · subst h2
          rw [if_pos h1, if_neg (by omega), if_neg (by omega), if_pos rfl, if_pos (by omega), if_pos (by omega), Int.mul_sub]; omega
        · rw [if_pos h1, if_pos h2, if_neg (by omega), if_neg (by omega), if_pos (by omega), if_pos (by omega)]; omega
  rw [key n, if_pos (by omega), if_pos hb]

theorem cst_nonneg {L : Int} {d s u h x : Nat → Int} {n : Nat} (hL : 0 < L) (P : Pos d s u h) (hx : Plan n d x) {i : Nat} (hi : i < n) : 0 ≤ cst L d s u h x i := by
  unfold cst
  have h1 := Int.mul_nonneg (P.s i) (ld_nonneg hL (hx.pos i hi))
  have h2 := Int.mul_nonneg (P.u i) (hx.pos i hi)
  have h3 := Int.mul_nonneg (P.h i) (hx.stk (i + 1) (by omega))
  omega

theorem costTo_nonneg {L : Int} {d s u h x : Nat → Int} {n : Nat} (hL : 0 < L) (P : Pos d s u h) (hx : Plan n d x) : ∀ {k : Nat}, k ≤ n → 0 ≤ costTo L d s u h x k
  | 0, _ => Int.le_refl _
  | k + 1, hk => by
    have h1 := costTo_nonneg (k := k) hL P hx (by omega)
    have h2 := cst_nonneg (L := L) hL P hx (i := k) (by omega)
    show 0 ≤ costTo L d s u h x k + cst L d s u h x k
    omega

theorem weight_nonneg {d x : Nat → Int} {n : Nat} (hx : Plan n d x) : ∀ {k : Nat}, k ≤ n → 0 ≤ sumTo (fun i => (i : Int) * x i) k
  | 0, _ => Int.le_refl _
  | k + 1, hk => by
    have h1 := weight_nonneg (k := k) hx (by omega)
    have h2 := Int.mul_nonneg (show (0 : Int) ≤ (k : Int) by omega) (hx.pos k (by omega))
    show 0 ≤ sumTo (fun i => (i : Int) * x i) k + (k : Int) * x k
    omega

theorem odd_pos {x L : Int} (h : x % L ≠ 0) (h0 : 0 ≤ x) : 1 ≤ x := by
  have : x ≠ 0 := fun e => h (by rw [e]; exact Int.zero_emod _)
  omega

/-- S. Lippman: some plan of no higher cost is loaded -/
theorem loaded_of {L : Int} {d s u h : Nat → Int} {n : Nat} (hL : 0 < L) (P : Pos d s u h) : ∀ (c w : Nat) (x : Nat → Int), Plan n d x →
    costTo L d s u h x n ≤ c → sumTo (fun i => (i : Int) * x i) n ≤ w →
    ∃ y, Plan n d y ∧ Loaded L n d y ∧ costTo L d s u h y n ≤ costTo L d s u h x n := by
  intro c
  induction c using Nat.strongRecOn with
  | ind c ihc =>
  intro w
  induction w using Nat.strongRecOn with
  | ind w ihw =>
  intro x hx hc hw
  by_cases hl : Loaded L n d x
  · exact ⟨x, hx, hl, Int.le_refl _⟩
  · have ⟨a, b, hab, hbn, oa, ob, hz⟩ : ∃ a b, a < b ∧ b < n ∧ x a % L ≠ 0 ∧ x b % L ≠ 0 ∧ ∀ k, a < k → k ≤ b → stk d x k ≠ 0 := by
      refine Classical.byContradiction fun q => hl fun a b h1 h2 h3 h4 => Classical.byContradiction fun r => q ⟨a, b, h1, h2, h3, h4, fun k k1 k2 k3 => r ⟨k, k1, k2, k3⟩⟩
    have xa := odd_pos oa (hx.pos a (by omega))
    have xb := odd_pos ob (hx.pos b hbn)
    by_cases hg : gain u h a b ≤ 0
    · -- one unit earlier
      have hy : Plan n d (mv x a b 1) := by
        refine ⟨fun i hi => ?_, fun k hk => ?_, ?_⟩
        · have := hx.pos i hi
          unfold mv
          split
          · omega
          · split
            · rename_i e; subst e; omega
            · exact this
        · rw [stk_mv d x hab]
          have := hx.stk k hk
          split <;> omega
        · rw [stk_mv d x hab, if_neg (by omega), hx.fin]; rfl
      have e := cost_mv L d s u h x hab 1 n hbn
      rw [ld_succ hL oa, Int.sub_self, Int.mul_zero, Int.add_zero, Int.one_mul] at e
      have m1 : ld (x b - 1) L - ld (x b) L ≤ 0 := by have := ld_mono (x := x b - 1) (y := x b) hL (by omega); omega
      have m2 : s b * (ld (x b - 1) L - ld (x b) L) ≤ 0 := Int.mul_nonpos_of_nonneg_of_nonpos (P.s b) m1
      have ew := weight_mv x hab hbn
      have w0 := weight_nonneg hy (Nat.le_refl n)
      obtain ⟨y, y1, y2, y3⟩ := ihw (w - 1) (by omega) (mv x a b 1) hy (by omega) (by omega)
      exact ⟨y, y1, y2, by omega⟩
    · -- one unit later
      have hy : Plan n d (mv x a b (-1)) := by
        refine ⟨fun i hi => ?_, fun k hk => ?_, ?_⟩
        · have := hx.pos i hi
          unfold mv
          split
          · rename_i e; subst e; omega
          · split
            · omega
            · exact this
        · rw [stk_mv d x hab]
          have := hx.stk k hk
          split
          · rename_i q
            have := hz k q.1 q.2
            omega
          · omega
        · rw [stk_mv d x hab, if_neg (by omega), hx.fin]; rfl
      have e := cost_mv L d s u h x hab (-1) n hbn
      rw [show x b - -1 = x b + 1 by omega, ld_succ hL ob, Int.sub_self, Int.mul_zero, Int.add_zero, Int.neg_mul, Int.one_mul] at e
      have m1 : ld (x a + -1) L - ld (x a) L ≤ 0 := by have := ld_mono (x := x a + -1) (y := x a) hL (by omega); omega
      have m2 : s a * (ld (x a + -1) L - ld (x a) L) ≤ 0 := Int.mul_nonpos_of_nonneg_of_nonpos (P.s a) m1
      have c0 := costTo_nonneg hL P hy (Nat.le_refl n)
      have w0 := weight_nonneg hy (Nat.le_refl n)
      obtain ⟨y, y1, y2, y3⟩ := ihc (c - 1) (by omega) (sumTo (fun i => (i : Int) * mv x a b (-1) i) n).toNat (mv x a b (-1)) hy (by omega) (by omega)
      exact ⟨y, y1, y2, by omega⟩


/-! ### the program's own search: segments and chains -/
def made (L rest done : Int) (used : Bool) : Int := done * L + (if used then rest else 0)
def amt (L rest more : Int) (odd : Bool) : Int := more * L + (if odd then rest else 0)
def stepCost (L : Int) (d s u h : Nat → Int) (a : Nat) (rest : Int) (k : Nat) (done : Int) (used : Bool) (cost more : Int) (odd : Bool) : Int :=
  cost + s k * ld (amt L rest more odd) L + u k * amt L rest more odd + h k * (made L rest (done + more) (used || odd) - (sumTo d (k + 1) - sumTo d a))

inductive Seg (L : Int) (d s u h : Nat → Int) (a : Nat) (full rest : Int) : Nat → Int → Bool → Int → List Int → Prop
  | nil : Seg L d s u h a full rest a 0 false 0 []
  | step {k : Nat} {done : Int} {used : Bool} {cost : Int} {told : List Int} (more : Int) (odd : Bool) : Seg L d s u h a full rest k done used cost told →
      0 ≤ more → done + more ≤ full → (odd = true → 0 < rest ∧ used = false) → sumTo d (k + 1) - sumTo d a ≤ made L rest (done + more) (used || odd) →
      Seg L d s u h a full rest (k + 1) (done + more) (used || odd) (stepCost L d s u h a rest k done used cost more odd) (told ++ [amt L rest more odd])

def whole (d : Nat → Int) (a e : Nat) : Int := sumTo d e - sumTo d a
/-- a whole segment: all demands from a up to e -/
def SegE (L : Int) (d s u h : Nat → Int) (a e : Nat) (c : Int) (p : List Int) : Prop :=
  Seg L d s u h a (whole d a e / L) (whole d a e % L) e (whole d a e / L) (decide (0 < whole d a e % L)) c p

inductive Chain (L : Int) (d s u h : Nat → Int) : Nat → Int → List Int → Prop
  | nil : Chain L d s u h 0 0 []
  | step {a e : Nat} {c c' : Int} {p p' : List Int} : Chain L d s u h a c p → a < e → SegE L d s u h a e c' p' → Chain L d s u h e (c + c') (p ++ p')

theorem amt_mod {L rest more : Int} {odd : Bool} : amt L rest more odd % L = (if odd then rest % L else 0) := by
  unfold amt
  cases odd
  · rw [if_neg (by decide), if_neg (by decide), Int.add_zero]; exact Int.mul_emod_left _ _
  · rw [if_pos rfl, if_pos rfl, Int.add_comm, Int.add_mul_emod_self_right]

structure SegSound (L : Int) (d s u h : Nat → Int) (a : Nat) (full rest : Int) (k : Nat) (done : Int) (used : Bool) (cost : Int) (told : List Int) : Prop where
  len : k = a + told.length
  d0 : 0 ≤ done
  d1 : done ≤ full
  ur : used = true → 0 < rest
  nn : ∀ y ∈ told, 0 ≤ y
  run : ∀ x : Nat → Int, (∀ i, i < told.length → x (a + i) = g told i) → stk d x a = 0 →
    sumTo x k - sumTo x a = made L rest done used ∧ costTo L d s u h x k - costTo L d s u h x a = cost ∧
    (∀ j, a < j → j ≤ k → 0 ≤ stk d x j) ∧ (used = false → ∀ i, a ≤ i → i < k → x i % L = 0) ∧
    ∀ i j, a ≤ i → i < j → j < k → x i % L ≠ 0 → x j % L = 0

theorem g_append_left {l m : List Int} {i : Nat} (h : i < l.length) : g (l ++ m) i = g l i := by
  unfold g
  rw [List.getD_eq_getElem?_getD, List.getD_eq_getElem?_getD, List.getElem?_append_left h]
theorem g_append_right {l m : List Int} {i : Nat} (h : l.length ≤ i) : g (l ++ m) i = g m (i - l.length) := by
  unfold g
  rw [List.getD_eq_getElem?_getD, List.getD_eq_getElem?_getD, List.getElem?_append_right h]

theorem Seg.sound {L : Int} {d s u h : Nat → Int} {a : Nat} {full rest : Int} (hL : 0 < L) (hf : 0 ≤ full) (hr : 0 ≤ rest)
    {k : Nat} {done : Int} {used : Bool} {cost : Int} {told : List Int} (S : Seg L d s u h a full rest k done used cost told) :
    SegSound L d s u h a full rest k done used cost told := by
  induction S with
  | nil =>
    refine ⟨by simp, Int.le_refl _, hf, (fun q => by cases q), (fun y hy => by cases hy), fun x _ _ => ⟨?_, ?_, fun j h1 h2 => ?_, fun _ i h1 h2 => ?_, fun i j h1 h2 h3 => ?_⟩⟩
    · simp [made]
    · omega
    · omega
    · omega
    · omega
  | @step k done used cost told more odd S0 h0 h1 h2 h3 ih =>
    refine ⟨by rw [List.length_append, List.length_singleton, ih.len]; omega, by have := ih.d0; omega, h1, fun q => ?_, fun y hy => ?_, fun x hx hz => ?_⟩
    · cases used
      · cases odd
        · cases q
        · exact (h2 rfl).1
      · exact ih.ur rfl
    · rcases List.mem_append.mp hy with hy | hy
      · exact ih.nn y hy
      · rw [List.mem_singleton] at hy
        subst hy
        unfold amt
        have := Int.mul_nonneg h0 (show 0 ≤ L by omega)
        split <;> omega
    · have ek := ih.len
      have hx' : ∀ i, i < told.length → x (a + i) = g told i := fun i hi => by
        rw [hx i (by rw [List.length_append]; omega), g_append_left hi]
      obtain ⟨r1, r2, r3, r4, r5⟩ := ih.run x hx' hz
      have exk : x k = amt L rest more odd := by
        have := hx told.length (by rw [List.length_append, List.length_singleton]; omega)
        rw [← ek, g_append_right (Nat.le_refl _), Nat.sub_self] at this
        rw [this]; rfl
      have es : sumTo x (k + 1) - sumTo x a = made L rest (done + more) (used || odd) := by
        show sumTo x k + x k - sumTo x a = _
        rw [exk]
        unfold made amt at *
        rw [Int.add_mul]
        cases used
        · rw [Bool.false_or]
          rw [if_neg (by decide)] at r1
          omega
        · cases odd
          · rw [Bool.true_or, if_pos rfl, if_neg (by decide)]
            rw [if_pos rfl] at r1
            omega
          · exact absurd (h2 rfl).2 (by decide)
      have ez : stk d x (k + 1) = made L rest (done + more) (used || odd) - (sumTo d (k + 1) - sumTo d a) := by
        unfold stk at hz ⊢
        omega
      refine ⟨es, ?_, fun j j1 j2 => ?_, fun q i i1 i2 => ?_, fun i j i1 i2 i3 i4 => ?_⟩
      · show costTo L d s u h x k + cst L d s u h x k - costTo L d s u h x a = _
        unfold cst stepCost
        rw [ez, exk]
        omega
      · by_cases e : j = k + 1
        · subst e; rw [ez]; omega
        · exact r3 j j1 (by omega)
      · have q1 : used = false := by cases used with
          | false => rfl
          | true => cases q
        have q2 : odd = false := by cases odd with
          | false => rfl
          | true => rw [q1] at q; cases q
        by_cases e : i = k
        · subst e; rw [exk, amt_mod, q2]; rfl
        · exact r4 q1 i i1 (by omega)
      · by_cases e : j = k
        · subst e
          rw [exk, amt_mod]
          cases ho : odd with
          | false => rfl
          | true => exact absurd (r4 (h2 ho).2 i i1 i2) i4
        · exact r5 i j i1 i2 (by omega) i4

theorem whole_split {L : Int} (hL : 0 < L) (w : Int) : w / L * L + w % L = w ∧ 0 ≤ w % L ∧ w % L < L := by
  refine ⟨?_, Int.emod_nonneg _ (by omega), Int.emod_lt_of_pos _ hL⟩
  have := Int.mul_ediv_add_emod w L
  rw [Int.mul_comm] at this
  exact this

theorem made_whole {L : Int} (hL : 0 < L) (w : Int) : made L (w % L) (w / L) (decide (0 < w % L)) = w := by
  obtain ⟨h1, h2, h3⟩ := whole_split hL w
  unfold made
  by_cases h : 0 < w % L
  · rw [decide_eq_true h, if_pos rfl]; exact h1
  · rw [decide_eq_false h, if_neg (by decide)]; omega

theorem whole_nonneg {d : Nat → Int} (hd : ∀ i, 0 ≤ d i) {a e : Nat} (h : a ≤ e) : 0 ≤ whole d a e := by
  have := sumTo_mono hd h
  unfold whole; omega

/-- all at once: there is a whole segment -/
theorem SegE.some {L : Int} {d s u h : Nat → Int} (hL : 0 < L) (hd : ∀ i, 0 ≤ d i) {a e : Nat} (hae : a < e) : ∃ c p, SegE L d s u h a e c p := by
  have w0 := whole_nonneg hd (Nat.le_of_lt hae)
  obtain ⟨h1, h2, h3⟩ := whole_split hL (whole d a e)
  have f0 : 0 ≤ whole d a e / L := Int.ediv_nonneg w0 (by omega)
  have hm := made_whole hL (whole d a e)
  unfold SegE
  generalize whole d a e / L = full at *
  generalize whole d a e % L = rest at *
  have key : ∀ m, a + 1 + m ≤ e → ∃ c p, Seg L d s u h a full rest (a + 1 + m) full (decide (0 < rest)) c p := by
    intro m
    induction m with
    | zero =>
      intro he
      have q := Seg.step (L := L) (d := d) (s := s) (u := u) (h := h) (full := full) (rest := rest) full (decide (0 < rest)) (Seg.nil (a := a)) f0 (by omega) (fun q => ⟨of_decide_eq_true q, rfl⟩)
        (by rw [Int.zero_add, Bool.false_or, hm]; unfold whole; have := sumTo_mono hd (show a + 1 ≤ e by omega); omega)
      rw [Int.zero_add, Bool.false_or] at q
      exact ⟨_, _, q⟩
    | succ m ih =>
      intro he
      obtain ⟨c, p, S⟩ := ih (by omega)
      have q := Seg.step 0 false S (Int.le_refl 0) (by omega) (fun q => by cases q) (by
        rw [Int.add_zero, Bool.or_false, hm]; unfold whole; have := sumTo_mono hd (show a + 1 + m + 1 ≤ e by omega); omega)
      rw [Int.add_zero, Bool.or_false] at q
      exact ⟨_, _, q⟩
  obtain ⟨c, p, S⟩ := key (e - (a + 1)) (by omega)
  rw [show a + 1 + (e - (a + 1)) = e by omega] at S
  exact ⟨c, p, S⟩

structure ChainSound (L : Int) (d s u h : Nat → Int) (e : Nat) (c : Int) (p : List Int) : Prop where
  len : p.length = e
  nn : ∀ y ∈ p, 0 ≤ y
  run : ∀ x : Nat → Int, (∀ i, i < e → x i = g p i) → Plan e d x ∧ costTo L d s u h x e = c ∧ Loaded L e d x

theorem g_mem {p : List Int} {i : Nat} (h : i < p.length) : g p i ∈ p := by
  unfold g
  rw [List.getD_eq_getElem?_getD, List.getElem?_eq_getElem h]
  exact List.getElem_mem h

theorem Chain.sound {L : Int} {d s u h : Nat → Int} (hL : 0 < L) (hd : ∀ i, 0 ≤ d i) {e : Nat} {c : Int} {p : List Int} (C : Chain L d s u h e c p) : ChainSound L d s u h e c p := by
  induction C with
  | nil =>
    refine ⟨rfl, (fun y hy => by cases hy), fun x _ => ⟨⟨fun i hi => by omega, fun k hk => ?_, ?_⟩, rfl, fun a b h1 h2 => by omega⟩⟩
    · have : k = 0 := by omega
      subst this; exact Int.le_refl _
    · rfl
  | @step a e c c' p p' C0 hae S ih =>
    have w0 := whole_nonneg hd (Nat.le_of_lt hae)
    obtain ⟨q1, q2, q3⟩ := whole_split hL (whole d a e)
    have f0 : 0 ≤ whole d a e / L := Int.ediv_nonneg w0 (by omega)
    have T := Seg.sound hL f0 q2 S
    have el := T.len
    refine ⟨by rw [List.length_append, ih.len]; omega, fun y hy => ?_, fun x hx => ?_⟩
    · rcases List.mem_append.mp hy with hy | hy
      · exact ih.nn y hy
      · exact T.nn y hy
    · obtain ⟨P, pc, pl⟩ := ih.run x fun i hi => by rw [hx i (by omega), g_append_left (by rw [ih.len]; exact hi)]
      obtain ⟨r1, r2, r3, r4, r5⟩ := T.run x (fun i hi => by rw [hx (a + i) (by omega), g_append_right (by rw [ih.len]; omega), ih.len, show a + i - a = i by omega]) P.fin
      rw [made_whole hL] at r1
      have fin : stk d x e = 0 := by
        have := P.fin
        unfold stk at this ⊢
        unfold whole at r1
        omega
      refine ⟨⟨fun i hi => ?_, fun k hk => ?_, fin⟩, by omega, fun i j h1 h2 o1 o2 => ?_⟩
      · rw [hx i hi]
        have : g (p ++ p') i ∈ p ++ p' := g_mem (by rw [List.length_append, ih.len]; omega)
        rcases List.mem_append.mp this with hy | hy
        · exact ih.nn _ hy
        · exact T.nn _ hy
      · by_cases e1 : k ≤ a
        · exact P.stk k e1
        · exact r3 k (by omega) hk
      · by_cases j1 : j < a
        · exact pl i j h1 j1 o1 o2
        · by_cases i1 : a ≤ i
          · exact absurd (r5 i j i1 h1 h2 o1) o2
          · exact ⟨a, by omega, by omega, P.fin⟩

theorem mul_lt_cancel {a b L r : Int} (hL : 0 < L) (h : a * L ≤ b * L + r) (hr : r < L) : a ≤ b := by
  have : a * L < (b + 1) * L := by rw [Int.add_mul]; omega
  have := Int.lt_of_mul_lt_mul_right this (by omega)
  omega

/-- the amounts from a up to k as a list -/
def cut (x : Nat → Int) (a : Nat) : Nat → List Int
  | 0 => []
  | m + 1 => cut x a m ++ [x (a + m)]

theorem sum_mod {x : Nat → Int} {L : Int} {a j : Nat} (hL : 0 < L) : ∀ m, (∀ i, a ≤ i → i < a + m → i ≠ j → x i % L = 0) → a ≤ j →
    (sumTo x (a + m) - sumTo x a) % L = (if j < a + m then x j % L else 0)
  | 0, _, hj => by rw [if_neg (by omega), Nat.add_zero, Int.sub_self, Int.zero_emod]
  | m + 1, h, hj => by
    have ih := sum_mod hL m (fun i h1 h2 h3 => h i h1 (by omega) h3) hj
    show (sumTo x (a + m) + x (a + m) - sumTo x a) % L = _
    rw [show sumTo x (a + m) + x (a + m) - sumTo x a = (sumTo x (a + m) - sumTo x a) + x (a + m) by omega, Int.add_emod, ih]
    by_cases e : a + m = j
    · subst e
      rw [if_neg (by omega), if_pos (by omega), Int.zero_add, Int.emod_emod]
    · rw [h (a + m) (by omega) (by omega) e, Int.add_zero]
      by_cases e2 : j < a + m
      · rw [if_pos e2, if_pos (by omega), Int.emod_emod]
      · rw [if_neg e2, if_neg (by omega), Int.zero_emod]

/-- a segment of a plan with at most one odd amount is found -/
theorem SegE.of_plan {L : Int} {d s u h x : Nat → Int} {n : Nat} (hL : 0 < L) (hx : Plan n d x) {a e : Nat} (hae : a < e) (hen : e ≤ n) (za : stk d x a = 0) (ze : stk d x e = 0)
    (one : ∀ i j, a ≤ i → i < j → j < e → x i % L ≠ 0 → x j % L = 0) :
    ∃ p, SegE L d s u h a e (costTo L d s u h x e - costTo L d s u h x a) p := by
  obtain ⟨q1, q2, q3⟩ := whole_split hL (whole d a e)
  have ew : whole d a e = sumTo x e - sumTo x a := by unfold stk at za ze; unfold whole; omega
  have nn : ∀ m, a + m ≤ e → sumTo x (a + m) ≤ sumTo x e := by
    intro m hm
    have key : ∀ t, a + m + t ≤ e → sumTo x (a + m) ≤ sumTo x (a + m + t) := by
      intro t
      induction t with
      | zero => intro _; exact Int.le_refl _
      | succ t ih =>
        intro ht
        have h1 := ih (by omega)
        have h2 := hx.pos (a + m + t) (by omega)
        show sumTo x (a + m) ≤ sumTo x (a + m + t) + x (a + m + t)
        omega
    have := key (e - (a + m)) (by omega)
    rw [show a + m + (e - (a + m)) = e by omega] at this
    exact this
  have rest_of : ∀ j, a ≤ j → j < e → x j % L ≠ 0 → whole d a e % L = x j % L := by
    intro j h1 h2 oj
    have := sum_mod (x := x) (j := j) hL (e - a) (fun i i1 i2 i3 => by
      by_cases c : i < j
      · refine Classical.byContradiction fun oi => oj (one i j i1 c h2 oi)
      · exact one j i h1 (by omega) (by omega) oj) h1
    rw [show a + (e - a) = e by omega, if_pos h2, ← ew] at this
    exact this
  unfold SegE
  generalize hfull : whole d a e / L = full at *
  generalize hrest : whole d a e % L = rest at *
  have key : ∀ m, a + m ≤ e → ∃ done used, Seg L d s u h a full rest (a + m) done used (costTo L d s u h x (a + m) - costTo L d s u h x a) (cut x a m) ∧
      made L rest done used = sumTo x (a + m) - sumTo x a ∧ (used = true → ∃ i, a ≤ i ∧ i < a + m ∧ x i % L ≠ 0) := by
    intro m
    induction m with
    | zero =>
      intro _
      refine ⟨0, false, ?_, ?_, fun q => by cases q⟩
      · rw [show costTo L d s u h x (a + 0) - costTo L d s u h x a = 0 by rw [Nat.add_zero]; omega]
        exact Seg.nil
      · simp [made]
    | succ m ih =>
      intro he
      obtain ⟨done, used, S, em, eu⟩ := ih (by omega)
      have xk := hx.pos (a + m) (by omega)
      obtain ⟨k1, k2, k3⟩ := whole_split hL (x (a + m))
      have mn0 : 0 ≤ x (a + m) / L := Int.ediv_nonneg xk (by omega)
      have sk := hx.stk (a + m + 1) (by omega)
      have le := nn (m + 1) (by omega)
      rw [← Nat.add_assoc] at le
      have es1 : sumTo x (a + m + 1) = sumTo x (a + m) + x (a + m) := rfl
      have fin : ∀ odd : Bool, (odd = true → 0 < rest ∧ used = false) → amt L rest (x (a + m) / L) odd = x (a + m) → (odd = true → x (a + m) % L ≠ 0) →
          ∃ done used, Seg L d s u h a full rest (a + (m + 1)) done used (costTo L d s u h x (a + (m + 1)) - costTo L d s u h x a) (cut x a (m + 1)) ∧
          made L rest done used = sumTo x (a + (m + 1)) - sumTo x a ∧ (used = true → ∃ i, a ≤ i ∧ i < a + (m + 1) ∧ x i % L ≠ 0) := by
        intro odd ho ea hodd
        have em' : made L rest (done + x (a + m) / L) (used || odd) = sumTo x (a + m + 1) - sumTo x a := by
          rw [es1]
          unfold made amt at *
          rw [Int.add_mul]
          cases used
          · rw [Bool.false_or]
            rw [if_neg (by decide)] at em
            omega
          · cases odd
            · rw [Bool.true_or, if_pos rfl]
              rw [if_neg (by decide)] at ea
              rw [if_pos rfl] at em
              omega
            · exact absurd (ho rfl).2 (by decide)
        have dl : done + x (a + m) / L ≤ full := by
          refine mul_lt_cancel (r := rest) hL ?_ q3
          rw [q1, ew]
          have : (done + x (a + m) / L) * L ≤ made L rest (done + x (a + m) / L) (used || odd) := by
            unfold made
            split <;> omega
          omega
        have ne : sumTo d (a + m + 1) - sumTo d a ≤ made L rest (done + x (a + m) / L) (used || odd) := by
          rw [em']
          unfold stk at sk za
          omega
        have S2 := Seg.step (x (a + m) / L) odd S mn0 dl ho ne
        refine ⟨_, _, ?_, em', fun q => ?_⟩
        · have ec : stepCost L d s u h a rest (a + m) done used (costTo L d s u h x (a + m) - costTo L d s u h x a) (x (a + m) / L) odd = costTo L d s u h x (a + (m + 1)) - costTo L d s u h x a := by
            show _ = costTo L d s u h x (a + m) + cst L d s u h x (a + m) - _
            unfold stepCost cst
            rw [ea, em', show sumTo x (a + m + 1) - sumTo x a - (sumTo d (a + m + 1) - sumTo d a) = stk d x (a + m + 1) by unfold stk at za ⊢; omega]
            omega
          rw [ec, ea] at S2
          exact S2
        · cases used
          · cases odd
            · cases q
            · exact ⟨a + m, by omega, by omega, hodd rfl⟩
          · obtain ⟨i, i1, i2, i3⟩ := eu rfl
            exact ⟨i, i1, by omega, i3⟩
      by_cases o : x (a + m) % L = 0
      · refine fin false (fun q => by cases q) ?_ (fun q => by cases q)
        unfold amt
        rw [if_neg (by decide)]
        omega
      · have er := rest_of (a + m) (by omega) (by omega) o
        refine fin true (fun _ => ⟨?_, ?_⟩) ?_ (fun _ => o)
        · omega
        · cases hu : used with
          | false => rfl
          | true =>
            obtain ⟨i, i1, i2, i3⟩ := eu hu
            exact absurd (one i (a + m) i1 i2 (by omega) i3) o
        · unfold amt
          rw [if_pos rfl, er]
          exact k1
  obtain ⟨done, used, S, em, eu⟩ := key (e - a) (by omega)
  rw [show a + (e - a) = e by omega] at S em eu
  rw [← ew, ← q1] at em
  have eq : done = full ∧ used = decide (0 < rest) := by
    cases hu : used with
    | false =>
      rw [hu] at em
      unfold made at em
      rw [if_neg (by decide), Int.add_zero] at em
      have h1 : done ≤ full := mul_lt_cancel (r := rest) hL (by omega) q3
      have h2 : full ≤ done := mul_lt_cancel (r := 0) hL (by omega) hL
      have h3 : done = full := by omega
      subst h3
      exact ⟨rfl, (decide_eq_false (by omega)).symm⟩
    | true =>
      rw [hu] at em
      unfold made at em
      rw [if_pos rfl] at em
      obtain ⟨i, i1, i2, i3⟩ := eu hu
      have er := rest_of i i1 i2 i3
      have h1 : done ≤ full := mul_lt_cancel (r := 0) hL (by omega) hL
      have h2 : full ≤ done := mul_lt_cancel (r := 0) hL (by omega) hL
      obtain ⟨_, k2, _⟩ := whole_split hL (x i)
      exact ⟨by omega, (decide_eq_true (by omega)).symm⟩
  rw [eq.1, eq.2] at S
  exact ⟨_, S⟩

theorem last_zero {d x : Nat → Int} : ∀ m, stk d x 0 = 0 → ∃ a, a ≤ m ∧ stk d x a = 0 ∧ ∀ k, a < k → k ≤ m → stk d x k ≠ 0
  | 0, h => ⟨0, Nat.le_refl _, h, fun k h1 h2 => by omega⟩
  | m + 1, h => by
    by_cases e : stk d x (m + 1) = 0
    · exact ⟨m + 1, Nat.le_refl _, e, fun k h1 h2 => by omega⟩
    · obtain ⟨a, h1, h2, h3⟩ := last_zero m h
      refine ⟨a, by omega, h2, fun k k1 k2 => ?_⟩
      by_cases c : k = m + 1
      · subst c; exact e
      · exact h3 k k1 (by omega)

theorem Chain.of_loaded {L : Int} {d s u h x : Nat → Int} {n : Nat} (hL : 0 < L) (hx : Plan n d x) (hl : Loaded L n d x) :
    ∀ e, e ≤ n → stk d x e = 0 → ∃ p, Chain L d s u h e (costTo L d s u h x e) p := by
  intro e
  induction e using Nat.strongRecOn with
  | ind e ih =>
  intro he ze
  cases e with
  | zero => exact ⟨[], Chain.nil⟩
  | succ m =>
    obtain ⟨a, h1, h2, h3⟩ := last_zero (d := d) (x := x) m rfl
    obtain ⟨p, C⟩ := ih a (by omega) (by omega) h2
    obtain ⟨p', S⟩ := SegE.of_plan (s := s) (u := u) (h := h) hL hx (show a < m + 1 by omega) he h2 ze fun i j i1 i2 i3 o1 => by
      refine Classical.byContradiction fun o2 => ?_
      obtain ⟨k, k1, k2, k3⟩ := hl i j i2 (by omega) o1 o2
      exact h3 k (by omega) (by omega) k3
    have := Chain.step C (show a < m + 1 by omega) S
    rw [show costTo L d s u h x a + (costTo L d s u h x (m + 1) - costTo L d s u h x a) = costTo L d s u h x (m + 1) by omega] at this
    exact ⟨_, this⟩

/-- no plan costs less than some chain -/
theorem Chain.under {L : Int} {d s u h x : Nat → Int} {n : Nat} (hL : 0 < L) (P : Pos d s u h) (hx : Plan n d x) :
    ∃ c p, Chain L d s u h n c p ∧ c ≤ costTo L d s u h x n := by
  obtain ⟨y, y1, y2, y3⟩ := loaded_of hL P (costTo L d s u h x n).toNat (sumTo (fun i => (i : Int) * x i) n).toNat x hx (by omega) (by omega)
  obtain ⟨p, C⟩ := Chain.of_loaded (s := s) (u := u) (h := h) hL y1 y2 n (Nat.le_refl _) y1.fin
  exact ⟨_, p, C, y3⟩

/-- the least of the chains -/
structure Best (L : Int) (d s u h : Nat → Int) (e : Nat) (c : Int) (p : List Int) : Prop where
  chain : Chain L d s u h e c p
  least : ∀ c' p', Chain L d s u h e c' p' → c ≤ c'
structure BestSeg (L : Int) (d s u h : Nat → Int) (a e : Nat) (c : Int) (p : List Int) : Prop where
  seg : SegE L d s u h a e c p
  least : ∀ c' p', SegE L d s u h a e c' p' → c ≤ c'

theorem Best.nil {L : Int} {d s u h : Nat → Int} : Best L d s u h 0 0 [] := by
  refine ⟨Chain.nil, fun c' p' C => ?_⟩
  cases C with
  | nil => exact Int.le_refl _
  | step _ h _ => omega

/-- the least ways to e whose last segment begins before m -/
structure BestTo (L : Int) (d s u h : Nat → Int) (e m : Nat) (c : Int) (p : List Int) : Prop where
  chain : Chain L d s u h e c p
  least : ∀ a ca cs pa ps, a < m → a < e → Chain L d s u h a ca pa → SegE L d s u h a e cs ps → c ≤ ca + cs

theorem BestTo.best {L : Int} {d s u h : Nat → Int} {e : Nat} {c : Int} {p : List Int} (he : 0 < e) (B : BestTo L d s u h e e c p) : Best L d s u h e c p := by
  refine ⟨B.chain, fun c' p' C => ?_⟩
  cases C with
  | nil => omega
  | step C0 h S => exact B.least _ _ _ _ _ h h C0 S

theorem BestTo.first {L : Int} {d s u h : Nat → Int} {e : Nat} {c c' : Int} {p p' : List Int} (he : 0 < e) (A : Best L d s u h 0 c p) (S : BestSeg L d s u h 0 e c' p') : BestTo L d s u h e 1 (c + c') (p ++ p') := by
  refine ⟨Chain.step A.chain he S.seg, fun a ca cs pa ps h1 h2 C T => ?_⟩
  have : a = 0 := by omega
  subst this
  have := A.least _ _ C
  have := S.least _ _ T
  omega

/-- one more start is asked: the new way is taken (t) or not -/
theorem BestTo.more {L : Int} {d s u h : Nat → Int} {e m : Nat} {c c1 c2 : Int} {p p1 p2 : List Int} (hm : m < e) (B : BestTo L d s u h e m c p) (A : Best L d s u h m c1 p1) (S : BestSeg L d s u h m e c2 p2) :
    (c1 + c2 ≤ c → BestTo L d s u h e (m + 1) (c1 + c2) (p1 ++ p2)) ∧ (c ≤ c1 + c2 → BestTo L d s u h e (m + 1) c p) := by
  refine ⟨fun le => ⟨Chain.step A.chain hm S.seg, fun a ca cs pa ps h1 h2 C T => ?_⟩, fun le => ⟨B.chain, fun a ca cs pa ps h1 h2 C T => ?_⟩⟩
  · by_cases e1 : a = m
    · subst e1
      have := A.least _ _ C
      have := S.least _ _ T
      omega
    · have := B.least a ca cs pa ps (by omega) h2 C T
      omega
  · by_cases e1 : a = m
    · subst e1
      have := A.least _ _ C
      have := S.least _ _ T
      omega
    · exact B.least a ca cs pa ps (by omega) h2 C T

end LM

/-! Plain facts about lists: stocks, slices, the two readings of "loaded". -/
namespace LM
def stkL (ds xs : List Int) (m : Nat) : List Int := (List.range m).map fun j => stk (g ds) (g xs) (j + 1)
theorem stkL_succ (ds xs : List Int) (m : Nat) : stkL ds xs (m + 1) = stkL ds xs m ++ [stk (g ds) (g xs) (m + 1)] := by
  unfold stkL
  rw [List.range_succ, List.map_append]
  rfl
theorem stkL_length (ds xs : List Int) (m : Nat) : (stkL ds xs m).length = m := by
  unfold stkL
  rw [List.length_map, List.length_range]
theorem stkL_get {ds xs : List Int} {m i : Nat} (h : i < m) : (stkL ds xs m)[i]? = some (stk (g ds) (g xs) (i + 1)) := by
  unfold stkL
  rw [List.getElem?_map, List.getElem?_range h]
  rfl
theorem stk_succ (d x : Nat → Int) (k : Nat) : stk d x (k + 1) = stk d x k + (x k - d k) := by
  show sumTo x k + x k - (sumTo d k + d k) = sumTo x k - sumTo d k + (x k - d k)
  omega
/-- the sum of a list's first items -/
theorem sum_take (l : List Int) : ∀ k, k ≤ l.length → (l.take k).sum = sumTo (g l) k
  | 0, _ => by simp [sumTo]
  | k + 1, h => by
    rw [List.take_add_one, List.sum_append, sum_take l k (by omega), List.getElem?_eq_getElem (by omega)]
    show sumTo (g l) k + [l[k]].sum = sumTo (g l) k + g l k
    unfold g
    rw [List.getD_eq_getElem?_getD, List.getElem?_eq_getElem (by omega)]
    simp
theorem sum_all (l : List Int) : l.sum = sumTo (g l) l.length := by
  rw [← sum_take l l.length (Nat.le_refl _), List.take_length]
/-- the sum of a slice -/
theorem sum_slice (l : List Int) {a b : Nat} (h1 : a ≤ b) (h2 : b ≤ l.length) : ((l.drop a).take (b - a)).sum = sumTo (g l) b - sumTo (g l) a := by
  have e : l.take b = l.take a ++ (l.drop a).take (b - a) := by
    rw [← List.take_add, show a + (b - a) = b by omega]
  have := congrArg List.sum e
  rw [List.sum_append, sum_take l b h2, sum_take l a (by omega)] at this
  omega
theorem g_nonneg {l : List Int} (h : ∀ x ∈ l, 0 ≤ x) (i : Nat) : 0 ≤ g l i := by
  by_cases hi : i < l.length
  · exact h _ (g_mem hi)
  · unfold g
    rw [List.getD_eq_getElem?_getD, List.getElem?_eq_none (by omega)]
    exact Int.le_refl _
/-- whether at each place that is asked at most one amount is odd since the last stock 0 (the program's own way) -/
def oddRun (L : Int) (d x : Nat → Int) : Nat → Option Int
  | 0 => some 0
  | k + 1 => match oddRun L d x k with
    | none => none
    | some c => if c + (if x k % L ≠ 0 then 1 else 0) > 1 then none else some (if stk d x (k + 1) = 0 then 0 else c + (if x k % L ≠ 0 then 1 else 0))
theorem oddRun_loaded {L : Int} {d x : Nat → Int} {n : Nat} (h : Loaded L n d x) : ∀ k, k ≤ n → ∃ c, oddRun L d x k = some c ∧ 0 ≤ c ∧ c ≤ 1 ∧
    (c = 1 → ∃ a, a < k ∧ x a % L ≠ 0 ∧ ∀ j, a < j → j ≤ k → stk d x j ≠ 0)
  | 0, _ => ⟨0, rfl, Int.le_refl _, by omega, fun q => by omega⟩
  | k + 1, hk => by
    obtain ⟨c, h1, h2, h3, h4⟩ := oddRun_loaded h k (by omega)
    unfold oddRun
    rw [h1]
    by_cases o : x k % L ≠ 0
    · have c0 : c = 0 := by
        refine Classical.byContradiction fun q => ?_
        obtain ⟨a, a1, a2, a3⟩ := h4 (by omega)
        obtain ⟨j, j1, j2, j3⟩ := h a k a1 (by omega) a2 o
        exact a3 j j1 j2 j3
      subst c0
      simp only [o, not_false_eq_true, if_true, ne_eq]
      rw [if_neg (by omega)]
      by_cases z : stk d x (k + 1) = 0
      · exact ⟨0, by rw [if_pos z], by omega, by omega, fun q => by omega⟩
      · refine ⟨1, by rw [if_neg z]; rfl, by omega, by omega, fun _ => ⟨k, by omega, o, fun j j1 j2 => ?_⟩⟩
        have : j = k + 1 := by omega
        subst this
        exact z
    · simp only [o, if_false]
      rw [Int.add_zero, if_neg (by omega)]
      by_cases z : stk d x (k + 1) = 0
      · exact ⟨0, by rw [if_pos z], by omega, by omega, fun q => by omega⟩
      · refine ⟨c, by rw [if_neg z], h2, h3, fun q => ?_⟩
        obtain ⟨a, a1, a2, a3⟩ := h4 q
        refine ⟨a, by omega, a2, fun j j1 j2 => ?_⟩
        by_cases e : j = k + 1
        · subst e; exact z
        · exact a3 j j1 (by omega)
def isLoaded (L : Int) (ds xs : List Int) : Bool := (oddRun L (g ds) (g xs) xs.length).isSome
theorem oddRun_none {L : Int} {d x : Nat → Int} {k : Nat} (h : oddRun L d x k = none) : ∀ m, k ≤ m → oddRun L d x m = none := by
  intro m hm
  induction m with
  | zero =>
    have : k = 0 := by omega
    subst this; exact h
  | succ m ih =>
    by_cases e : k = m + 1
    · subst e; exact h
    · have := ih (by omega)
      unfold oddRun
      rw [this]
end LM
namespace LM
theorem Seg.ge {L : Int} {d s u h : Nat → Int} {a : Nat} {full rest : Int} {k : Nat} {done : Int} {used : Bool} {cost : Int} {told : List Int} (S : Seg L d s u h a full rest k done used cost told) : a ≤ k := by
  induction S with
  | nil => exact Nat.le_refl _
  | step _ _ _ _ _ _ _ ih => omega
theorem Seg.inv0 {L : Int} {d s u h : Nat → Int} {a : Nat} {full rest : Int} {done : Int} {used : Bool} {cost : Int} {told : List Int} (S : Seg L d s u h a full rest a done used cost told) : done = 0 ∧ used = false ∧ cost = 0 := by
  generalize e : a = k at S
  cases S with
  | nil => exact ⟨rfl, rfl, rfl⟩
  | step more odd S0 _ _ _ _ => have := S0.ge; omega
theorem Seg.invS {L : Int} {d s u h : Nat → Int} {a : Nat} {full rest : Int} {k : Nat} {done : Int} {used : Bool} {cost : Int} {told : List Int} (hk : a ≤ k) (S : Seg L d s u h a full rest (k + 1) done used cost told) :
    ∃ (done0 : Int) (used0 : Bool) (cost0 : Int) (told0 : List Int) (more : Int) (odd : Bool), Seg L d s u h a full rest k done0 used0 cost0 told0 ∧ 0 ≤ more ∧ done0 + more ≤ full ∧ (odd = true → 0 < rest ∧ used0 = false) ∧
      sumTo d (k + 1) - sumTo d a ≤ made L rest (done0 + more) (used0 || odd) ∧ done = done0 + more ∧ used = (used0 || odd) ∧ cost = stepCost L d s u h a rest k done0 used0 cost0 more odd := by
  generalize e : k + 1 = k' at S
  cases S with
  | nil => omega
  | step more odd S0 h0 h1 h2 h3 =>
    have : k = _ := Nat.succ.inj e
    subst this
    exact ⟨_, _, _, _, more, odd, S0, h0, h1, h2, h3, rfl, rfl, rfl⟩
theorem whole_le {d : Nat → Int} {a e : Nat} (hd : ∀ i, 0 ≤ d i) (h : ∀ i, d i ≤ 999) (he : e ≤ 12) : whole d a e ≤ 12000 := by
  have key : ∀ k, sumTo d k ≤ 999 * (k : Int) := by
    intro k
    induction k with
    | zero => exact Int.le_refl _
    | succ k ih =>
      show sumTo d k + d k ≤ _
      have := h k
      omega
  have h1 := key e
  have h2 := sumTo_nonneg hd a
  unfold whole
  omega
end LM
namespace LM
/-- a beginning of a plan of D: k amounts -/
structure Beg (D : List Int) (k : Nat) (x : List Int) : Prop where
  len : x.length = k
  nn : ∀ y ∈ x, 0 ≤ y
  stk : ∀ j, j ≤ k → sumTo (g D) j ≤ sumTo (g x) j
  top : sumTo (g x) k ≤ D.sum
theorem Beg.nil (D : List Int) (h : 0 ≤ D.sum) : Beg D 0 [] := ⟨rfl, (fun y hy => by cases hy), fun j hj => by
  have : j = 0 := by omega
  subst this; exact Int.le_refl _, h⟩
theorem sumTo_append {x : List Int} {y : Int} : ∀ j, j ≤ x.length → sumTo (g (x ++ [y])) j = sumTo (g x) j := fun j hj => sumTo_congr fun i hi => g_append_left (by omega)
theorem sumTo_snoc {x : List Int} {y : Int} : sumTo (g (x ++ [y])) (x.length + 1) = sumTo (g x) x.length + y := by
  show sumTo (g (x ++ [y])) x.length + g (x ++ [y]) x.length = _
  rw [sumTo_append x.length (Nat.le_refl _), g_append_right (Nat.le_refl _), Nat.sub_self]
  rfl
theorem Beg.snoc {D x : List Int} {k : Nat} {y : Int} (b : Beg D k x) (h0 : 0 ≤ y) (h1 : sumTo (g D) (k + 1) - sumTo (g x) k ≤ y) (h2 : y ≤ D.sum - sumTo (g x) k) : Beg D (k + 1) (x ++ [y]) := by
  have e := sumTo_snoc (x := x) (y := y)
  rw [b.len] at e
  refine ⟨by rw [List.length_append, b.len]; rfl, fun z hz => ?_, fun j hj => ?_, by rw [e]; omega⟩
  · rcases List.mem_append.mp hz with h | h
    · exact b.nn z h
    · rw [List.mem_singleton] at h; subst h; exact h0
  · by_cases q : j = k + 1
    · subst q; rw [e]; omega
    · rw [sumTo_append j (by rw [b.len]; omega)]
      exact b.stk j (by omega)
theorem Beg.inv {D z : List Int} {k : Nat} (b : Beg D (k + 1) z) : ∃ x y, z = x ++ [y] ∧ Beg D k x ∧ 0 ≤ y ∧ sumTo (g D) (k + 1) - sumTo (g x) k ≤ y ∧ y ≤ D.sum - sumTo (g x) k := by
  obtain ⟨x, y, rfl⟩ : ∃ x y, z = x ++ [y] := by
    refine ⟨z.dropLast, z.getLast (fun h => by have := b.len; rw [h] at this; cases this), ?_⟩
    exact (List.dropLast_concat_getLast _).symm
  have hl : x.length = k := by
    have := b.len
    rw [List.length_append] at this
    simp at this
    exact this
  have e := sumTo_snoc (x := x) (y := y)
  rw [hl] at e
  have t := b.top
  rw [e] at t
  have s1 := b.stk (k + 1) (Nat.le_refl _)
  rw [e] at s1
  have y0 : 0 ≤ y := b.nn y (by simp)
  refine ⟨x, y, rfl, ⟨hl, fun w hw => b.nn w (by simp [hw]), fun j hj => ?_, by omega⟩, y0, by omega, by omega⟩
  have := b.stk j (by omega)
  rw [sumTo_append j (by omega)] at this
  exact this
end LM

set_option Elab.async false
set_option linter.all false
set_option maxRecDepth 100000
set_option maxHeartbeats 4000000
/-! Rules of our own over the hand layer: sum of a tuple, enumerate of a tuple, zip of a tuple and a list, order of pairs (int, tuple of ints). -/
namespace TK
open PySem PySem.Spec PyProof.Rows L2

section
variable {prog : Program} {w : World} {A : Around} {E : Value → Shared → Prop} {s : Shared} {l : Addr}
/-- sum(t), t a tuple of ints -/
theorem sum_tupRaw {its : List Value} {ns : List Int} {Q : Value → Shared → Prop} (hh : A.handled = none) (hl : s.heap.IsTuple l its.toArray) (hi : IntsAre its ns)
    (h : ∀ h' tk t', (∀ b o, s.heap.get? b = some o → h'.get? b = some o) → Q (.int ns.sum t') { s with heap := h', toks := tk }) :
    wpAny (model prog w) A (call (.builtin "sum") [.ref l]) Q E s := by
  obtain ⟨xs, e⟩ := hi.allInts.items
  have hn : numsOf (intItems xs).toList = ns := by rw [← e]; exact hi.numsOf
  rw [nums_intItems] at hn
  rw [e] at hl
  have hlt : l < s.heap.objs.size := by obtain ⟨_, e, _⟩ := id hl; exact Heap.lt_size e
  refine call_sum_walkG (wpAny_pyIter_tuple hl ?_)
  refine ⟨_, [s.heap.objs.size, l], [s.heap.objs.size], _, _, _, numAt xs, rfl, Walks.tuple (A := A.in1) hh _ l (Nat.ne_of_lt hlt) (intItems xs),
    ⟨⟨_, Heap.get?_push_size _ rfl, rfl, rfl⟩, hl.push _⟩, fun b hb => ?_, (fun _ _ => intItems_at), fun h' tk t' hk => ?_⟩
  · show b < (s.heap.push _).objs.size
    rw [Heap.size_push]
    rcases List.mem_cons.mp hb with rfl | hb
    · exact Nat.lt_succ_self _
    · rcases List.mem_cons.mp hb with rfl | hb
      · exact Nat.lt_succ_of_lt hlt
      · cases hb
  · have old : ∀ b o, s.heap.get? b = some o → h'.get? b = some o := fun b o e => by
      refine hk b o (fun hm => ?_) (Heap.get?_push_of_some _ e)
      rcases List.mem_cons.mp hm with e1 | hm
      · exact absurd (e1 ▸ Heap.lt_size e) (Nat.lt_irrefl _)
      · cases hm
    have := h h' tk t' old
    have ez : (intItems xs).size = xs.size := by simp [intItems]
    rw [ez, preSum_eq, List.take_of_length_le (by simp), hn]
    exact this
end
section
variable {X : Cx}
def rSumT (K : PySem.W.Frag) : List V → Hp → VK → Prop := fun vs H Q => ∃ (a : Addr) (ns : List Int), vs = [V.ref a] ∧ SqT K H a (ns.map V.int) ∧ Q (.int ns.sum) H
theorem cr_sumT (hc : X.calm = true) : CallR X (.builtin "sum") (rSumT X.K) := by
  intro pins s σ H vs us Q I r h
  obtain ⟨a, ns, rfl, hs, q⟩ := h
  obtain ⟨its, rv, hl, _⟩ := I.tuple hs
  rw [Vals.ref1 r]
  exact sum_tupRaw (I.ok.hd hc) hl rv.ints fun h' tk t' hk => ⟨.int _, H, I.kept hk, ⟨_, rfl⟩, q⟩
end

/-! ### enumerate(tuple) -/
set_option maxHeartbeats 4000000 in
theorem meets_enumerate_new1 {v : Value} {o : Obj} {H : Heap → Prop} (B : Begins v o H) :
    Meets (Builtin.«enumerate.__new__» ⟨[.type "enumerate", v], []⟩) (fun _ R s => H s.heap ∧
      R (.ok (.ret (.ref (s.heap.push o).objs.size))) { s with heap := (s.heap.push o).push { cls := .type "enumerate", data := .fields #[.none, .bool false, .ref s.heap.objs.size, rawInt 0, .none, .none] } }) :=
  .of_wp fun prog w A R s h => by
    obtain ⟨hp, g, d, tk, os⟩ := s; obtain ⟨h1, h⟩ := h
    have hsub := sub_enumerate
    have q1 : ∀ {A' : Around} {E : Value → Shared → Prop} {Q : Value → Shared → Prop}, Q (.ref hp.objs.size) ⟨hp.push o, g, d, tk, os⟩ → wpAny (model prog w) A' (pyIter v) Q E ⟨hp, g, d, tk, os⟩ :=
      fun q => B.iter prog w _ _ ⟨hp, g, d, tk, os⟩ _ h1 q
    wp_walk using q1
    refine wpAny_stack_any fun st => wpAny_pure ?_
    split
    · rename_i c _ _ _ _ _
      cases (c == Value.type "enumerate")
      · wp_walk using q1
        exact ⟨_, rfl, h⟩
      · wp_walk using q1
        exact ⟨_, rfl, h⟩
    · wp_walk using q1
      exact ⟨_, rfl, h⟩
theorem enum_begins1 {prog : Program} {w : World} {A : Around} {E : Value → Shared → Prop} {s : Shared} {v : Value} {o : Obj} {H : Heap → Prop} {Q : Value → Shared → Prop} (B : Begins v o H) (h1 : H s.heap)
    (h : ∀ h', IsEnum h' (s.heap.objs.size + 1) s.heap.objs.size 0 .none → h'.get? s.heap.objs.size = some o → h'.objs.size = s.heap.objs.size + 2 →
      (∀ b o, s.heap.get? b = some o → h'.get? b = some o) → Q (.ref (s.heap.objs.size + 1)) { s with heap := h' }) :
    wpAny (model prog w) A (call (.type "enumerate") [v]) Q E s := by
  refine callType_new PySem.F.called_enumerate (by decide) (PySem.F.typeCall_enumerate_1 _) (PySem.F.newCall_enumerate_1 _) (fun obj => PySem.F.args_object_init_2 obj _) PySem.F.entry_enumerate_new
    (meets_enumerate_new1 B) ⟨h1, ?_⟩
  have hz : (s.heap.push o).objs.size = s.heap.objs.size + 1 := Heap.size_push ..
  show _ ∧ _
  rw [hz]
  have he : IsEnum ((s.heap.push o).push { cls := .type "enumerate", data := .fields #[.none, .bool false, .ref s.heap.objs.size, rawInt 0, .none, .none] }) (s.heap.objs.size + 1) s.heap.objs.size 0 .none := by
    have := Heap.get?_push_size (s.heap.push o) (o := { cls := .type "enumerate", data := .fields #[.none, .bool false, .ref s.heap.objs.size, rawInt 0, .none, .none] }) rfl
    rw [hz] at this; exact this
  refine ⟨⟨_, he, rfl⟩, h _ he (Heap.get?_push_of_some _ (Heap.get?_push_size _ B.free)) (by rw [Heap.size_push, hz]) fun b o x => Heap.get?_push_of_some _ (Heap.get?_push_of_some _ x)⟩

def IteT (K : PySem.W.Frag) (a : Addr) : It :=
  ⟨fun i H => ∃ (xs : List V) (x : V), SqT K H a xs ∧ xs[i]? = some x, fun i H v H' => ∃ T x, v = .ref T ∧ H T = none ∧ H' = upd H T (.tup [.int (i : Nat), x]) ∧ ∀ xs, SqT K H a xs → xs[i]? = some x, fun i H => ∃ xs : List V, SqT K H a xs ∧ xs.length ≤ i⟩
theorem turn_enumT {P : Program} {w : World} {K : PySem.W.Frag} {elts : List Expr} {kk : Nat} {tpos : Pos} (a e it : Addr) :
    Turn P w K (.Tuple elts kk tpos) (IteT K a) [e, it] e (fun i h => (∃ old, IsEnum h e it ((i : Nat) : Int) old) ∧ h.IsTupleIter it a i ∧ e ≠ it ∧ a ≠ it ∧ e ≠ a) where
  mem := by simp
  obj := fun i h st b hb => by
    obtain ⟨⟨old, he⟩, ⟨o, ho, hc, hd⟩, _⟩ := st
    have e' : b = e ∨ b = it := by simpa using hb
    rcases e' with z | z
    · rw [z]; exact ⟨_, he, fun v q => nomatch q⟩
    · rw [z]; exact ⟨o, ho, fun v q => by rw [hd] at q; cases q⟩
  keep := fun i h h' st k => let ⟨⟨old, he⟩, hi, hne⟩ := st; ⟨⟨old, k e (by simp) _ he⟩, hi.at fun o q => k it (by simp) o q, hne⟩
  item := by
    intro X hP hw hK hc i pins s σ H E I hf st hg
    subst hP hw hK
    obtain ⟨⟨old, he⟩, hit, hne, hai, hea⟩ := st
    obtain ⟨xs, x, hq, hx⟩ := hg
    obtain ⟨its, rv, p, hz⟩ := I.tuple hq
    obtain ⟨u, hu, ru⟩ := rv.get hx
    have hel : e < s.heap.objs.size := Heap.lt_size he
    have hil : it < s.heap.objs.size := by obtain ⟨_, q, _⟩ := hit; exact Heap.lt_size q
    have hlen : i < its.toArray.size := by
      have := (List.getElem?_eq_some_iff.mp hu).1
      simpa using this
    refine wpAny_pyNext_enum_itemD (Draws.tuple (prog := X.prog) (w := X.w) (A := X.A.in1) (I.ok.hd hc) it a hai its.toArray) he ⟨hit, p⟩ hlen hne (by simp [hne, hea]) fun u' h' tk hu' ho hst' hT hsz hk => ?_
    obtain ⟨hit', _⟩ := hst'
    have eu : u' = u := by
      rw [List.getElem?_toArray] at hu'
      exact Option.some.inj (hu'.symm.trans hu)
    subst eu
    refine ⟨_, rfl, wpAny_letOwnedTupleGo_enum (s := { s with heap := h', toks := tk + 1 }) ho fun h'' he' sb => ?_⟩
    have hT2 : h''.get? s.heap.objs.size = some { cls := .type "tuple", data := .seq #[.int i tk, u'] } := (sb.2 _ (Nat.ne_of_gt hel)).trans hT
    have new : ObjOk X.prog X.w (upd H s.heap.objs.size (.tup [.int (i : Nat), x])) h'' s.heap.objs.size (.tup [.int (i : Nat), x]) :=
      ⟨by show 2 ≤ sizeLine; decide, [.int i tk, u'], .cons ⟨_, rfl⟩ (.cons ru .nil), ⟨_, hT2, rfl, _, rfl⟩⟩
    have I1 : Inv X pins σ (upd H s.heap.objs.size (.tup [.int (i : Nat), x])) { s with heap := h'', toks := tk + 1 } :=
      I.turnedNew (ch := [e, it]) (fun b ob hb q => (sb.2 b (fun z => hb (by simp [z]))).trans (hk b ob (fun z => hb (by simp [z])) (fun z => hb (by simp [z])) q)) hf (Nat.le_refl _) new
    refine ⟨.ref s.heap.objs.size, _, I1, rfl, ⟨_, x, rfl, I.hok.fresh (Nat.le_refl _), rfl, fun ys hy => by rw [I.tuple_inj hy hq]; exact hx⟩, ⟨⟨u', ?_⟩, hit'.at fun o q => (sb.2 it (Ne.symm hne)).trans q, hne, hai, hea⟩, fun b hb => ?_⟩
    · have e1 : ((i + 1 : Nat) : Int) = (i : Int) + 1 := by omega
      rw [e1]; exact he'
    · have hb' : b < s.heap.objs.size := by
        have e' : b = e ∨ b = it := by simpa using hb
        rcases e' with z | z
        · rw [z]; exact hel
        · rw [z]; exact hil
      rw [upd_ne (Nat.ne_of_lt hb')]
      exact (hf b hb).1
  done := by
    intro X hP hw hK hc i pins s σ H E I hf st hg
    subst hP hw hK
    obtain ⟨⟨old, he⟩, hit, hne, hai, hea⟩ := st
    obtain ⟨xs, hq, hx⟩ := hg
    obtain ⟨its, rv, p, hz⟩ := I.tuple hq
    obtain ⟨f0, f1, f2, f3, f4, f5⟩ := hf it (by simp)
    have hl := rv.length
    have hT : s.TypeIs (.ref e) "enumerate" := ⟨_, he, rfl⟩
    unfold pyNext
    refine wpAny_bind (wpAny_attempt (wpAny_callSpecial?_slot (name := Str.ofString "__next__") hT PySem.F.slot_enumerate_next
      (wpAny_call_entry PySem.F.slot_enumerate_next hT PySem.F.entry_enumerate_next ?_ (PySem.F.args_enumerate_next_1 _))))
    show wpAny _ _ (field (.ref e) 2 >>= _) _ _ _
    refine wpAny_bind (wpAny_field he rfl (x := .ref it) rfl ?_)
    refine wpAny_bind (wpAny_nextOf_tuple_end (I.ok.hd hc) hit p (by simp; omega) fun h' x he' hx' => ?_)
    obtain ⟨o, ho, hc'⟩ := hx'
    refine wpAny_bind (wpAny_isInstance (T := "StopIteration") (b := true) ⟨o, ho, hc'⟩ isSubtype_stop ?_)
    exact wpAny_pure ⟨rfl, I.turned (t' := s.toks) (fun b o hb q => he' b o hb q) f0 f1 f3 f4 f5⟩
  self := fun A i s Q E st h => let ⟨⟨_, he⟩, _⟩ := st; wpAny_pyIter_enum he h
def iEnumT (K : PySem.W.Frag) (ta : TA) : TI := fun σ H R => ta σ H fun vs H1 => ∃ a xs, vs = [.ref a] ∧ SqT K H1 a xs ∧ R (IteT K a) H1
theorem pi_enumT {X : Cx} {e : Expr} {ta : TA} {p pos tpos : Pos} {elts : List Expr} {kk : Nat} (hg : Gl X "enumerate") (hm : X.mg "enumerate" = none) (ha : PA X [e] ta) (hs : starEach [e] X.env = [(false, eval e X.env)] := by rfl) :
    PI X (.Tuple elts kk tpos) (.Call (.Name "enumerate" p) [e] [] pos) (iEnumT X.K ta) := by
  refine ⟨fun pins s σ H R I h => ?_⟩
  refine Call_ (ld_blt I hg hm boot_enumerate (PyProof.Rows.callWith_type1 (thn (ha.run pos pins s σ H _ I h) fun us s1 ⟨vs, H1, I1, r1, q1⟩ => ?_) hs rfl))
  obtain ⟨a, xs, ex, hq, q⟩ := q1
  subst ex
  cases r1 with
  | cons r rr =>
    cases rr
    cases r
    obtain ⟨its, rv, p', hz⟩ := I1.tuple hq
    have hal : a < s1.heap.objs.size := by obtain ⟨_, e, _⟩ := id p'; exact Heap.lt_size e
    refine enum_begins1 (begins_tuple a its.toArray) (show s1.heap.IsTuple a its.toArray from p') fun h' he ho hsz hk => wpAny_pyIter_enum he ?_
    have I2 : Inv X pins σ H1 { s1 with heap := h' } := I1.kept (t' := s1.toks) hk
    refine ⟨s1.heap.objs.size + 1, [s1.heap.objs.size + 1, s1.heap.objs.size], _, _, H1, rfl, I2, turn_enumT a (s1.heap.objs.size + 1) s1.heap.objs.size, ⟨⟨.none, he⟩, ⟨_, ho, rfl, rfl⟩, Nat.succ_ne_self _, Nat.ne_of_lt hal, Ne.symm (Nat.ne_of_lt (Nat.lt_succ_of_lt hal))⟩, fun b hb => ?_, q⟩
    have e' : b = s1.heap.objs.size + 1 ∨ b = s1.heap.objs.size := by simpa using hb
    have hle : s1.heap.objs.size ≤ b := by
      rcases e' with z | z
      · rw [z]; exact Nat.le_add_right _ _
      · rw [z]; exact Nat.le_refl _
    exact I1.fpOk hle (I1.hok.fresh hle)
theorem walk_enumT {K : PySem.W.Frag} {a : Addr} {xs : List V} : Walk (IteT K a) xs.length (fun H => SqT K H a xs) (YPair (fun i => some (.int (i : Nat))) (fun i => xs[i]?)) := by
  refine ⟨fun i _ hi q => ⟨xs, xs[i], q, by simp [hi]⟩, fun _ q => ⟨xs, q, Nat.le_refl _⟩, fun i H v H' _ q y => ?_⟩
  obtain ⟨T, x, h1, h2, h3, h4⟩ := y
  exact ⟨T, .int (i : Nat), x, h1, h2, h3, rfl, h4 xs q⟩
end TK

namespace TK
open PySem PySem.Spec PyProof.Rows L2

/-- a walk that gives out new pairs, by GoesN -/
theorem turnP {P : Program} {w : World} {K : PySem.W.Frag} {tg : Expr} {J : It} {fp : List Addr} {it : Addr} {tn : Nat → Heap → Prop} (mem : it ∈ fp)
    (obj : ∀ i h, tn i h → ∀ b ∈ fp, ∃ o, h.get? b = some o ∧ ∀ v, o.data ≠ .cell v)
    (keep : ∀ i h h', tn i h → (∀ b ∈ fp, ∀ o, h.get? b = some o → h'.get? b = some o) → tn i h')
    (hgo : ∀ (X : Cx), X.prog = P → X.w = w → X.K = K → X.calm = true → ∀ (i : Nat) (pins : List (Addr × Obj)) (s : Shared) (σ : L2.St) (H : Hp), Inv X pins σ H s → (∀ b ∈ fp, FpOk X pins H b) → tn i s.heap → J.go i H →
      ∃ (FP WR : List Addr) (n : Nat) (Y : Nat → Heap → Value → Heap → Prop) (St : Nat → Heap → Prop) (x1 x2 : V), GoesN P w X.A tg it FP WR n Y St ∧ i < n ∧ St i s.heap ∧ (∀ b ∈ WR, b ∈ fp) ∧ (∀ h', St (i + 1) h' → tn (i + 1) h') ∧
        (∀ h0 v h, Y i h0 v h → ∃ T u1 u2, v = .ref T ∧ h0.objs.size ≤ T ∧ h.IsTuple T #[u1, u2] ∧ RelV x1 u1 ∧ RelV x2 u2) ∧ ∀ T, H T = none → J.yld i H (.ref T) (upd H T (.tup [x1, x2])))
    (hstop : ∀ (X : Cx), X.prog = P → X.w = w → X.K = K → X.calm = true → ∀ (i : Nat) (pins : List (Addr × Obj)) (s : Shared) (σ : L2.St) (H : Hp), Inv X pins σ H s → (∀ b ∈ fp, FpOk X pins H b) → tn i s.heap → J.stop i H →
      ∃ (FP WR : List Addr) (n : Nat) (Y : Nat → Heap → Value → Heap → Prop) (St : Nat → Heap → Prop), GoesN P w X.A tg it FP WR n Y St ∧ St n s.heap ∧ ∀ b ∈ WR, b ∈ fp)
    (self : ∀ (A : Around) (i : Nat) (s : Shared) (Q : Value → Shared → Prop) (E : Value → Shared → Prop), tn i s.heap → Q (.ref it) s → wpAny (model P w) A (pyIter (.ref it)) Q E s) : Turn P w K tg J fp it tn where
  mem := mem
  obj := obj
  keep := keep
  item := by
    intro X hP hw hK hc i pins s σ H E I hf st hg
    obtain ⟨FP, WR, n, Y, St, x1, x2, G, hi, hst, hsub, hnext, hY, hyld⟩ := hgo X hP hw hK hc i pins s σ H I hf st hg
    refine wpAny_mono (G.goes i s (fun u s2 => ∃ x H', Inv X pins σ H' s2 ∧ RelV x u ∧ J.yld i H x H' ∧ tn (i + 1) s2.heap ∧ ∀ b ∈ fp, H' b = none) E hi hst fun v h' tk hy st' hk htk => ?_) (fun r s1 q => q) fun _ _ q => q
    obtain ⟨T, u1, u2, rfl, hT, hI, r1, r2⟩ := hY _ _ _ hy
    have hT' : s.heap.objs.size ≤ T := hT
    have hn : H T = none := I.hok.fresh hT'
    have new : ObjOk X.prog X.w (upd H T (.tup [x1, x2])) h' T (.tup [x1, x2]) := ⟨by show 2 ≤ sizeLine; decide, [u1, u2], .cons r1 (.cons r2 .nil), hI⟩
    have I1 : Inv X pins σ (upd H T (.tup [x1, x2])) { s with heap := h', toks := tk } := I.turnedNew (t' := tk) (ch := fp) (fun b o hb q => hk b o (fun z => hb (hsub b z)) q) hf hT' new
    refine ⟨.ref T, _, I1, rfl, hyld T hn, hnext _ st', fun b hb => ?_⟩
    obtain ⟨o, ho, _⟩ := obj i _ st b hb
    rw [upd_ne (Nat.ne_of_lt (Nat.lt_of_lt_of_le (Heap.lt_size ho) hT'))]
    exact (hf b hb).1
  done := by
    intro X hP hw hK hc i pins s σ H E I hf st hg
    obtain ⟨FP, WR, n, Y, St, G, hst, hsub⟩ := hstop X hP hw hK hc i pins s σ H I hf st hg
    refine G.stops s (fun s1 => Inv X pins σ H s1) E hst fun h' tk hk htk => ?_
    exact I.turnedL (t' := tk) (ch := fp) (fun b o hb q => hk b o (fun z => hb (hsub b z)) q) hf
  self := self

/-! ### zip(tuple, list) -/
def ItzTL (K : PySem.W.Frag) (a b : Addr) : It :=
  ⟨fun i H => ∃ (xs ys : List V) (x y : V), SqT K H a xs ∧ SqL K H b ys ∧ xs[i]? = some x ∧ ys[i]? = some y,
    fun i H v H' => ∃ T x y, v = .ref T ∧ H T = none ∧ H' = upd H T (.tup [x, y]) ∧ (∀ xs, SqT K H a xs → xs[i]? = some x) ∧ ∀ ys, SqL K H b ys → ys[i]? = some y,
    fun i H => ∃ xs ys : List V, SqT K H a xs ∧ SqL K H b ys ∧ i = min xs.length ys.length⟩
theorem turn_zipTL {P : Program} {w : World} {K : PySem.W.Frag} {elts : List Expr} {kk : Nat} {tpos : Pos} {a b z TI TO i1 i2 : Addr} (D : ZipSep2 z TI TO i1 i2 [i1, a] [i2, b]) (ha : a ≠ i1) (hb : b ≠ i2) :
    Turn P w K (.Tuple elts kk tpos) (ItzTL K a b) [z, TI, TO, i1, i2] z (fun i h => IsZip h z TI TO .none ∧ IsTupOf2 h TI (.ref i1) (.ref i2) ∧ (∃ x y, IsTupOf2 h TO x y) ∧ h.IsTupleIter i1 a i ∧ h.IsListIter i2 b i) := by
  refine turnP (by simp) (fun i h st c hc => ?_) (fun i h h' st k => ?_) (fun X hP hw hK hc i pins s σ H I hf st hg => ?_) (fun X hP hw hK hc i pins s σ H I hf st hg => ?_) fun A i s Q E st h => wpAny_pyIter_zip st.1 h
  · obtain ⟨hz, hTI, ⟨x, y, hTO⟩, ⟨o1, e1, _, d1⟩, ⟨o2, e2, _, d2⟩⟩ := st
    have e' : c = z ∨ c = TI ∨ c = TO ∨ c = i1 ∨ c = i2 := by simpa using hc
    rcases e' with q | q | q | q | q
    · rw [q]; exact ⟨_, hz, fun v q => nomatch q⟩
    · rw [q]; exact ⟨_, hTI, fun v q => nomatch q⟩
    · rw [q]; exact ⟨_, hTO, fun v q => nomatch q⟩
    · rw [q]; exact ⟨o1, e1, fun v q => by rw [d1] at q; cases q⟩
    · rw [q]; exact ⟨o2, e2, fun v q => by rw [d2] at q; cases q⟩
  · obtain ⟨hz, hTI, ⟨x, y, hTO⟩, h1, h2⟩ := st
    exact ⟨k z (by simp) _ hz, k TI (by simp) _ hTI, ⟨x, y, k TO (by simp) _ hTO⟩, h1.at fun o q => k i1 (by simp) o q, h2.at fun o q => k i2 (by simp) o q⟩
  · subst hP hw hK
    obtain ⟨hz, hTI, hTO, h1, h2⟩ := st
    obtain ⟨xs, ys, x, y, hqx, hqy, hx, hy⟩ := hg
    obtain ⟨its, rv, p, _⟩ := I.tuple hqx
    obtain ⟨its2, rv2, p2, _⟩ := I.list hqy
    obtain ⟨u, hu, ru⟩ := rv.get hx
    obtain ⟨u2, hu2, ru2⟩ := rv2.get hy
    have l1 : i < its.toArray.size := by have := (List.getElem?_eq_some_iff.mp hu).1; simpa using this
    have l2 : i < its2.toArray.size := by have := (List.getElem?_eq_some_iff.mp hu2).1; simpa using this
    refine ⟨_, _, _, _, _, x, y, GoesN.zip2 D (Draws.tuple (A := X.A.in1) (I.ok.hd hc) i1 a ha its.toArray) (Draws.list (A := X.A.in1) (I.ok.hd hc) i2 b hb its2.toArray), Nat.lt_min.mpr ⟨l1, l2⟩,
      ⟨hz, hTI, hTO, ⟨h1, p⟩, ⟨h2, p2.isList⟩⟩, fun c hc => ?_, fun h' st' => ?_, fun h0 v h y' => ?_, fun T hn => ⟨T, x, y, rfl, hn, rfl, fun l hl => by rw [I.tuple_inj hl hqx]; exact hx, fun l hl => by rw [I.list_inj hl hqy]; exact hy⟩⟩
    · have e' : c = z ∨ c = TO ∨ c = i1 ∨ c = i2 := by simpa using hc
      rcases e' with q | q | q | q <;> rw [q] <;> simp
    · obtain ⟨a1, a2, a3, ⟨a4, _⟩, a5, _⟩ := st'
      exact ⟨a1, a2, a3, a4, a5⟩
    · obtain ⟨T, x', y', e1, e2, e3, e4, e5⟩ := y'
      have q1 : x' = u := by rw [List.getElem?_toArray] at e3; exact Option.some.inj (e3.symm.trans hu)
      have q2 : y' = u2 := by rw [List.getElem?_toArray] at e4; exact Option.some.inj (e4.symm.trans hu2)
      subst q1 q2
      exact ⟨T, _, _, e1, e2, e5, ru, ru2⟩
  · subst hP hw hK
    obtain ⟨hz, hTI, hTO, h1, h2⟩ := st
    obtain ⟨xs, ys, hqx, hqy, hi⟩ := hg
    obtain ⟨its, rv, p, _⟩ := I.tuple hqx
    obtain ⟨its2, rv2, p2, _⟩ := I.list hqy
    have l1 := rv.length
    have l2 := rv2.length
    have ei : i = min its.toArray.size its2.toArray.size := by simp; omega
    refine ⟨_, _, _, _, _, GoesN.zip2 D (Draws.tuple (A := X.A.in1) (I.ok.hd hc) i1 a ha its.toArray) (Draws.list (A := X.A.in1) (I.ok.hd hc) i2 b hb its2.toArray), ?_, fun c hc => ?_⟩
    · rw [← ei]
      exact ⟨hz, hTI, hTO, ⟨h1, p⟩, ⟨h2, p2.isList⟩⟩
    · have e' : c = z ∨ c = TO ∨ c = i1 ∨ c = i2 := by simpa using hc
      rcases e' with q | q | q | q <;> rw [q] <;> simp
def iZipTL (K : PySem.W.Frag) (ta : TA) : TI := fun σ H R => ta σ H fun vs H1 => ∃ a b xs ys, vs = [.ref a, .ref b] ∧ SqT K H1 a xs ∧ SqL K H1 b ys ∧ R (ItzTL K a b) H1
theorem pi_zipTL {X : Cx} {e e2 : Expr} {ta : TA} {p pos tpos : Pos} {elts : List Expr} {kk : Nat} (hg : Gl X "zip") (hm : X.mg "zip" = none) (ha : PA X [e, e2] ta)
    (hs : starEach [e, e2] X.env = (false, eval e X.env) :: starEach [e2] X.env := by rfl) (hpl : (backTo pos (starEach [e2] X.env)).any (·.1) = false := by rfl) :
    PI X (.Tuple elts kk tpos) (.Call (.Name "zip" p) [e, e2] [] pos) (iZipTL X.K ta) := by
  refine ⟨fun pins s σ H R I h => ?_⟩
  refine Call_ (ld_blt I hg hm PyProof.Rows.boot_zip (PyProof.Rows.callWith_type1 (thn (ha.run pos pins s σ H _ I h) fun us s1 ⟨vs, H1, I1, r1, q1⟩ => ?_) hs hpl))
  obtain ⟨a, b, xs, ys, ex, hqx, hqy, q⟩ := q1
  subst ex
  cases r1 with
  | cons r rr =>
    cases rr with
    | cons r' rr =>
      cases rr
      cases r
      cases r'
      have fresh5 : ∀ c, c ∈ [s1.heap.objs.size + 4, s1.heap.objs.size + 2, s1.heap.objs.size + 3, s1.heap.objs.size, s1.heap.objs.size + 1] → FpOk X pins H1 c := fun c hcm => by
        have e' : c = s1.heap.objs.size + 4 ∨ c = s1.heap.objs.size + 2 ∨ c = s1.heap.objs.size + 3 ∨ c = s1.heap.objs.size ∨ c = s1.heap.objs.size + 1 := by simpa using hcm
        have hle : s1.heap.objs.size ≤ c := by
          rcases e' with z | z | z | z | z
          · rw [z]; exact Nat.le_add_right _ _
          · rw [z]; exact Nat.le_add_right _ _
          · rw [z]; exact Nat.le_add_right _ _
          · rw [z]; exact Nat.le_refl _
          · rw [z]; exact Nat.le_add_right _ _
        exact I1.fpOk hle (I1.hok.fresh hle)
      obtain ⟨its, rv, p1, _⟩ := I1.tuple hqx
      obtain ⟨its2, rv2, p2, _⟩ := I1.list hqy
      have hal : a < s1.heap.objs.size := by obtain ⟨_, e, _⟩ := id p1; exact Heap.lt_size e
      have hbl : b < s1.heap.objs.size := p2.lt
      refine zip_begins2 (begins_tuple a its.toArray) (begins_list b its2.toArray) (show s1.heap.IsTuple a its.toArray from p1) p2.isList fun h' hz hTI hTO h1 h2 hsz hk => wpAny_pyIter_zip hz ?_
      have I2 : Inv X pins σ H1 { s1 with heap := h' } := I1.kept (t' := s1.toks) hk
      have D := zip_sep2 (N := s1.heap.objs.size) (fp1 := [a]) (fp2 := [b]) (by simpa using hal) (by simpa using hbl)
      exact ⟨s1.heap.objs.size + 4, [s1.heap.objs.size + 4, s1.heap.objs.size + 2, s1.heap.objs.size + 3, s1.heap.objs.size, s1.heap.objs.size + 1], _, _, H1, rfl, I2,
        turn_zipTL D (Nat.ne_of_lt hal) (Nat.ne_of_lt (Nat.lt_succ_of_lt hbl)), ⟨hz, hTI, ⟨_, _, hTO⟩, ⟨_, h1, rfl, rfl⟩, ⟨_, h2, rfl, rfl⟩⟩, fresh5, q⟩
theorem walk_zipTL {K : PySem.W.Frag} {a b : Addr} {xs ys : List V} {n : Nat} (h1 : xs.length = n) (h2 : ys.length = n) : Walk (ItzTL K a b) n (fun H => SqT K H a xs ∧ SqL K H b ys) (YPair (fun i => xs[i]?) (fun i => ys[i]?)) := by
  refine ⟨fun i _ hi q => ?_, fun _ q => ⟨xs, ys, q.1, q.2, by omega⟩, fun i H v H' _ q y => ?_⟩
  · exact ⟨xs, ys, xs[i], ys[i], q.1, q.2, List.getElem?_eq_getElem _, List.getElem?_eq_getElem _⟩
  · obtain ⟨T, x, z, h1, h2, h3, h4, h5⟩ := y
    exact ⟨T, x, z, h1, h2, h3, h4 xs q.1, h5 ys q.2⟩
end TK

namespace TK
open PySem PySem.Spec PyProof.Rows L2

/-! ### (int, tuple of ints) < (int, tuple of ints) -/
abbrev dI (ns : List Int) : List PyData := ns.map PyData.int
theorem dpAll_ints {K : PySem.W.Frag} {H : Hp} : ∀ ns : List Int, DpAll K H (ns.map V.int) (dI ns)
  | [] => .nil
  | n :: ns => .cons (.int n) (dpAll_ints ns)
theorem alikeAll_ints : ∀ ns ms : List Int, PySem.W.alikeAll (dI ns) (dI ms) = true
  | [], _ => by simp [dI, PySem.W.alikeAll]
  | _ :: _, [] => by simp [dI, PySem.W.alikeAll]
  | n :: ns, m :: ms => by
    have := alikeAll_ints ns ms
    simp [dI, PySem.W.alikeAll, PySem.W.alike] at this ⊢
    exact this
theorem depthAll_ints : ∀ ns : List Int, PyData.depthAll (dI ns) ≤ 1
  | [] => by simp [dI, PyData.depthAll]
  | n :: ns => by
    have := depthAll_ints ns
    simp [dI, PyData.depthAll, PyData.depth] at this ⊢
    omega
def dP (a : Int) (ns : List Int) : PyData := .tuple [.int a, .tuple (dI ns)]
theorem alike_dP (a b : Int) (ns ms : List Int) : PySem.W.alike (dP a ns) (dP b ms) = true := by
  have := alikeAll_ints ns ms
  simp [dP, PySem.W.alike, PySem.W.alikeAll, this]
theorem depth_dP (a : Int) (ns : List Int) : (dP a ns).depth ≤ 60 := by
  have := depthAll_ints ns
  simp [dP, PyData.depth, PyData.depthAll]
  omega
theorem dataLt_dP (a b : Int) (ns ms : List Int) : (PySem.W.dataLt (dP a ns) (dP b ms) = true → a ≤ b) ∧ (PySem.W.dataLt (dP a ns) (dP b ms) = false → b ≤ a) := by
  unfold dP
  rw [PySem.W.dataLt_tuple]
  simp only [PySem.W.keyToksAll, PySem.W.keyToks, List.cons_append, List.nil_append]
  rw [PyProof.Rows.lex_self (O := itemOrd)]
  by_cases h : a = b
  · subst h
    exact ⟨fun _ => Int.le_refl _, fun _ => Int.le_refl _⟩
  · rw [PyProof.Rows.lex_diff (O := itemOrd) (fun q => h (Sum.inl.inj q))]
    show (decide (a < b) = true → _) ∧ (decide (a < b) = false → _)
    refine ⟨fun q => ?_, fun q => ?_⟩
    · have := of_decide_eq_true q; omega
    · have := of_decide_eq_false q; omega
def rLtP (K : PySem.W.Frag) : R2 := fun x y H Q => ∃ (p q ts us : Addr) (a b : Int) (ns ms : List Int), x = .ref p ∧ y = .ref q ∧ SqT K H p [.int a, .ref ts] ∧ SqT K H ts (ns.map V.int) ∧ SqT K H q [.int b, .ref us] ∧ SqT K H us (ms.map V.int) ∧
  ∀ c : Bool, (c = true → a ≤ b) → (c = false → b ≤ a) → Q (.bl c) H
theorem op_ltP {X : Cx} (hu : X.A.units + 64 < cLine) : OpR X (compareOp .Lt) (rLtP X.K) := by
  intro pins s σ H x y v u Q I rx ry h
  obtain ⟨p, q, ts, us, a, b, ns, ms, rfl, rfl, h1, h2, h3, h4, k⟩ := h
  have d1 : Dp X.K H (.ref p) (dP a ns) := .tup h1 (.cons (.int a) (.cons (.tup h2 (dpAll_ints ns)) .nil))
  have d2 : Dp X.K H (.ref q) (dP b ms) := .tup h3 (.cons (.int b) (.cons (.tup h4 (dpAll_ints ms)) .nil))
  obtain ⟨as, r1⟩ := Dp.reads I _ _ v d1 rx
  obtain ⟨bs, r2⟩ := Dp.reads I _ _ u d2 ry
  have e1 := depth_dP a ns
  have hd : X.A.units + min (dP a ns).depth (dP b ms).depth < cLine := by omega
  obtain ⟨k1, k2⟩ := dataLt_dP a b ns ms
  exact PySem.W.rcLt_alike (dP a ns) (dP b ms) X.A s v u as bs r1 r2 (alike_dP a b ns ms) (by unfold dP; simp) hd X.prog X.w _ _ ⟨.bl _, H, I, rfl, k _ k1 k2⟩
end TK

namespace TK
open PySem PySem.Spec PyProof.Rows L2

/-! ### dicts whose keys are pairs (int, bool), whose values are objects -/
abbrev KY := Int × Bool
abbrev DE := KY × Addr × Addr
def kk (k : KY) : List Leaf := [.num k.1, .num (if k.2 = true then 1 else 0)]
theorem kk_inj {a b : KY} (h : kk a = kk b) : a = b := by
  obtain ⟨i, x⟩ := a
  obtain ⟨j, y⟩ := b
  unfold kk at h
  simp only [List.cons.injEq, Leaf.num.injEq, and_true] at h
  obtain ⟨h1, h2⟩ := h
  have h3 : x = y := by cases x <;> cases y <;> simp_all
  rw [h1, h3]
def encE (e : DE) : List Leaf × Addr × Value := (kk e.1, e.2.1, .ref e.2.2)
abbrev KN (P : Program) (w : World) : HeapKind P w (List Leaf) := tupleKind (leafKind P w)
def DBphi (P : Program) (w : World) (a : Addr) (xs : List DE) (h : Heap) : Prop :=
  ((xs.map (·.1)).Nodup ∧ xs.length ≤ sizeLine ∧ (a == sysModules) = false) ∧ ∃ o es ep, h.get? a = some o ∧ o.ExactDict ∧ o.data = .dict es ep ∧ es.toList = (xs.map encE).map (entryOfKey (KN P w))
def DB (P : Program) (w : World) (a : Addr) (xs : List DE) : HO := .ext (DBphi P w a xs)
/-- the keys' tuples stand -/
def KeysIn (H : Hp) (xs : List DE) : Prop := ∀ e ∈ xs, H e.2.1 = some (.tup [.int e.1.1, .bl e.1.2])
def lookD (xs : List DE) (k : KY) : Option (Addr × Addr) := (xs.find? fun e => decide (e.1 = k)).map (·.2)
def putE (k : KY) (va : Addr) (e : DE) : DE := if e.1 = k then (e.1, e.2.1, va) else e
def putD (xs : List DE) (k : KY) (ka va : Addr) : List DE := if (lookD xs k).isSome then xs.map (putE k va) else xs ++ [(k, ka, va)]

theorem atKey_enc (xs : List DE) (k : KY) : atKey (xs.map encE) (kk k) = (lookD xs k).map fun p => (p.1, Value.ref p.2) := by
  unfold atKey lookD
  induction xs with
  | nil => rfl
  | cons e xs ih =>
    rw [List.map_cons, List.find?_cons, List.find?_cons]
    by_cases h : e.1 = k
    · have h' : (encE e).1 = kk k := by show kk e.1 = kk k; rw [h]
      rw [decide_eq_true h, decide_eq_true h']
      rfl
    · have h' : ¬ (encE e).1 = kk k := fun q => h (kk_inj q)
      rw [decide_eq_false h, decide_eq_false h']
      exact ih
theorem stored_enc (xs : List DE) (k : KY) (ka va : Addr) : storedH (xs.map encE) (kk k) ka (.ref va) = (putD xs k ka va).map encE := by
  unfold storedH putD
  rw [atKey_enc, Option.isSome_map]
  split
  · rw [List.map_map, List.map_map]
    refine List.map_congr_left fun e _ => ?_
    show putAt (kk k) (.ref va) (encE e) = encE (putE k va e)
    unfold putAt putE
    by_cases h : e.1 = k
    · have h' : (encE e).1 = kk k := by show kk e.1 = kk k; rw [h]
      rw [if_pos h, if_pos h']; rfl
    · have h' : ¬ (encE e).1 = kk k := fun q => h (kk_inj q)
      rw [if_neg h, if_neg h']
  · rw [List.map_append]; rfl
theorem enc_nodup {xs : List DE} (h : (xs.map (·.1)).Nodup) : ((xs.map encE).map (·.1)).Nodup := by
  rw [List.map_map]
  rw [List.nodup_iff_pairwise_ne, List.pairwise_map] at h ⊢
  exact h.imp fun {a b} q r => q (kk_inj r)
theorem lookD_none {xs : List DE} {k : KY} (h : lookD xs k = none) : ∀ e ∈ xs, e.1 ≠ k := fun e he q => by
  unfold lookD at h
  rw [Option.map_eq_none_iff] at h
  have := List.find?_eq_none.mp h e he
  simp [q] at this
theorem lookD_some {xs : List DE} {k : KY} {p : Addr × Addr} (h : lookD xs k = some p) : (k, p) ∈ xs := by
  unfold lookD at h
  obtain ⟨e, h1, h2⟩ := Option.map_eq_some_iff.mp h
  have h3 := List.find?_some h1
  have h4 := List.mem_of_find?_eq_some h1
  have h5 : e.1 = k := of_decide_eq_true h3
  rw [← h5, ← h2]
  exact h4
theorem lookD_of_mem {xs : List DE} {e : DE} (he : e ∈ xs) : ∃ p, lookD xs e.1 = some p := by
  cases h : lookD xs e.1 with
  | some p => exact ⟨p, rfl⟩
  | none => exact absurd rfl (lookD_none h e he)
theorem lookD_nodup {xs : List DE} (h : (xs.map (·.1)).Nodup) {e : DE} (he : e ∈ xs) : lookD xs e.1 = some e.2 := by
  obtain ⟨p, hp⟩ := lookD_of_mem he
  have h2 := lookD_some hp
  rw [List.nodup_iff_pairwise_ne, List.pairwise_map] at h
  have : ∀ l : List DE, l.Pairwise (fun a b => a.1 ≠ b.1) → ∀ a ∈ l, ∀ b ∈ l, a.1 = b.1 → a = b := by
    intro l hl
    induction hl with
    | nil => intro a ha; cases ha
    | @cons x r h1 h2 ih =>
      intro a ha b hb q
      rcases List.mem_cons.mp ha with e1 | ha'
      · rcases List.mem_cons.mp hb with e2 | hb'
        · rw [e1, e2]
        · rw [e1] at q
          exact absurd q (h1 b hb')
      · rcases List.mem_cons.mp hb with e2 | hb'
        · rw [e2] at q
          exact absurd q.symm (h1 a ha')
        · exact ih a ha' b hb' q
  have e2 := this xs h (e.1, p) h2 e he rfl
  rw [hp, ← e2]
theorem putD_keys (xs : List DE) (k : KY) (ka va : Addr) : (putD xs k ka va).map (·.1) = if (lookD xs k).isSome then xs.map (·.1) else xs.map (·.1) ++ [k] := by
  unfold putD
  split
  · rw [List.map_map]
    refine List.map_congr_left fun e _ => ?_
    show (putE k va e).1 = e.1
    unfold putE
    split <;> rfl
  · rw [List.map_append]; rfl
theorem putD_nodup {xs : List DE} (h : (xs.map (·.1)).Nodup) (k : KY) (ka va : Addr) : ((putD xs k ka va).map (·.1)).Nodup := by
  rw [putD_keys]
  split
  · exact h
  · rename_i q
    have hn : lookD xs k = none := by
      cases e : lookD xs k with
      | none => rfl
      | some p => rw [e] at q; exact absurd rfl q
    rw [List.nodup_append]
    refine ⟨h, by simp, fun a ha b hb => ?_⟩
    rw [List.mem_singleton] at hb
    subst hb
    obtain ⟨e, he, rfl⟩ := List.mem_map.mp ha
    exact lookD_none hn e he
theorem putD_mem {xs : List DE} {k : KY} {ka va : Addr} {e : DE} (h : e ∈ putD xs k ka va) : (e ∈ xs ∧ e.1 ≠ k) ∨ (e.1 = k ∧ e.2.2 = va ∧ (e.2.1 = ka ∨ ∃ e' ∈ xs, e'.1 = k ∧ e'.2.1 = e.2.1)) := by
  unfold putD at h
  split at h
  · obtain ⟨x, hx, rfl⟩ := List.mem_map.mp h
    unfold putE
    split
    · rename_i q
      exact .inr ⟨q, rfl, .inr ⟨x, hx, q, rfl⟩⟩
    · rename_i q
      exact .inl ⟨hx, q⟩
  · rename_i q
    have hn : lookD xs k = none := by
      cases e : lookD xs k with
      | none => rfl
      | some p => rw [e] at q; exact absurd rfl q
    rcases List.mem_append.mp h with h | h
    · exact .inl ⟨h, lookD_none hn e h⟩
    · rw [List.mem_singleton] at h
      subst h
      exact .inr ⟨rfl, rfl, .inl rfl⟩
theorem putD_length (xs : List DE) (k : KY) (ka va : Addr) : (putD xs k ka va).length ≤ xs.length + 1 := by
  unfold putD
  split
  · rw [List.length_map]; omega
  · rw [List.length_append, List.length_singleton]; omega
/-- the entry at k is the new one -/
theorem putD_at (xs : List DE) (k : KY) (ka va : Addr) : ∃ e ∈ putD xs k ka va, e.1 = k ∧ e.2.2 = va := by
  unfold putD
  split
  · rename_i q
    cases e : lookD xs k with
    | none => rw [e] at q; cases q
    | some p =>
      refine ⟨putE k va (k, p), List.mem_map.mpr ⟨_, lookD_some e, rfl⟩, ?_⟩
      unfold putE
      rw [if_pos rfl]
      exact ⟨rfl, rfl⟩
  · exact ⟨(k, ka, va), by simp, rfl, rfl⟩
theorem putD_other {xs : List DE} {k : KY} {ka va : Addr} {e : DE} (he : e ∈ xs) (hk : e.1 ≠ k) : e ∈ putD xs k ka va := by
  unfold putD
  split
  · refine List.mem_map.mpr ⟨e, he, ?_⟩
    unfold putE
    rw [if_neg hk]
  · exact List.mem_append_left _ he
theorem KeysIn.put {H : Hp} {xs : List DE} {k : KY} {ka va : Addr} (h : KeysIn H xs) (hk : H ka = some (.tup [.int k.1, .bl k.2])) : KeysIn H (putD xs k ka va) := fun e he => by
  rcases putD_mem he with ⟨h1, _⟩ | ⟨h1, h2, h3 | ⟨e', he', h4, h5⟩⟩
  · exact h e h1
  · rw [h3, h1]; exact hk
  · have := h e' he'
    rw [h5, h4] at this
    rw [h1]; exact this
theorem KeysIn.mono {H H' : Hp} {xs : List DE} (h : KeysIn H xs) (s : ∀ b ys, H b = some (.tup ys) → H' b = some (.tup ys)) : KeysIn H' xs := fun e he => s _ _ (h e he)

theorem key_is {P : Program} {w : World} {H : Hp} {h : Heap} {ka : Addr} {k : KY} (ok : HOk P w H h) (e : H ka = some (.tup [.int k.1, .bl k.2])) : (KN P w).is h (kk k) ka := by
  obtain ⟨_, its, r, o, h1, h2, n, h3⟩ := (show ObjOk P w H h ka (.tup [.int k.1, .bl k.2]) from ok ka _ e)
  refine ⟨o, its.toArray, n, h1, h2, h3, ?_⟩
  cases r with
  | cons r1 r =>
    cases r with
    | cons r2 r =>
      cases r
      obtain ⟨t, rfl⟩ := r1
      cases r2
      refine .cons (show Leaf.isOf (.num k.1) (.int k.1 t) = true from decide_eq_true rfl) (.cons ?_ .nil)
      cases k.2 <;> rfl
theorem db_rd {P : Program} {w : World} {H : Hp} {h : Heap} {a : Addr} {xs : List DE} (ok : HOk P w H h) (e : Rd H a (DB P w a xs)) (kn : KeysIn H xs) :
    (xs.map (·.1)).Nodup ∧ xs.length ≤ sizeLine ∧ (a == sysModules) = false ∧ h.DictOfH (KN P w) a (xs.map encE) := by
  obtain ⟨⟨⟨h1, h2, h3⟩, o, es, ep, e1, e2, e3, e4⟩, _⟩ := (show ObjOk P w H h a (DB P w a xs) from e.ok ok)
  refine ⟨h1, h2, h3, o, es, ep, e1, e2, e3, e4, fun x hx => ?_, enc_nodup h1⟩
  obtain ⟨d, hd, rfl⟩ := List.mem_map.mp hx
  exact key_is ok (kn d hd)
theorem db_new {P : Program} {w : World} {H : Hp} {h : Heap} {a : Addr} {xs : List DE} (h1 : (xs.map (·.1)).Nodup) (h2 : xs.length ≤ sizeLine) (h3 : (a == sysModules) = false) (d : h.DictOfH (KN P w) a (xs.map encE)) : ObjOk P w H h a (DB P w a xs) := by
  obtain ⟨o, es, ep, e1, e2, e3, e4, _, _⟩ := d
  refine ⟨⟨⟨h1, h2, h3⟩, o, es, ep, e1, e2, e3, e4⟩, ⟨o, e1⟩, fun g1 g2 ⟨q, o, es, ep, f1, f2, f3, f4⟩ k => ⟨q, o, es, ep, k _ f1, f2, f3, f4⟩⟩

section
variable {X : Cx} {o i e value : Expr} {pos pos' tpos apos cpos : Pos} {td ty tv tk : TE}
/-- {} -/
theorem pe_dnewB : PE X (.Dict [] [] pos) (fun _ H Q => ∀ p, H p = none → Q (.ref p) (upd H p (DB X.prog X.w p []))) := ⟨fun pins s σ H Q I h =>
  wpAny_Dict_empty ⟨.ref s.heap.objs.size, _, I.laid (a := s.heap.objs.size) (o := DB X.prog X.w s.heap.objs.size []) (t' := s.toks) (fun _ _ q => Heap.get?_push_of_some _ q) (Nat.le_refl _)
    (db_new (by simp) (Nat.zero_le _) (beq_eq_false_iff_ne.mpr (Ne.symm (Nat.ne_of_lt I.big))) (Heap.DictOfH.new _)), rfl, h _ (I.hok.fresh (Nat.le_refl _))⟩⟩
/-- {k: v} -/
def tDisp1 (P : Program) (w : World) (tk tv : TE) : TE := fun σ H Q => ∀ p, H p = none → tk σ (upd H p (DB P w p [])) fun x H1 => tv σ H1 fun y H2 => H2 p = some (DB P w p []) ∧ ∃ (k : KY) (ka va : Addr), x = .ref ka ∧ y = .ref va ∧
  H2 ka = some (.tup [.int k.1, .bl k.2]) ∧ Q (.ref p) (upd H2 p (DB P w p [(k, ka, va)]))
theorem pe_disp1 (hu : X.A.units + 1 < cLine) (hk : PE X i tk) (hv : PE X value tv) : PE X (.Dict [some i] [value] pos) (tDisp1 X.prog X.w tk tv) := by
  refine ⟨fun pins s σ H Q I q => ?_⟩
  have hn := I.hok.fresh (Nat.le_refl s.heap.objs.size)
  have I1 := I.laid (a := s.heap.objs.size) (o := DB X.prog X.w s.heap.objs.size []) (h' := s.heap.push { cls := .type "dict", data := .dict #[] }) (t' := s.toks) (fun _ _ q => Heap.get?_push_of_some _ q) (Nat.le_refl _)
    (db_new (by simp) (Nat.zero_le _) (beq_eq_false_iff_ne.mpr (Ne.symm (Nat.ne_of_lt I.big))) (Heap.DictOfH.new _))
  rw [arm_eval_Dict, zip_pairTrees [some i] [value] X.env pos rfl rfl, dictDisplay_pairs (pairTrees [some i] [value] X.env pos) (by intro z; have := congrArg List.length z; rw [pairTrees_length _ _ _ _ rfl rfl] at this; cases this) (by rw [pairTrees_length _ _ _ _ rfl rfl]; show 1 < 17; decide)]
  refine wpAny_bind (wpAny_standAt (wpAny_bind (wpAny_subDictH (knd := KN X.prog X.w) (Q := fun d s' => wpAny (model X.prog X.w) X.A (pure (Value.ref d)) (EP X pins σ Q) X.xe s') (by show X.A.units < cLine; omega) (by rw [pairTrees_length _ _ _ _ rfl rfl]; show 1 ≤ 15; decide) ?_)))
  refine pairTrees_cons_walk (thn (hk.run pins _ σ _ _ I1 (q _ hn)) fun u s1 ⟨x, H1, I2, rx, q1⟩ => thn (hv.run pins s1 σ H1 _ I2 q1) fun w2 s2 ⟨y, H2, I3, ry, e, k, ka, va, ex, ey, hka, q2⟩ => pairTrees_nil_walk ?_)
  subst ex ey
  cases rx
  cases ry
  obtain ⟨h1, h2, h3, dd⟩ := db_rd I3.hok (.inl e) (fun e he => by cases he)
  refine ⟨[(kk k, ka, .ref va)], ⟨rfl, rfl, key_is I3.hok hka, trivial⟩, dd, fun h' t' dd' hs => wpAny_pure ⟨.ref s.heap.objs.size, _, ?_, rfl, q2⟩⟩
  have ed : storedAllH ([] : List (List Leaf × Addr × Value)) [(kk k, ka, .ref va)] = [(k, ka, va)].map encE := rfl
  rw [ed] at dd'
  have he : ∃ q, h'.get? s.heap.objs.size = some q := let ⟨q, _, _, hq, _⟩ := dd'; ⟨q, hq⟩
  exact d_write I3 (by rw [e]; exact True.intro) hs he (db_new (by simp) (by rw [sizeLine_eq]; show 1 ≤ 16777216; decide) h3 dd')
/-- k not in d -/
def tDNotInB (P : Program) (w : World) (ty td : TE) : TE := fun σ H Q => ty σ H fun y H1 => td σ H1 fun x H2 => ∃ (a : Addr) (xs : List DE) (k : KY) (ka : Addr), x = .ref a ∧ y = .ref ka ∧ Rd H2 a (DB P w a xs) ∧ KeysIn H2 xs ∧
  H2 ka = some (.tup [.int k.1, .bl k.2]) ∧ Q (.bl (!(lookD xs k).isSome)) H2
theorem pc_dnotinB (hu : X.A.units + 1 < cLine) (hi : PE X i ty) (ho : PE X o td) : PC X .NotIn i o (tDNotInB X.prog X.w ty td) := by
  refine ⟨fun pins s σ H Q I h => ?_⟩
  refine thn (hi.run pins s σ H _ I h) fun iv s1 ⟨y, H1, I1, ry, q1⟩ => thn (ho.run pins s1 σ H1 _ I1 q1) fun u s2 ⟨x, H2, I2, rx, a, xs, k, ka, ex, ey, hd, kn, hka, q2⟩ => ?_
  subst ex ey
  obtain rfl : u = Value.ref a := rx
  obtain rfl : iv = Value.ref ka := ry
  obtain ⟨h1, h2, h3, dd⟩ := db_rd I2.hok hd kn
  refine wpAny_notIn_heap (tupleKind_room_in1 hu) (key_is I2.hok hka) h3 dd ?_
  rw [atKey_enc, Option.isSome_map]
  exact ⟨.bl _, H2, I2.tok _, rfl, q2⟩
/-- d[k] -/
def tDGetB (P : Program) (w : World) (td ty : TE) : TE := fun σ H Q => td σ H fun x H1 => ty σ H1 fun y H2 => ∃ (a : Addr) (xs : List DE) (k : KY) (ka : Addr) (p : Addr × Addr), x = .ref a ∧ y = .ref ka ∧ Rd H2 a (DB P w a xs) ∧ KeysIn H2 xs ∧
  H2 ka = some (.tup [.int k.1, .bl k.2]) ∧ lookD xs k = some p ∧ Q (.ref p.2) H2
theorem pe_dgetB (hu : X.A.units + 1 < cLine) (ho : PE X o td) (hi : PE X i ty) (hs : NoSl i) : PE X (.Subscript o i pos) (tDGetB X.prog X.w td ty) := by
  refine ⟨fun pins s σ H Q I h => ?_⟩
  refine subD_of PySem.F.slot_dict_getitem.lookup hs (thn (ho.run pins s σ H _ I h) fun u s1 ⟨x, H1, I1, rx, q1⟩ => thn (hi.run pins s1 σ H1 _ I1 q1) fun iv s2 ⟨y, H2, I2, ry, a, xs, k, ka, p, ex, ey, hd, kn, hka, lk, q2⟩ => ?_)
  subst ex ey
  obtain rfl : u = Value.ref a := rx
  obtain rfl : iv = Value.ref ka := ry
  obtain ⟨h1, h2, h3, dd⟩ := db_rd I2.hok hd kn
  refine ⟨dd.typeIs, wpAny_getItem_heap (p := (p.1, Value.ref p.2)) (tupleKind_room_in1 hu) (key_is I2.hok hka) dd (by rw [atKey_enc, lk]; rfl) ⟨.ref p.2, H2, I2.tok _, rfl, q2⟩⟩
/-- d[k] = v -/
def sDPutB (P : Program) (w : World) (td ty tv : TE) : TS := fun D σ H => tv σ H fun v H1 => td σ H1 fun x H2 => ty σ H2 fun y H3 => ∃ (a : Addr) (xs : List DE) (k : KY) (ka va : Addr), x = .ref a ∧ y = .ref ka ∧ v = .ref va ∧ H3 a = some (DB P w a xs) ∧
  KeysIn H3 xs ∧ H3 ka = some (.tup [.int k.1, .bl k.2]) ∧ xs.length < sizeLine ∧ D.nx σ (upd H3 a (DB P w a (putD xs k ka va)))
theorem ps_dputB (hu : X.A.units + 1 < cLine) (ho : PE X o td) (hi : PE X i ty) (hv : PE X value tv) (hs : swapsWith value (some (.Subscript o i pos')) pos.line X.env = pure false) :
    PS X (.Assign [.Subscript o i pos'] value pos) (sDPutB X.prog X.w td ty tv) := by
  refine ⟨fun pins s σ H D I h => ?_⟩
  refine wpAny_Assign_Subscript (thn (hv.run pins s σ H _ I h) fun r s1 ⟨v, H1, I1, rv, q1⟩ => thn (ho.run pins s1 σ H1 _ I1 q1) fun u s2 ⟨x, H2, I2, rx, q2⟩ => thn (hi.run pins s2 σ H2 _ I2 q2) fun iv s3 ⟨y, H3, I3, ry, a, xs, k, ka, va, ex, ey, ev, hd, kn, hka, hl, q3⟩ => ?_) hs
  subst ex ey ev
  obtain rfl : u = Value.ref a := rx
  obtain rfl : iv = Value.ref ka := ry
  obtain rfl : r = Value.ref va := rv
  obtain ⟨h1, h2, h3, dd⟩ := db_rd I3.hok (.inl hd) kn
  refine wpAny_setItem_heap (hsz := by rw [List.length_map]; exact h2) (tupleKind_room_in1 hu) (key_is I3.hok hka) dd fun h' dd' hs => ?_
  rw [stored_enc] at dd'
  have he : ∃ q, h'.get? a = some q := let ⟨q, _, _, hq, _⟩ := dd'; ⟨q, hq⟩
  have hz : (putD xs k ka va).length ≤ sizeLine := by have := putD_length xs k ka va; omega
  exact ⟨σ, _, d_write I3 (by rw [hd]; exact True.intro) hs he (db_new (putD_nodup h1 k ka va) hz h3 dd'), q3⟩

/-- for .. in d.items() -/
def ItB (P : Program) (w : World) (d : Addr) (od : Obj) (xs : List DE) : It :=
  ⟨fun i H => H d = some (.frz od (DB P w d xs)) ∧ i < xs.length, fun i H v H' => ∃ (T : Addr) (e : DE), xs[i]? = some e ∧ v = .ref T ∧ H T = none ∧ H' = upd H T (.tup [.ref e.2.1, .ref e.2.2]),
    fun i H => H d = some (.frz od (DB P w d xs)) ∧ i = xs.length⟩
theorem raw_of {P : Program} {w : World} {H : Hp} {h : Heap} {d : Addr} {od : Obj} {xs : List DE} (ok : HOk P w H h) (e : H d = some (.frz od (DB P w d xs))) :
    (d == sysModules) = false ∧ ∃ es ep, od.data = .dict es ep ∧ h.DictRaw d es ep ∧ es.toList = (xs.map encE).map (entryOfKey (KN P w)) ∧ es.size = xs.length := by
  obtain ⟨h1, ⟨⟨h2, h3, h4⟩, o, es, ep, e1, e2, e3, e4⟩, _⟩ := (show ObjOk P w H h d (.frz od (DB P w d xs)) from ok d _ e)
  rw [h1] at e1
  cases e1
  refine ⟨h4, es, ep, e3, ⟨od, h1, e2, e3⟩, e4, ?_⟩
  rw [← Array.length_toList, e4, List.length_map, List.length_map]
theorem turn_itemsB {P : Program} {w : World} {K : PySem.W.Frag} {d it : Addr} {od : Obj} {xs : List DE} {elts : List Expr} {kk : Nat} {tpos : Pos} {es : Array DictEntry} {ep : Nat} (hod : od.data = .dict es ep) (hne : d ≠ it) :
    Turn P w K (.Tuple elts kk tpos) (ItB P w d od xs) [it] it (fun i h => ∃ ok ov, IsItemIter h it d i xs.length ep ok ov) := by
  refine turnP (by simp) (fun i h st b hb => ?_) (fun i h h' st k => let ⟨ok, ov, e⟩ := st; ⟨ok, ov, k it (by simp) _ e⟩) (fun X hP hw hK hc i pins s σ H I hf st hg => ?_) (fun X hP hw hK hc i pins s σ H I hf st hg => ?_)
    fun A i s Q E st h => let ⟨_, _, e⟩ := st; PySem.W.kcp_self e h
  · have e : b = it := by simpa using hb
    subst e
    obtain ⟨ok, ov, e⟩ := st
    exact ⟨_, e, fun v z => nomatch z⟩
  · subst hP hw hK
    obtain ⟨hd, hi⟩ := hg
    obtain ⟨hs, es', ep', hdt, raw, hes, hsz⟩ := raw_of I.hok hd
    rw [hod] at hdt
    cases hdt
    obtain ⟨ok, ov, he⟩ := st
    have hi' : i < es.size := by rw [hsz]; exact hi
    have ent : es[i] = entryOfKey (KN X.prog X.w) (encE xs[i]) := by
      have q : es.toList[i]? = some (entryOfKey (KN X.prog X.w) (encE xs[i])) := by
        rw [hes, List.getElem?_map, List.getElem?_map, List.getElem?_eq_getElem hi]; rfl
      rw [Array.getElem?_toList, Array.getElem?_eq_getElem hi'] at q
      exact Option.some.inj q
    refine ⟨_, _, _, _, _, .ref xs[i].2.1, .ref xs[i].2.2, GoesN.rawItems (A := X.A) (I.ok.hd hc) it d hne es ep, hi', ⟨⟨ok, ov, by rw [hsz]; exact he⟩, raw⟩, fun b hb => hb, fun h' st' => ?_, fun h0 v h y => ?_, fun T hn => ⟨T, xs[i], List.getElem?_eq_getElem hi, rfl, hn, rfl⟩⟩
    · obtain ⟨⟨ok', ov', e'⟩, _⟩ := st'
      rw [hsz] at e'
      exact ⟨ok', ov', e'⟩
    · obtain ⟨T, hi2, e1, e2, e3⟩ := y
      refine ⟨T, es[i].key, es[i].val, e1, e2, e3, ?_, ?_⟩
      · rw [ent]; rfl
      · rw [ent]; rfl
  · subst hP hw hK
    obtain ⟨hd, hi⟩ := hg
    obtain ⟨hs, es', ep', hdt, raw, hes, hsz⟩ := raw_of I.hok hd
    rw [hod] at hdt
    cases hdt
    obtain ⟨ok, ov, he⟩ := st
    refine ⟨_, _, _, _, _, GoesN.rawItems (A := X.A) (I.ok.hd hc) it d hne es ep, ⟨⟨ok, ov, ?_⟩, raw⟩, fun b hb => hb⟩
    rw [hsz, ← hi] at *
    exact he
def iItemsB (P : Program) (w : World) (td : TE) : TI := fun σ H R => td σ H fun x H1 => ∃ d o xs, x = .ref d ∧ H1 d = some (.frz o (DB P w d xs)) ∧ R (ItB P w d o xs) H1
theorem pi_itemsB {elts : List Expr} {kk : Nat} (he : PE X e td) (hbase : attributeBase e "items" X.env (eval e X.env) = eval e X.env := by rfl) (hline : (apos.endLine == cpos.line) = true := by rfl) :
    PI X (.Tuple elts kk tpos) (.Call (.Attribute e "items" apos) [] [] cpos) (iItemsB X.prog X.w td) := by
  refine ⟨fun pins s σ H R I h => ?_⟩
  refine wpAny_Call_method (T := "dict") (id := "dict.items") hbase rfl hline PySem.F.plainAttrs_dict PySem.F.slot_dict_items PySem.F.type_dict_items (thn (he.run pins s σ H _ I h) fun u s1 ⟨x, H1, I1, rx, d, o, xs, ex, hd, q⟩ => ?_)
  subst ex
  obtain rfl : u = Value.ref d := rx
  obtain ⟨hs, es, ep, hdt, raw, hes, hsz⟩ := raw_of I1.hok hd
  have hlt : d < s1.heap.objs.size := raw.lt_size
  refine ⟨raw.typeIs, fun b q => ?_, ?_⟩
  · cases q
    obtain ⟨ob, e1, e2, _⟩ := id raw
    exact ⟨ob, e1, e2.2.1⟩
  have I2 : Inv X pins σ H1 { s1 with heap := s1.heap.push { cls := .type "dict_items", data := .fields #[.ref d] } } := I1.kept (t' := s1.toks) fun b ob q => Heap.get?_push_of_some _ q
  have fin : wpAny (model X.prog X.w) X.A (pyIter (.ref s1.heap.objs.size)) (PIE X pins σ (.Tuple elts kk tpos) R) X.xe { s1 with heap := s1.heap.push { cls := .type "dict_items", data := .fields #[.ref d] } } := by
    refine wpAny_pyIter_items_raw (d := d) ⟨_, Heap.get?_push_size _ rfl, rfl, rfl⟩ (raw.push _) (pi_one (tk := s1.toks) I2 _ (turn_itemsB hdt (Nat.ne_of_lt ?_)) ⟨.none, .none, ?_⟩ q)
    · show d < (s1.heap.push _).objs.size
      rw [Heap.size_push]; exact Nat.lt_succ_of_lt hlt
    · rw [← hsz]
      exact Heap.get?_push_size _ rfl
  show wpAny _ _ (callWith cpos (.builtin "dict.items") [.ref d] [] []) _ X.xe s1
  exact method_meetsIn PySem.F.slot_dict_items PySem.F.entry_dict_items rfl (PySem.evalArgs_none ⟨rfl, raw.typeIs, PySem.F.args_dict_items_1 _, _, meets_dict_items_raw d hs, ⟨es, ep, raw⟩, fin⟩)
theorem walk_itemsB {P : Program} {w : World} {d : Addr} {od : Obj} {xs : List DE} : Walk (ItB P w d od xs) xs.length (fun H => H d = some (.frz od (DB P w d xs))) (YPair (fun i => xs[i]?.map fun e => V.ref e.2.1) (fun i => xs[i]?.map fun e => V.ref e.2.2)) := by
  refine ⟨fun _ _ hi q => ⟨q, hi⟩, fun _ q => ⟨q, rfl⟩, fun i H x H' _ _ y => ?_⟩
  obtain ⟨T, e, h1, h2, h3, h4⟩ := y
  exact ⟨T, .ref e.2.1, .ref e.2.2, h2, h3, h4, by simp [h1], by simp [h1]⟩
end
end TK

namespace TW
open PySem PySem.Spec PyProof.Rows L2 TK
def top (i : Nat) : Stmt := PySem.Challenge.pw_lotplans_k47_whole_trucks.main.body.getD i (.Pass ⟨0, 0, 0, 0⟩)
abbrev sIsInt : Stmt := top 6
abbrev sIsIn : Stmt := top 7
abbrev sNeedProblem : Stmt := top 11
abbrev sPeriods : Stmt := top 12
abbrev sStock : Stmt := top 13
abbrev sNeedPlan : Stmt := top 14
abbrev sNeedLoad : Stmt := top 17
abbrev sLoads : Stmt := top 18
abbrev sTruckCost : Stmt := top 19
abbrev sRun : Stmt := top 20
abbrev sTrucked : Stmt := top 21
abbrev sLeast : Stmt := top 22
abbrev sTruckPlan : Stmt := top 23
abbrev sIsLoaded : Stmt := top 24
abbrev sTaken : Stmt := top 26
abbrev sPick : Stmt := top 27
abbrev sAlike : Stmt := top 28
abbrev sEntries : Stmt := top 29
abbrev sSteps : Stmt := top 30
abbrev sProblem : Stmt := top 31
abbrev sRow : Stmt := top 32
abbrev sAllPlans : Stmt := top 33
abbrev sSmall : Stmt := top 34
abbrev sOddOnes : Stmt := top 35
abbrev sTruck : Stmt := top 36
abbrev sLaw : Stmt := top 37

section
variable {P : Program} {w : World} {K : PySem.W.Frag} {mg : Str → Option Value} {base : Heap}
/-! ### is_int, is_in: of ints -/
theorem scIsInt : FnScope ["value"] ["value"] (defScope sIsInt) := ⟨rfl, rfl, rfl, by decide +kernel, rfl, by decide +kernel, by decide +kernel⟩
def spIsInt : Sp := fun vs H Q _ => ∃ i : Int, vs = [.int i] ∧ Q (.bl true) H
theorem ok_isInt {f : Addr} {fd : FuncData} (F : Fun K "is_int" "is_int" sIsInt f fd) (mi : mg "isinstance" = none) (mt : mg "int" = none) (mb : mg "bool" = none) : FnOk P w K mg base CX0 1 f fd ["value"] spIsInt := by
  refine F.ok scIsInt (fun vs H Q E h => ?_) (fun cdv A outer s H vs Q E hr h => ?_)
  · obtain ⟨i, rfl, _⟩ := h
    rfl
  · obtain ⟨i, rfl, k⟩ := h
    refine ⟨_, pss_one (ps_ret (pe_and (pe_callB call_isi (by rfl) mi (by decide +kernel) (pa_cons (pv 0) (pa_cons (pe_bltn (v := .ty "int") (by rfl) mt (by decide +kernel) rfl) pa_nil)))
      (pe_one (pe_not (pe_callB call_isi (by rfl) mi (by decide +kernel) (pa_cons (pv 0) (pa_cons (pe_bltn (v := .ty "bool") (by rfl) mb (by decide +kernel) rfl) pa_nil))))))), ?_⟩
    refine ⟨_, rfl, .int i, .ty "int", .type "int", .type "int", true, rfl, .ty _, .base (.int i), kit_ty (by decide +kernel), true, rfl, iteT ?_⟩
    exact ⟨_, rfl, .int i, .ty "bool", .type "int", .type "bool", false, rfl, .ty _, .base (.int i), kit_ty (by decide +kernel), false, rfl, k⟩
theorem scIsIn : FnScope ["value", "least", "most"] ["value", "least", "most"] (defScope sIsIn) := ⟨rfl, rfl, rfl, by decide +kernel, rfl, by decide +kernel, by decide +kernel⟩
def spIsIn : Sp := fun vs H Q _ => ∃ i lo hi : Int, vs = [.int i, .int lo, .int hi] ∧ Q (.bl (decide (lo ≤ i ∧ i ≤ hi))) H
theorem ok_isIn {f fI : Addr} {fd fdI : FuncData} (F : Fun K "is_in" "is_in" sIsIn f fd) (FI : Fun K "is_int" "is_int" sIsInt fI fdI) (bI : Binds K fdI ["value"] []) (gI : mg "is_int" = some (.ref fI))
    (mi : mg "isinstance" = none) (mt : mg "int" = none) (mb : mg "bool" = none) : FnOk P w K mg base CX0 2 f fd ["value", "least", "most"] spIsIn := by
  have GI : FnOk P w K mg base CX0 1 fI fdI ["value"] spIsInt := ok_isInt FI mi mt mb
  refine F.ok scIsIn (fun vs H Q E h => ?_) (fun cdv A outer s H vs Q E hr h => ?_)
  · obtain ⟨i, lo, hi, rfl, _⟩ := h
    rfl
  · obtain ⟨i, lo, hi, rfl, k⟩ := h
    refine ⟨_, pss_one (ps_ret (pe_and (pe_call GI hr (by rfl) gI FI.kp bI .nil pass0 (pa_cons (pv 0) pa_nil)) (pe_one (pe_chain op_le op_le (pv 1) (pv 0) (pv 2))))), ?_⟩
    refine ⟨_, rfl, i, rfl, true, rfl, iteT ?_⟩
    refine ⟨_, rfl, _, rfl, _, _, rfl, rfl, _, rfl, ?_⟩
    by_cases h1 : lo ≤ i
    · rw [decide_eq_true h1]
      refine iteT ⟨_, rfl, _, _, rfl, rfl, ?_⟩
      have e : decide (lo ≤ i ∧ i ≤ hi) = decide (i ≤ hi) := by simp [h1]
      rw [e] at k
      exact k
    · rw [decide_eq_false h1]
      refine iteF ?_
      have e : decide (lo ≤ i ∧ i ≤ hi) = false := by simp [h1]
      rw [e] at k
      exact k
/-! ### loads, periods_of -/
theorem scLoads : FnScope ["amount", "load"] ["amount", "load"] (defScope sLoads) := ⟨rfl, rfl, rfl, by decide +kernel, rfl, by decide +kernel, by decide +kernel⟩
def spLoads : Sp := fun vs H Q _ => ∃ x L : Int, vs = [.int x, .int L] ∧ 0 < L ∧ L < 1000000 ∧ Q (.int (LM.ld x L)) H
theorem ok_loads {f : Addr} {fd : FuncData} (F : Fun K "loads" "loads" sLoads f fd) : FnOk P w K mg base CX0 1 f fd ["amount", "load"] spLoads := by
  refine F.ok scLoads (fun vs H Q E h => ?_) (fun cdv A outer s H vs Q E hr h => ?_)
  · obtain ⟨x, L, rfl, _⟩ := h
    rfl
  · obtain ⟨x, L, rfl, h1, h2, k⟩ := h
    refine ⟨_, pss_one (ps_ret (pe_un un_neg (pe_op op_fdiv (pe_un un_neg (pv 0)) (pv 1)))), ?_⟩
    exact ⟨_, rfl, _, rfl, _, rfl, _, _, rfl, rfl, ⟨h1, by omega⟩, _, rfl, k⟩
theorem scPeriods : FnScope ["problem"] ["problem"] (defScope sPeriods) := ⟨rfl, rfl, rfl, by decide +kernel, rfl, by decide +kernel, by decide +kernel⟩
end
end TW

namespace TW
open PySem PySem.Spec PyProof.Rows L2 TK
/-- a problem of four tuples stands at q -/
def PAt (H : Hp) (q : Addr) (D S U G : List Int) : Prop := ∃ d s u g : Addr, H q = some (.tup [.ref d, .ref s, .ref u, .ref g]) ∧ H d = some (.tup (D.map V.int)) ∧ H s = some (.tup (S.map V.int)) ∧ H u = some (.tup (U.map V.int)) ∧ H g = some (.tup (G.map V.int))
structure Few (n : Nat) (xs : List Int) : Prop where
  len : xs.length = n
  lo : ∀ x ∈ xs, 0 ≤ x
  hi : ∀ x ∈ xs, x ≤ 999
structure POk (n : Nat) (D S U G : List Int) : Prop where
  n1 : 1 ≤ n
  n2 : n ≤ 12
  d : Few n D
  s : Few n S
  u : Few n U
  g : Few n G
/-- tuples stay -/
def TupSub (H H' : Hp) : Prop := ∀ b ys, H b = some (.tup ys) → H' b = some (.tup ys)
theorem TupSub.refl (H : Hp) : TupSub H H := fun _ _ h => h
theorem TupSub.trans {H H1 H2 : Hp} (a : TupSub H H1) (b : TupSub H1 H2) : TupSub H H2 := fun c o h => b c o (a c o h)
theorem _root_.L2.Same.tups {H H' : Hp} (s : Same H H') : TupSub H H' := fun b ys h => s b _ h
theorem PAt.mono {H H' : Hp} {q : Addr} {D S U G : List Int} (h : PAt H q D S U G) (s : TupSub H H') : PAt H' q D S U G := by
  obtain ⟨a, b, c, d, h0, h1, h2, h3, h4⟩ := h
  exact ⟨a, b, c, d, s _ _ h0, s _ _ h1, s _ _ h2, s _ _ h3, s _ _ h4⟩
theorem same_upd {H : Hp} {p : Addr} {o : HO} (h : H p = none) : Same H (upd H p o) := fun b x e => by
  rw [upd_ne (ne_of_none e h)]
  exact e
theorem sqt {K : PySem.W.Frag} {H : Hp} {a : Addr} {xs : List V} (h : H a = some (.tup xs)) : SqT K H a xs := .inl (.inl h)
theorem sql {K : PySem.W.Frag} {H : Hp} {a : Addr} {xs : List V} (h : H a = some (.lst xs)) : SqL K H a xs := .inl (.inl h)
theorem same_list {H H' : Hp} {p : Addr} {u : HO} (s : Same H H') (hp : H p = none) : Same H (upd H' p u) := fun b x e => by
  rw [upd_ne (ne_of_none e hp)]
  exact s b x e
theorem geti {l : List Int} {i : Nat} (h : i < l.length) : (l.map V.int)[i]? = some (.int (LM.g l i)) := by
  unfold LM.g
  rw [List.getElem?_map, List.getD_eq_getElem?_getD, List.getElem?_eq_getElem h]
  rfl
theorem g_in {l : List Int} {i : Nat} (h : i < l.length) : LM.g l i ∈ l := LM.g_mem h
section
variable {P : Program} {w : World} {K : PySem.W.Frag} {mg : Str → Option Value} {base : Heap}
theorem bt_isinstance : bootBuiltins "isinstance" = some (.builtin "isinstance") := by decide +kernel
theorem bt_all : bootBuiltins "all" = some (.builtin "all") := by decide +kernel
theorem bt_any : bootBuiltins "any" = some (.builtin "any") := by decide +kernel
theorem bt_sum : bootBuiltins "sum" = some (.builtin "sum") := by decide +kernel
theorem bt_min : bootBuiltins "min" = some (.builtin "min") := by decide +kernel
theorem bt_max : bootBuiltins "max" = some (.builtin "max") := by decide +kernel
theorem bt_tupleT : bootBuiltins "tuple" = some (.type "tuple") := by decide +kernel
theorem bt_intT : bootBuiltins "int" = some (.type "int") := by decide +kernel
def rLen (K : PySem.W.Frag) : List V → Hp → VK → Prop := fun xs H Q => ∃ p ys, xs = [V.ref p] ∧ (SqL K H p ys ∨ SqT K H p ys) ∧ Q (V.int ys.length) H
theorem yesT {σ : L2.St} {H : Hp} {A B : Bool → Hp → Prop} (h : A true H) : tYes σ H fun b H3 => if b = true then A b H3 else B b H3 := by
  show if true = true then A true H else B true H
  rw [if_pos rfl]
  exact h
/-! ### need_problem -/
theorem scNeedProblem : FnScope ["value", "number", "part", "index", "entry"] ["value"] (defScope sNeedProblem) := ⟨rfl, rfl, rfl, by decide +kernel, rfl, by decide +kernel, by decide +kernel⟩
def spNeedProblem : Sp := fun vs H Q _ => ∃ (q : Addr) (n : Nat) (D S U G : List Int), vs = [.ref q] ∧ PAt H q D S U G ∧ POk n D S U G ∧ ∀ H', Same H H' → Q .non H'
structure Tb (mg : Str → Option Value) : Prop where
  isinstance : mg "isinstance" = none
  int : mg "int" = none
  bool : mg "bool" = none
  tuple : mg "tuple" = none
  list : mg "list" = none
  str : mg "str" = none
  len : mg "len" = none
  all : mg "all" = none
  any : mg "any" = none
  enumerate : mg "enumerate" = none
  zip : mg "zip" = none
  sum : mg "sum" = none
  range : mg "range" = none
  min : mg "min" = none
  max : mg "max" = none
  periods : mg "MOST_PERIODS" = some (.int 12 0) ∨ ∃ t, mg "MOST_PERIODS" = some (.int 12 t)
  entry : ∃ t, mg "MOST_ENTRY" = some (.int 999 t)
  load : ∃ t, mg "MOST_LOAD" = some (.int 9999 t)
theorem ok_needProblem {f fI fJ : Addr} {fd fdI fdJ : FuncData} (F : Fun K "need_problem" "need_problem" sNeedProblem f fd) (FI : Fun K "is_in" "is_in" sIsIn fI fdI) (bI : Binds K fdI ["value", "least", "most"] []) (gI : mg "is_in" = some (.ref fI))
    (FJ : Fun K "is_int" "is_int" sIsInt fJ fdJ) (bJ : Binds K fdJ ["value"] []) (gJ : mg "is_int" = some (.ref fJ)) (T : Tb mg) : FnOk P w K mg base CX0 3 f fd ["value"] spNeedProblem := by
  have GI : FnOk P w K mg base CX0 2 fI fdI ["value", "least", "most"] spIsIn := ok_isIn FI FJ bJ gJ T.isinstance T.int T.bool
  obtain ⟨tE, hE⟩ := T.entry
  have ⟨tP, hP⟩ : ∃ t, mg "MOST_PERIODS" = some (.int 12 t) := T.periods.elim (fun h => ⟨0, h⟩) id
  refine F.ok scNeedProblem (fun vs H Q E h => ?_) (fun cdv A outer s H vs Q E hr h => ?_)
  · obtain ⟨q, n, D, S, U, G, rfl, _⟩ := h
    rfl
  · obtain ⟨q, n, D, S, U, G, rfl, ⟨d, s, u, g, hq, hd, hs, hu, hg⟩, ok, k⟩ := h
    refine ⟨_, pss_cons (ps_if (PW.pt (pw_or (pt_not (pt_val (pe_callB (r := rIsi K) call_isi (by rfl) T.isinstance bt_isinstance (pa_cons (pv 0) (pa_cons (pe_bltn (v := .ty "tuple") (by rfl) T.tuple (by decide +kernel) rfl) pa_nil)))))
        (pw_or (pt_cmpR op_ne (pe_callB (r := rLen K) call_len_seq (by rfl) T.len PySem.boot_len (pa_cons (pv 0) pa_nil)) pe_int (nomark _))
          (pw_or1 (pt_not (pt_val (pe_callB (r := rAll K) (cr_all rfl) (by rfl) T.all bt_all (pa_cons (pe_lc (own := [("part", 2)]) (g := gName 2) (tt := tYes) rfl scNeedProblem.nd (pi_tup (pv 0)) (blkOk_by (N := ["value", "number", "part", "index", "entry"]) (sc := defScope sNeedProblem) (by decide +kernel))
            (fun _ _ _ _ _ => pg_name (i := 2) scNeedProblem.nd rfl (Or.inl rfl)) (fun _ _ _ _ _ => pts_nil) (fun _ _ _ _ _ => pe_callB (r := rIsi K) call_isi (by rfl) T.isinstance bt_isinstance (pa_cons (pv 2) (pa_cons (pe_bltn (v := .ty "tuple") (by rfl) T.tuple (by decide +kernel) rfl) pa_nil)))) pa_nil))))))))
        (pss_one ps_never) pss_nil)
      (pss_cons (ps_if (PW.pt (pw_or (pt_not (pt_chain op_le op_le pe_int (pe_callB (r := rLen K) call_len_seq (by rfl) T.len PySem.boot_len (pa_cons (pe_ix (r := rIxT K) ix_tup (pv 0) pe_int (fun _ _ => rfl)) pa_nil)) (pe_glob (v := .int 12) (by rfl) hP ⟨_, rfl⟩)))
          (pw_or1 (pt_val (pe_callB (r := rAny K) (cr_any rfl) (by rfl) T.any bt_any (pa_cons (pe_lc (own := [("part", 2)]) (g := gName 2) (tt := tYes) rfl scNeedProblem.nd (pi_tup (pv 0)) (blkOk_by (N := ["value", "number", "part", "index", "entry"]) (sc := defScope sNeedProblem) (by decide +kernel))
            (fun _ _ _ _ _ => pg_name (i := 2) scNeedProblem.nd rfl (Or.inl rfl)) (fun _ _ _ _ _ => pts_nil) (fun _ _ _ _ _ => pe_cmpR op_ne (pe_callB (r := rLen K) call_len_seq (by rfl) T.len PySem.boot_len (pa_cons (pv 2) pa_nil)) (pe_callB (r := rLen K) call_len_seq (by rfl) T.len PySem.boot_len (pa_cons (pe_ix (r := rIxT K) ix_tup (pv 0) pe_int (fun _ _ => rfl)) pa_nil)) (nomark _))) pa_nil))))))
        (pss_one ps_never) pss_nil)
      (pss_one (ps_for PassesOwn.never rfl (pi_enumT (by rfl) T.enumerate (pa_cons (pv 0) pa_nil)) (pg_tup rfl (pgs_cons (pg_name (i := 1) scNeedProblem.nd rfl (.inl rfl)) (pgs_cons (pg_name (i := 2) scNeedProblem.nd rfl (.inl rfl)) pgs_nil)))
        (pss_one (ps_for PassesOwn.never rfl (pi_enumT (by rfl) T.enumerate (pa_cons (pv 2) pa_nil)) (pg_tup rfl (pgs_cons (pg_name (i := 3) scNeedProblem.nd rfl (.inl rfl)) (pgs_cons (pg_name (i := 4) scNeedProblem.nd rfl (.inl rfl)) pgs_nil)))
          (pss_one (ps_if (pt_not (pt_val (pe_call GI hr (by rfl) gI FI.kp bI .nil pass0 (pa_cons (pv 4) (pa_cons pe_int (pa_cons (pe_glob (v := .int 999) (by rfl) hE ⟨_, rfl⟩) pa_nil)))))) (pss_one ps_never) pss_nil))))))), ?_⟩
    have part_at : ∀ (i : Nat) (x : V), ([.ref d, .ref s, .ref u, .ref g] : List V)[i]? = some x → ∃ (b : Addr) (ys : List Int), x = .ref b ∧ H b = some (.tup (ys.map V.int)) ∧ Few n ys := by
      intro i x hx
      match i, hx with
      | 0, hx => cases hx; exact ⟨d, D, rfl, hd, ok.d⟩
      | 1, hx => cases hx; exact ⟨s, S, rfl, hs, ok.s⟩
      | 2, hx => cases hx; exact ⟨u, U, rfl, hu, ok.u⟩
      | 3, hx => cases hx; exact ⟨g, G, rfl, hg, ok.g⟩
      | i + 4, hx => simp at hx
    refine ⟨_, rfl, .ref q, .ty "tuple", .type "tuple", .type "tuple", true, rfl, .ty _, .base (.tup hq), kit_ty (by decide +kernel), true, rfl, iteF ?_⟩
    refine ⟨.ref q, rfl, q, _, rfl, .inr (sqt hq), rfl, _, rfl, iteNS rfl ?_⟩
    refine ⟨.ref q, rfl, q, rfl, ⟨_, sqt hq⟩, fun C nC => lc_tup (K := K) (a := q) (xs := [.ref d, .ref s, .ref u, .ref g]) (fun i H' => Same H H' ∧ H' C = some (.lst ((List.replicate i true).map V.bl))) ⟨same_upd nC, upd_same⟩ (fun i H' _ h => sqt (h.1 _ _ hq)) ?_ ?_⟩
    · rintro i x H1 hx ⟨s1, c1⟩
      obtain ⟨b, ys, rfl, hb, _⟩ := part_at i x hx
      have hi : i < 4 := (List.getElem?_eq_some_iff.mp hx).1
      refine ⟨rfl, yesT ?_⟩
      refine ⟨_, rfl, .ref b, .ty "tuple", .type "tuple", .type "tuple", true, rfl, .ty _, .base (.tup (s1 _ _ hb)), kit_ty (by decide +kernel), _, c1, ?_, same_list s1 nC, ?_⟩
      · rw [List.length_map, List.length_replicate]; exact small1000 (by omega)
      · rw [upd_same, List.replicate_succ', List.map_append]; rfl
    rintro H1 ⟨s1, c1⟩
    refine ⟨C, List.replicate 4 true, rfl, sql c1, true, rfl, iteF ?_⟩
    -- 1 <= len(value[0]) <= MOST_PERIODS
    have hq1 := s1 _ _ hq
    have hd1 := s1 _ _ hd
    have eD : ((D.map V.int).length : Int) = n := by rw [List.length_map, ok.d.len]
    refine ⟨.ref q, rfl, q, _, 0, .ref d, rfl, rfl, sqt hq1, atI_nat (j := 0) rfl, d, _, rfl, .inr (sqt hd1), _, _, rfl, rfl, true, ?_, iteT ⟨_, _, rfl, rfl, true, ?_, iteF ?_⟩⟩
    · rw [eD]; exact congrArg V.bl (decide_eq_true (by have := ok.n1; omega))
    · rw [eD]; exact congrArg V.bl (decide_eq_true (by have := ok.n2; omega))
    refine ⟨.ref q, rfl, q, rfl, ⟨_, sqt hq1⟩, fun C2 nC2 => lc_tup (K := K) (a := q) (xs := [.ref d, .ref s, .ref u, .ref g]) (fun i H' => Same H H' ∧ H' C2 = some (.lst ((List.replicate i false).map V.bl))) ⟨fun b x e => same_upd nC2 _ _ (s1 _ _ e), upd_same⟩ (fun i H' _ h => sqt (h.1 _ _ hq)) ?_ ?_⟩
    · rintro i x H2 hx ⟨s2, c2⟩
      obtain ⟨b, ys, rfl, hb, hy⟩ := part_at i x hx
      have hi : i < 4 := (List.getElem?_eq_some_iff.mp hx).1
      refine ⟨rfl, yesT ?_⟩
      refine ⟨_, rfl, b, _, rfl, .inr (sqt (s2 _ _ hb)), .ref q, rfl, q, _, 0, .ref d, rfl, rfl, sqt (s2 _ _ hq), atI_nat (j := 0) rfl, d, _, rfl, .inr (sqt (s2 _ _ hd)), rfl, _, c2, ?_, same_list s2 (s1.free nC2), ?_⟩
      · rw [List.length_map, List.length_replicate]; exact small1000 (by omega)
      · rw [upd_same, List.replicate_succ', List.map_append]
        have e : (!decide (V.int ((List.map V.int ys).length : Int) = V.int ((List.map V.int D).length : Int))) = false := by
          rw [List.length_map, List.length_map, hy.len, ok.d.len]; simp
        rw [e]; rfl
    rintro H2 ⟨s2, c2⟩
    refine ⟨C2, List.replicate 4 false, rfl, sql c2, false, rfl, iteF ?_⟩
    -- the loops
    refine ⟨.ref q, rfl, q, _, rfl, sqt (s2 _ _ hq), for_it (walk_enumT (K := K) (a := q) (xs := [.ref d, .ref s, .ref u, .ref g])) (fun i σ H' => Same H H' ∧ ∃ y1 y2 y3 y4, σ = [some (.ref q), y1, y2, y3, y4]) ⟨s2, _, _, _, _, rfl⟩ (fun i σ H' _ h => sqt (h.1 _ _ hq)) ?_ fun σ H' h => k _ h.1⟩
    rintro i x σ H3 H4 hi ⟨s3, y1, y2, y3, y4, rfl⟩ ⟨Tp, x1, x2, rfl, nT, rfl, e1, e2⟩
    obtain ⟨b, ys, rfl, hb, hy⟩ := part_at i x2 e2
    have s4 : Same H (upd H3 Tp (.tup [x1, .ref b])) := fun c z e => same_upd nT _ _ (s3 _ _ e)
    refine ⟨Tp, [x1, .ref b], rfl, sqt upd_same, rfl, x1, [.ref b], rfl, .ref b, [], rfl, rfl, ?_⟩
    refine ⟨.ref b, rfl, b, _, rfl, sqt (s4 _ _ hb), for_it (walk_enumT (K := K) (a := b) (xs := ys.map V.int)) (fun i σ H' => Same H H' ∧ ∃ y1 y2 y3 y4, σ = [some (.ref q), y1, y2, y3, y4]) ⟨s4, _, _, _, _, rfl⟩ (fun i σ H' _ h => sqt (h.1 _ _ hb)) ?_ fun σ H' h => h⟩
    rintro j x σ H5 H6 hj ⟨s5, z1, z2, z3, z4, rfl⟩ ⟨Tp2, w1, w2, rfl, nT2, rfl, f1, f2⟩
    rw [List.length_map] at hj
    obtain rfl : V.int (LM.g ys j) = w2 := Option.some.inj ((geti hj).symm.trans f2)
    have s6 : Same H (upd H5 Tp2 (.tup [w1, .int (LM.g ys j)])) := fun c z e => same_upd nT2 _ _ (s5 _ _ e)
    refine ⟨Tp2, [w1, _], rfl, sqt upd_same, rfl, w1, [_], rfl, _, [], rfl, rfl, ?_⟩
    refine ⟨_, rfl, _, 0, 999, rfl, _, rfl, ?_⟩
    have e : decide (0 ≤ LM.g ys j ∧ LM.g ys j ≤ 999) = true := decide_eq_true ⟨hy.lo _ (g_in hj), hy.hi _ (g_in hj)⟩
    rw [e]
    exact iteF ⟨s6, _, _, _, _, rfl⟩
end
end TW

namespace TW
open PySem PySem.Spec PyProof.Rows L2 TK
theorem walk_zipT {K : PySem.W.Frag} {a b : Addr} {xs ys : List V} {n : Nat} (h1 : xs.length = n) (h2 : ys.length = n) : Walk (RZ.ItzT K a b) n (fun H => SqT K H a xs ∧ SqT K H b ys) (YPair (fun i => xs[i]?) (fun i => ys[i]?)) := by
  refine ⟨fun i _ hi q => ?_, fun _ q => ⟨xs, ys, q.1, q.2, by omega⟩, fun i H v H' _ q y => ?_⟩
  · exact ⟨xs, ys, xs[i], ys[i], q.1, q.2, List.getElem?_eq_getElem _, List.getElem?_eq_getElem _⟩
  · obtain ⟨T, x, z, h1, h2, h3, h4, h5⟩ := y
    exact ⟨T, x, z, h1, h2, h3, h4 xs q.1, h5 ys q.2⟩
section
variable {P : Program} {w : World} {K : PySem.W.Frag} {mg : Str → Option Value} {base : Heap}
/-! ### periods_of -/
def spPeriods : Sp := fun vs H Q _ => ∃ (q d : Addr) (r ds : List V), vs = [.ref q] ∧ H q = some (.tup (.ref d :: r)) ∧ H d = some (.tup ds) ∧ Q (.int ds.length) H
theorem ok_periods {f : Addr} {fd : FuncData} (F : Fun K "periods_of" "periods_of" sPeriods f fd) (ml : mg "len" = none) : FnOk P w K mg base CX0 1 f fd ["problem"] spPeriods := by
  refine F.ok scPeriods (fun vs H Q E h => ?_) (fun cdv A outer s H vs Q E hr h => ?_)
  · obtain ⟨q, d, r, ds, rfl, _⟩ := h
    rfl
  · obtain ⟨q, d, r, ds, rfl, hq, hd, k⟩ := h
    refine ⟨_, pss_one (ps_ret (pe_callB (r := rLen K) call_len_seq (by rfl) ml PySem.boot_len (pa_cons (pe_ix (r := rIxT K) ix_tup (pv 0) pe_int (fun _ _ => rfl)) pa_nil))), ?_⟩
    exact ⟨.ref q, rfl, q, _, 0, .ref d, rfl, rfl, sqt hq, atI_nat (j := 0) rfl, d, ds, rfl, .inr (sqt hd), k⟩
/-! ### stock_row -/
theorem scStock : FnScope ["demands", "amounts", "found", "stock", "amount", "demand"] ["demands", "amounts"] (defScope sStock) := ⟨rfl, rfl, rfl, by decide +kernel, rfl, by decide +kernel, by decide +kernel⟩
def spStock : Sp := fun vs H Q _ => ∃ (a b : Addr) (ds xs : List Int), vs = [.ref a, .ref b] ∧ H a = some (.tup (ds.map V.int)) ∧ H b = some (.tup (xs.map V.int)) ∧ ds.length = xs.length ∧ xs.length ≤ 1000 ∧
  ∀ H' p, Same H H' → H p = none → H' p = some (.lst ((LM.stkL ds xs xs.length).map V.int)) → Q (.ref p) H'
theorem ok_stock {f : Addr} {fd : FuncData} (F : Fun K "stock_row" "stock_row" sStock f fd) (mz : mg "zip" = none) : FnOk P w K mg base CX0 1 f fd ["demands", "amounts"] spStock := by
  refine F.ok scStock (fun vs H Q E h => ?_) (fun cdv A outer s H vs Q E hr h => ?_)
  · obtain ⟨a, b, ds, xs, rfl, _⟩ := h
    rfl
  · obtain ⟨a, b, ds, xs, rfl, ha, hb, hl, hle, k⟩ := h
    refine ⟨_, pss_cons (ps_par (i := 2) (j := 3) (by rfl) scStock.nd rfl rfl (by decide) rfl rfl (pa_cons (pe_lst pa_nil) (pa_cons pe_int pa_nil)) (by rfl))
      (pss_cons (ps_for PassesOwn.never rfl (RZ.pi_zipA (by rfl) mz (pa_cons (pv 1) (pa_cons (pv 0) pa_nil))) (pg_tup rfl (pgs_cons (pg_name (i := 4) scStock.nd rfl (.inl rfl)) (pgs_cons (pg_name (i := 5) scStock.nd rfl (.inl rfl)) pgs_nil)))
        (pss_cons (ps_aug (i := 3) scStock.nd rfl (.inl rfl) (pe_op op_sub (pv 4) (pv 5)) ip_add)
          (pss_one (ps_expr (pe_bm PySem.F.plainAttrs_list PySem.F.slot_list_append PySem.F.type_list_append mt_append (pv 2) (pa_cons (pv 3) pa_nil))))))
      (pss_one (ps_ret (pv 2)))), ?_⟩
    refine ⟨Nat.zero_le _, fun p np => ?_⟩
    refine ⟨.ref p, .int 0, rfl, ?_⟩
    have s1 : Same H (upd H p (.lst [])) := same_upd np
    refine ⟨.ref b, rfl, .ref a, rfl, b, a, _, _, rfl, .inr ⟨sqt (s1 _ _ hb), sqt (s1 _ _ ha), ?_⟩⟩
    refine for_it (walk_zipT (K := K) (a := b) (b := a) (xs := xs.map V.int) (ys := ds.map V.int) (n := xs.length) (by rw [List.length_map]) (by rw [List.length_map, hl]))
      (fun i σ H' => Same H H' ∧ H' p = some (.lst ((LM.stkL ds xs i).map V.int)) ∧ ∃ y4 y5, σ = [some (.ref a), some (.ref b), some (.ref p), some (.int (LM.stk (LM.g ds) (LM.g xs) i)), y4, y5])
      ⟨s1, upd_same, _, _, rfl⟩ (fun i σ H' _ h => ⟨sqt (h.1 _ _ hb), sqt (h.1 _ _ ha)⟩) ?_ ?_
    · rintro i x σ H2 H3 hi ⟨s2, hp, y4, y5, rfl⟩ ⟨Tp, x1, x2, rfl, nT, rfl, e1, e2⟩
      obtain rfl : V.int (LM.g xs i) = x1 := Option.some.inj ((geti hi).symm.trans e1)
      obtain rfl : V.int (LM.g ds i) = x2 := Option.some.inj ((geti (by omega)).symm.trans e2)
      have npT : p ≠ Tp := ne_of_none hp nT
      have s3 : Same H (upd H2 Tp (.tup [.int (LM.g xs i), .int (LM.g ds i)])) := fun c z e => same_upd nT _ _ (s2 _ _ e)
      have hp3 : upd H2 Tp (.tup [.int (LM.g xs i), .int (LM.g ds i)]) p = some (.lst ((LM.stkL ds xs i).map V.int)) := by rw [upd_ne npT]; exact hp
      refine ⟨Tp, [_, _], rfl, sqt upd_same, rfl, _, [_], rfl, _, [], rfl, rfl, ?_⟩
      refine ⟨_, rfl, _, rfl, _, rfl, _, _, rfl, rfl, _, _, rfl, rfl, ?_⟩
      refine ⟨.ref p, rfl, .inl ⟨rfl, _, sql hp3⟩, _, rfl, p, _, _, rfl, rfl, hp3, ?_, ?_⟩
      · rw [List.length_map, LM.stkL_length]; exact small1000 (by omega)
      · refine ⟨same_list s3 np, ?_, _, _, by rw [LM.stk_succ]; rfl⟩
        rw [upd_same, LM.stkL_succ, List.map_append, LM.stk_succ]; rfl
    · rintro σ H2 ⟨s2, hp, y4, y5, rfl⟩
      exact ⟨.ref p, rfl, k H2 p s2 np hp⟩
end
end TW

namespace TW
open PySem PySem.Spec PyProof.Rows L2 TK
/-- a plan of the demands D -/
structure PlanL (D X : List Int) : Prop where
  len : X.length = D.length
  nn : ∀ x ∈ X, 0 ≤ x
  plan : LM.Plan D.length (LM.g D) (LM.g X)
theorem PlanL.sum {D X : List Int} (p : PlanL D X) : X.sum = D.sum := by
  rw [LM.sum_all, LM.sum_all, p.len]
  have := p.plan.fin
  unfold LM.stk at this
  omega
section
variable {P : Program} {w : World} {K : PySem.W.Frag} {mg : Str → Option Value} {base : Heap}
/-! ### need_plan -/
theorem scNeedPlan : FnScope ["problem", "value", "many", "part", "index", "stock"] ["problem", "value"] (defScope sNeedPlan) := ⟨rfl, rfl, rfl, by decide +kernel, rfl, by decide +kernel, by decide +kernel⟩
def spNeedPlan : Sp := fun vs H Q _ => ∃ (q v : Addr) (n : Nat) (D S U G X : List Int), vs = [.ref q, .ref v] ∧ PAt H q D S U G ∧ POk n D S U G ∧ H v = some (.tup (X.map V.int)) ∧ PlanL D X ∧ ∀ H', Same H H' → Q .non H'
theorem ok_needPlan {f fP fS fJ : Addr} {fd fdP fdS fdJ : FuncData} (F : Fun K "need_plan" "need_plan" sNeedPlan f fd)
    (FP : Fun K "periods_of" "periods_of" sPeriods fP fdP) (bP : Binds K fdP ["problem"] []) (gP : mg "periods_of" = some (.ref fP))
    (FS : Fun K "stock_row" "stock_row" sStock fS fdS) (bS : Binds K fdS ["demands", "amounts"] []) (gS : mg "stock_row" = some (.ref fS))
    (FJ : Fun K "is_int" "is_int" sIsInt fJ fdJ) (bJ : Binds K fdJ ["value"] []) (gJ : mg "is_int" = some (.ref fJ)) (T : Tb mg) : FnOk P w K mg base CX0 2 f fd ["problem", "value"] spNeedPlan := by
  have GP : FnOk P w K mg base CX0 1 fP fdP ["problem"] spPeriods := ok_periods FP T.len
  have GS : FnOk P w K mg base CX0 1 fS fdS ["demands", "amounts"] spStock := ok_stock FS T.zip
  have GJ : FnOk P w K mg base CX0 1 fJ fdJ ["value"] spIsInt := ok_isInt FJ T.isinstance T.int T.bool
  refine F.ok scNeedPlan (fun vs H Q E h => ?_) (fun cdv A outer s H vs Q E hr h => ?_)
  · obtain ⟨q, v, n, D, S, U, G, X, rfl, _⟩ := h
    rfl
  · obtain ⟨q, v, n, D, S, U, G, X, rfl, ⟨d, s, u, g, hq, hd, hs, hu, hg⟩, ok, hv, pl, k⟩ := h
    refine ⟨_, pss_cons (ps_set (i := 2) scNeedPlan.nd rfl (Or.inl rfl) (pe_call GP hr (by rfl) gP FP.kp bP .nil pass0 (pa_cons (pv 0) pa_nil)))
      (pss_cons (ps_if (PW.pt (pw_or (pt_not (pt_val (pe_callB (r := rIsi K) call_isi (by rfl) T.isinstance bt_isinstance (pa_cons (pv 1) (pa_cons (pe_bltn (v := .ty "tuple") (by rfl) T.tuple (by decide +kernel) rfl) pa_nil)))))
        (pw_or (pt_cmpR op_ne (pe_callB (r := rLen K) call_len_seq (by rfl) T.len PySem.boot_len (pa_cons (pv 1) pa_nil)) (pv 2) (nomark _))
          (pw_or1 (pt_not (pt_val (pe_callB (r := rAll K) (cr_all rfl) (by rfl) T.all bt_all (pa_cons (pe_lc (own := [("part", 3)]) (g := gName 3) (tt := tYes) rfl scNeedPlan.nd (pi_tup (pv 1)) (blkOk_by (N := ["problem", "value", "many", "part", "index", "stock"]) (sc := defScope sNeedPlan) (by decide +kernel))
            (fun _ _ _ _ _ => pg_name (i := 3) scNeedPlan.nd rfl (Or.inl rfl)) (fun _ _ _ _ _ => pts_nil) (fun _ _ _ _ _ => pe_and (pe_call GJ hr (by rfl) gJ FJ.kp bJ .nil pass0 (pa_cons (pv 3) pa_nil)) (pe_one (pe_cmpR op_ge (pv 3) pe_int (nomark _))))) pa_nil))))))))
        (pss_one ps_never) pss_nil)
      (pss_cons (ps_for PassesOwn.never rfl (pi_enum (by rfl) T.enumerate (pa_cons (pe_call GS hr (by rfl) gS FS.kp bS .nil pass0 (pa_cons (pe_ix (r := rIxT K) ix_tup (pv 0) pe_int (fun _ _ => rfl)) (pa_cons (pv 1) pa_nil))) pa_nil))
          (pg_tup rfl (pgs_cons (pg_name (i := 4) scNeedPlan.nd rfl (.inl rfl)) (pgs_cons (pg_name (i := 5) scNeedPlan.nd rfl (.inl rfl)) pgs_nil)))
        (pss_one (ps_if (pt_cmpR op_lt (pv 5) pe_int (nomark _)) (pss_one ps_never) pss_nil)))
      (pss_one (ps_if (pt_cmpR op_ne (pe_callB (r := rSumT K) (cr_sumT rfl) (by rfl) T.sum bt_sum (pa_cons (pv 1) pa_nil)) (pe_callB (r := rSumT K) (cr_sumT rfl) (by rfl) T.sum bt_sum (pa_cons (pe_ix (r := rIxT K) ix_tup (pv 0) pe_int (fun _ _ => rfl)) pa_nil)) (nomark _)) (pss_one ps_never) pss_nil)))), ?_⟩
    have eX : ((X.map V.int).length : Int) = ((D.map V.int).length : Int) := by rw [List.length_map, List.length_map, pl.len]
    refine ⟨.ref q, rfl, q, d, _, _, rfl, hq, hd, ?_⟩
    refine ⟨_, rfl, .ref v, .ty "tuple", .type "tuple", .type "tuple", true, rfl, .ty _, .base (.tup hv), kit_ty (by decide +kernel), true, rfl, iteF ?_⟩
    refine ⟨.ref v, rfl, v, _, rfl, .inr (sqt hv), _, rfl, rfl, _, rfl, iteNS (congrArg V.int eX) ?_⟩
    refine ⟨.ref v, rfl, v, rfl, ⟨_, sqt hv⟩, fun C nC => lc_tup (K := K) (a := v) (xs := X.map V.int) (fun i H' => Same H H' ∧ H' C = some (.lst ((List.replicate i true).map V.bl))) ⟨same_upd nC, upd_same⟩ (fun i H' _ h => sqt (h.1 _ _ hv)) ?_ ?_⟩
    · rintro i x H1 hx ⟨s1, c1⟩
      have hi : i < X.length := by have := (List.getElem?_eq_some_iff.mp hx).1; rw [List.length_map] at this; exact this
      obtain rfl : V.int (LM.g X i) = x := Option.some.inj ((geti hi).symm.trans hx)
      refine ⟨rfl, yesT ?_⟩
      refine ⟨_, rfl, _, rfl, true, rfl, iteT ?_⟩
      refine ⟨_, rfl, _, _, rfl, rfl, _, c1, ?_, same_list s1 nC, ?_⟩
      · rw [List.length_map, List.length_replicate]
        have := pl.len; have := ok.d.len; have := ok.n2
        exact small1000 (by omega)
      · rw [upd_same, List.replicate_succ', List.map_append]
        have e : decide ((0 : Int) ≤ LM.g X i) = true := decide_eq_true (pl.nn _ (g_in hi))
        show some (HO.lst (_ ++ [V.bl (decide ((0 : Int) ≤ LM.g X i))])) = _
        rw [e]; rfl
    rintro H1 ⟨s1, c1⟩
    refine ⟨C, List.replicate (X.map V.int).length true, rfl, sql c1, _, rfl, ?_⟩
    have eall : (List.replicate (X.map V.int).length true).all id = true := by simp
    show if (!((List.replicate (X.map V.int).length true).all id)) = true then _ else _
    rw [eall]
    refine iteF ?_
    -- the loop
    have hq1 := s1 _ _ hq
    refine ⟨.ref q, rfl, q, _, 0, .ref d, rfl, rfl, sqt hq1, atI_nat (j := 0) rfl, .ref v, rfl, d, v, D, X, rfl, s1 _ _ hd, s1 _ _ hv, pl.len.symm, ?_, fun H2 p s2 np hp => ?_⟩
    · have := pl.len; have := ok.d.len; have := ok.n2; omega
    refine ⟨p, _, rfl, sql hp, for_it (walk_enum (K := K) (a := p) (xs := (LM.stkL D X X.length).map V.int)) (fun i σ H' => Same H H' ∧ H' p = some (.lst ((LM.stkL D X X.length).map V.int)) ∧ ∃ y2 y3 y4 y5, σ = [some (.ref q), some (.ref v), y2, y3, y4, y5])
      ⟨s1.trans s2, hp, _, _, _, _, rfl⟩ (fun i σ H' _ h => sql h.2.1) ?_ ?_⟩
    · rintro i x σ H3 H4 hi ⟨s3, hp3, y2, y3, y4, y5, rfl⟩ ⟨Tp, x1, x2, rfl, nT, rfl, e1, e2⟩
      rw [List.length_map, LM.stkL_length] at hi
      have e3 : ((LM.stkL D X X.length).map V.int)[i]? = some (.int (LM.stk (LM.g D) (LM.g X) (i + 1))) := by
        rw [List.getElem?_map, LM.stkL_get hi]; rfl
      obtain rfl : V.int (LM.stk (LM.g D) (LM.g X) (i + 1)) = x2 := Option.some.inj (e3.symm.trans e2)
      have npT : p ≠ Tp := ne_of_none hp3 nT
      refine ⟨Tp, [x1, _], rfl, sqt upd_same, rfl, x1, [_], rfl, _, [], rfl, rfl, ?_⟩
      refine ⟨_, rfl, _, _, rfl, rfl, _, rfl, ?_⟩
      have e4 : decide (LM.stk (LM.g D) (LM.g X) (i + 1) < 0) = false := decide_eq_false (by
        have := pl.plan.stk (i + 1) (by rw [← pl.len]; omega); omega)
      rw [e4]
      refine iteF ⟨fun c z e => same_upd nT _ _ (s3 _ _ e), by rw [upd_ne npT]; exact hp3, _, _, _, _, rfl⟩
    · rintro σ H3 ⟨s3, hp3, y2, y3, y4, y5, rfl⟩
      refine ⟨.ref v, rfl, v, X, rfl, sqt (s3 _ _ hv), .ref q, rfl, q, _, 0, .ref d, rfl, rfl, sqt (s3 _ _ hq), atI_nat (j := 0) rfl, d, D, rfl, sqt (s3 _ _ hd), rfl, _, rfl, iteNS (congrArg V.int pl.sum) ?_⟩
      exact k _ s3
/-! ### need_load -/
theorem scNeedLoad : FnScope ["problem", "load"] ["problem", "load"] (defScope sNeedLoad) := ⟨rfl, rfl, rfl, by decide +kernel, rfl, by decide +kernel, by decide +kernel⟩
def spNeedLoad : Sp := fun vs H Q _ => ∃ (q : Addr) (n : Nat) (D S U G : List Int) (L : Int), vs = [.ref q, .int L] ∧ PAt H q D S U G ∧ POk n D S U G ∧ 1 ≤ L ∧ L ≤ 9999 ∧ ∀ H', Same H H' → Q .non H'
theorem ok_needLoad {f fN fI fJ : Addr} {fd fdN fdI fdJ : FuncData} (F : Fun K "need_load" "need_load" sNeedLoad f fd)
    (FN : Fun K "need_problem" "need_problem" sNeedProblem fN fdN) (bN : Binds K fdN ["value"] []) (gN : mg "need_problem" = some (.ref fN))
    (FI : Fun K "is_in" "is_in" sIsIn fI fdI) (bI : Binds K fdI ["value", "least", "most"] []) (gI : mg "is_in" = some (.ref fI))
    (FJ : Fun K "is_int" "is_int" sIsInt fJ fdJ) (bJ : Binds K fdJ ["value"] []) (gJ : mg "is_int" = some (.ref fJ)) (T : Tb mg) : FnOk P w K mg base CX0 4 f fd ["problem", "load"] spNeedLoad := by
  have GN : FnOk P w K mg base CX0 3 fN fdN ["value"] spNeedProblem := ok_needProblem FN FI bI gI FJ bJ gJ T
  have GI : FnOk P w K mg base CX0 2 fI fdI ["value", "least", "most"] spIsIn := ok_isIn FI FJ bJ gJ T.isinstance T.int T.bool
  obtain ⟨tL, hL⟩ := T.load
  refine F.ok scNeedLoad (fun vs H Q E h => ?_) (fun cdv A outer s H vs Q E hr h => ?_)
  · obtain ⟨q, n, D, S, U, G, L, rfl, _⟩ := h
    rfl
  · obtain ⟨q, n, D, S, U, G, L, rfl, hp, ok, l1, l2, k⟩ := h
    refine ⟨_, pss_cons (ps_expr (pe_call GN hr (by rfl) gN FN.kp bN .nil pass0 (pa_cons (pv 0) pa_nil)))
      (pss_one (ps_if (pt_not (pt_val (pe_call GI (hr.mono (by decide)) (by rfl) gI FI.kp bI .nil pass0 (pa_cons (pv 1) (pa_cons pe_int (pa_cons (pe_glob (v := .int 9999) (by rfl) hL ⟨_, rfl⟩) pa_nil)))))) (pss_one ps_never) pss_nil)), ?_⟩
    refine ⟨.ref q, rfl, q, n, D, S, U, G, rfl, hp, ok, fun H1 s1 => ?_⟩
    refine ⟨_, rfl, _, 1, 9999, rfl, _, rfl, ?_⟩
    have e : decide ((1 : Int) ≤ L ∧ L ≤ 9999) = true := decide_eq_true ⟨l1, l2⟩
    rw [e]
    exact iteF (k _ s1)
end
end TW

namespace TW
open PySem PySem.Spec PyProof.Rows L2 TK
/-- the defs that stand, with how they are called -/
structure Dn (K : PySem.W.Frag) (mg : Str → Option Value) (x : Str) (st : Stmt) (ps : List Str) (f : Addr) (fd : FuncData) : Prop where
  F : Fun K x x st f fd
  b : Binds K fd ps []
  g : mg x = some (.ref f)
section
variable {P : Program} {w : World} {K : PySem.W.Frag} {mg : Str → Option Value} {base : Heap}
structure Lib (K : PySem.W.Frag) (mg : Str → Option Value) : Prop where
  T : Tb mg
  isInt : ∃ f fd, Dn K mg "is_int" sIsInt ["value"] f fd
  isIn : ∃ f fd, Dn K mg "is_in" sIsIn ["value", "least", "most"] f fd
  needProblem : ∃ f fd, Dn K mg "need_problem" sNeedProblem ["value"] f fd
  periods : ∃ f fd, Dn K mg "periods_of" sPeriods ["problem"] f fd
  stock : ∃ f fd, Dn K mg "stock_row" sStock ["demands", "amounts"] f fd
  needPlan : ∃ f fd, Dn K mg "need_plan" sNeedPlan ["problem", "value"] f fd
  needLoad : ∃ f fd, Dn K mg "need_load" sNeedLoad ["problem", "load"] f fd
  loads : ∃ f fd, Dn K mg "loads" sLoads ["amount", "load"] f fd
  truckCost : ∃ f fd, Dn K mg "truck_cost" sTruckCost ["problem", "load", "plan"] f fd
  run : ∃ f fd, Dn K mg "run" sRun ["problem", "load", "start", "end"] f fd
  trucked : ∃ f fd, Dn K mg "trucked" sTrucked ["problem", "load"] f fd
  least : ∃ f fd, Dn K mg "least_truck_cost" sLeast ["problem", "load"] f fd
  truckPlan : ∃ f fd, Dn K mg "truck_plan" sTruckPlan ["problem", "load"] f fd
  isLoaded : ∃ f fd, Dn K mg "is_loaded" sIsLoaded ["problem", "load", "plan"] f fd
  taken : ∃ f fd, Dn K mg "_law_taken" sTaken ["_law_row_here", "_law_many"] f fd
  pick : ∃ f fd, Dn K mg "_law_pick" sPick ["_law_row_here", "_law_things"] f fd
  alike : ∃ f fd, Dn K mg "_law_alike" sAlike ["_law_found", "_law_due"] f fd
  entries : ∃ f fd, Dn K mg "_law_entries" sEntries ["_law_row_here", "_law_many", "_law_most"] f fd
  steps : ∃ f fd, Dn K mg "_law_steps" sSteps ["_law_row_here", "_law_many", "_law_most"] f fd
  problem : ∃ f fd, Dn K mg "_law_problem" sProblem ["_law_row_here", "_law_many"] f fd
  row : ∃ f fd, Dn K mg "_law_row" sRow ["_law_demands", "_law_plan"] f fd
  allPlans : ∃ f fd, Dn K mg "_law_all_plans" sAllPlans ["_law_demands"] f fd
  small : ∃ f fd, Dn K mg "_law_small" sSmall ["_law_row_here"] f fd
  oddOnes : ∃ f fd, Dn K mg "_law_odd_ones" sOddOnes ["_law_demands", "_law_plan", "_law_is_odd"] f fd
  truck : ∃ f fd, Dn K mg "_law_truck" sTruck ["_law_problem_here", "_law_load", "_law_plan"] f fd
/-- what each call of a def may lean on: the promise at some level -/
structure Ok (P : Program) (w : World) (K : PySem.W.Frag) (mg : Str → Option Value) (base : Heap) (k : Nat) (x : Str) (st : Stmt) (ps : List Str) (sp : Sp) (f : Addr) (fd : FuncData) : Prop where
  D : Dn K mg x st ps f fd
  G : FnOk P w K mg base CX0 k f fd ps sp
theorem lIsInt (L : Lib K mg) : ∃ f fd, Ok P w K mg base 1 "is_int" sIsInt ["value"] spIsInt f fd := by
  obtain ⟨f, fd, D⟩ := L.isInt
  exact ⟨f, fd, D, ok_isInt D.F L.T.isinstance L.T.int L.T.bool⟩
theorem lIsIn (L : Lib K mg) : ∃ f fd, Ok P w K mg base 2 "is_in" sIsIn ["value", "least", "most"] spIsIn f fd := by
  obtain ⟨f, fd, D⟩ := L.isIn
  obtain ⟨g, gd, C⟩ := L.isInt
  exact ⟨f, fd, D, ok_isIn D.F C.F C.b C.g L.T.isinstance L.T.int L.T.bool⟩
theorem lNeedPlan (L : Lib K mg) : ∃ f fd, Ok P w K mg base 2 "need_plan" sNeedPlan ["problem", "value"] spNeedPlan f fd := by
  obtain ⟨f, fd, D⟩ := L.needPlan
  obtain ⟨g1, gd1, C1⟩ := L.periods
  obtain ⟨g2, gd2, C2⟩ := L.stock
  obtain ⟨g3, gd3, C3⟩ := L.isInt
  exact ⟨f, fd, D, ok_needPlan D.F C1.F C1.b C1.g C2.F C2.b C2.g C3.F C3.b C3.g L.T⟩
theorem lNeedLoad (L : Lib K mg) : ∃ f fd, Ok P w K mg base 4 "need_load" sNeedLoad ["problem", "load"] spNeedLoad f fd := by
  obtain ⟨f, fd, D⟩ := L.needLoad
  obtain ⟨g1, gd1, C1⟩ := L.needProblem
  obtain ⟨g2, gd2, C2⟩ := L.isIn
  obtain ⟨g3, gd3, C3⟩ := L.isInt
  exact ⟨f, fd, D, ok_needLoad D.F C1.F C1.b C1.g C2.F C2.b C2.g C3.F C3.b C3.g L.T⟩
theorem lStock (L : Lib K mg) : ∃ f fd, Ok P w K mg base 1 "stock_row" sStock ["demands", "amounts"] spStock f fd := by
  obtain ⟨f, fd, D⟩ := L.stock
  exact ⟨f, fd, D, ok_stock D.F L.T.zip⟩
theorem lPeriods (L : Lib K mg) : ∃ f fd, Ok P w K mg base 1 "periods_of" sPeriods ["problem"] spPeriods f fd := by
  obtain ⟨f, fd, D⟩ := L.periods
  exact ⟨f, fd, D, ok_periods D.F L.T.len⟩
theorem lLoads (L : Lib K mg) : ∃ f fd, Ok P w K mg base 1 "loads" sLoads ["amount", "load"] spLoads f fd := by
  obtain ⟨f, fd, D⟩ := L.loads
  exact ⟨f, fd, D, ok_loads D.F⟩
/-- a product whose left side is an entry -/
theorem cmul_entry {n : Nat} {l : List Int} (h : Few n l) {i : Nat} (hi : i < n) (y : Int) : CMul (LM.g l i) y := by
  have h1 := h.lo _ (g_in (by rw [h.len]; exact hi))
  have h2 := h.hi _ (g_in (by rw [h.len]; exact hi))
  exact .inl ⟨by omega, by omega⟩
/-! ### truck_cost -/
theorem scTruckCost : FnScope ["problem", "load", "plan", "found", "at", "stock"] ["problem", "load", "plan"] (defScope sTruckCost) := ⟨rfl, rfl, rfl, by decide +kernel, rfl, by decide +kernel, by decide +kernel⟩
def spTruckCost : Sp := fun vs H Q _ => ∃ (q v : Addr) (n : Nat) (D S U G X : List Int) (L : Int), vs = [.ref q, .int L, .ref v] ∧ PAt H q D S U G ∧ POk n D S U G ∧ 1 ≤ L ∧ L ≤ 9999 ∧ H v = some (.tup (X.map V.int)) ∧ PlanL D X ∧
  ∀ H', Same H H' → Q (.int (LM.costTo L (LM.g D) (LM.g S) (LM.g U) (LM.g G) (LM.g X) n)) H'
theorem ok_truckCost {f : Addr} {fd : FuncData} (F : Fun K "truck_cost" "truck_cost" sTruckCost f fd) (Lb : Lib K mg) : FnOk P w K mg base CX0 5 f fd ["problem", "load", "plan"] spTruckCost := by
  obtain ⟨fN, fdN, DN, GN⟩ := lNeedLoad (P := P) (w := w) (base := base) Lb
  obtain ⟨fP, fdP, DP, GP⟩ := lNeedPlan (P := P) (w := w) (base := base) Lb
  obtain ⟨fS, fdS, DS, GS⟩ := lStock (P := P) (w := w) (base := base) Lb
  obtain ⟨fL, fdL, DL, GL⟩ := lLoads (P := P) (w := w) (base := base) Lb
  refine F.ok scTruckCost (fun vs H Q E h => ?_) (fun cdv A outer s H vs Q E hr h => ?_)
  · obtain ⟨q, v, n, D, S, U, G, X, L, rfl, _⟩ := h
    rfl
  · obtain ⟨q, v, n, D, S, U, G, X, L, rfl, hp, ok, l1, l2, hv, pl, k⟩ := h
    refine ⟨_, pss_cons (ps_expr (pe_call GN hr (by rfl) DN.g DN.F.kp DN.b .nil pass0 (pa_cons (pv 0) (pa_cons (pv 1) pa_nil))))
      (pss_cons (ps_expr (pe_call GP (hr.mono (by decide)) (by rfl) DP.g DP.F.kp DP.b .nil pass0 (pa_cons (pv 0) (pa_cons (pv 2) pa_nil))))
      (pss_cons (ps_set (i := 3) scTruckCost.nd rfl (Or.inl rfl) pe_int)
      (pss_cons (ps_for PassesOwn.never rfl (pi_enum (by rfl) Lb.T.enumerate (pa_cons (pe_call GS (hr.mono (by decide)) (by rfl) DS.g DS.F.kp DS.b .nil pass0 (pa_cons (pe_ix (r := rIxT K) ix_tup (pv 0) pe_int (fun _ _ => rfl)) (pa_cons (pv 2) pa_nil))) pa_nil))
          (pg_tup rfl (pgs_cons (pg_name (i := 4) scTruckCost.nd rfl (.inl rfl)) (pgs_cons (pg_name (i := 5) scTruckCost.nd rfl (.inl rfl)) pgs_nil)))
        (pss_one (ps_aug (i := 3) scTruckCost.nd rfl (.inl rfl) (pe_op op_add (pe_op op_add
            (pe_op op_mul (pe_ix (r := rIxT K) ix_tup (pe_ix (r := rIxT K) ix_tup (pv 0) pe_int (fun _ _ => rfl)) (pv 4) (fun _ _ => rfl)) (pe_call GL (hr.mono (by decide)) (by rfl) DL.g DL.F.kp DL.b .nil pass0 (pa_cons (pe_ix (r := rIxT K) ix_tup (pv 2) (pv 4) (fun _ _ => rfl)) (pa_cons (pv 1) pa_nil))))
            (pe_op op_mul (pe_ix (r := rIxT K) ix_tup (pe_ix (r := rIxT K) ix_tup (pv 0) pe_int (fun _ _ => rfl)) (pv 4) (fun _ _ => rfl)) (pe_ix (r := rIxT K) ix_tup (pv 2) (pv 4) (fun _ _ => rfl))))
            (pe_op op_mul (pe_ix (r := rIxT K) ix_tup (pe_ix (r := rIxT K) ix_tup (pv 0) pe_int (fun _ _ => rfl)) (pv 4) (fun _ _ => rfl)) (pv 5))) ip_add)))
      (pss_one (ps_ret (pv 3)))))), ?_⟩
    have en := pl.len
    have ed := ok.d.len
    have n2 := ok.n2
    refine ⟨.ref q, rfl, .int L, rfl, q, n, D, S, U, G, L, rfl, hp, ok, l1, l2, fun H1 s1 => ?_⟩
    refine ⟨.ref q, rfl, .ref v, rfl, q, v, n, D, S, U, G, X, rfl, hp.mono s1.tups, ok, s1 _ _ hv, pl, fun H2 s2 => ?_⟩
    have s02 := s1.trans s2
    obtain ⟨d, s', u, g, hq, hd, hs, hu, hg⟩ := hp
    refine ⟨.ref q, rfl, q, _, 0, .ref d, rfl, rfl, sqt (s02 _ _ hq), atI_nat (j := 0) rfl, .ref v, rfl, d, v, D, X, rfl, s02 _ _ hd, s02 _ _ hv, en.symm, by omega, fun H3 p s3 np hpl => ?_⟩
    have s03 := s02.trans s3
    have np0 : H p = none := s02.free np
    refine ⟨p, _, rfl, sql hpl, for_it (walk_enum (K := K) (a := p) (xs := (LM.stkL D X X.length).map V.int)) (fun i σ H' => Same H H' ∧ H' p = some (.lst ((LM.stkL D X X.length).map V.int)) ∧
      ∃ y4 y5, σ = [some (.ref q), some (.int L), some (.ref v), some (.int (LM.costTo L (LM.g D) (LM.g S) (LM.g U) (LM.g G) (LM.g X) i)), y4, y5])
      ⟨s03, hpl, _, _, rfl⟩ (fun i σ H' _ h => sql h.2.1) ?_ ?_⟩
    · rintro i x σ H4 H5 hi ⟨s4, hp4, y4, y5, rfl⟩ ⟨Tp, x1, x2, rfl, nT, rfl, e1, e2⟩
      rw [List.length_map, LM.stkL_length] at hi
      have e3 : ((LM.stkL D X X.length).map V.int)[i]? = some (.int (LM.stk (LM.g D) (LM.g X) (i + 1))) := by
        rw [List.getElem?_map, LM.stkL_get hi]; rfl
      obtain rfl : V.int (LM.stk (LM.g D) (LM.g X) (i + 1)) = x2 := Option.some.inj (e3.symm.trans e2)
      obtain rfl : V.int ((i : Nat) : Int) = x1 := Option.some.inj e1
      have npT : p ≠ Tp := ne_of_none hp4 nT
      have s5 : Same H (upd H4 Tp (.tup [.int (i : Nat), .int (LM.stk (LM.g D) (LM.g X) (i + 1))])) := fun c z e => same_upd nT _ _ (s4 _ _ e)
      have hin : i < n := by omega
      refine ⟨Tp, [_, _], rfl, sqt upd_same, rfl, _, [_], rfl, _, [], rfl, rfl, ?_⟩
      refine ⟨_, rfl, ?_⟩
      -- problem[1][at] * loads(plan[at], load)
      refine ⟨.ref q, rfl, q, _, 1, .ref s', rfl, rfl, sqt (s5 _ _ hq), atI_nat (j := 1) rfl, _, rfl, s', _, i, _, rfl, rfl, sqt (s5 _ _ hs), atI_nat (j := i) (geti (by rw [ok.s.len]; exact hin)), ?_⟩
      refine ⟨.ref v, rfl, _, rfl, v, _, i, _, rfl, rfl, sqt (s5 _ _ hv), atI_nat (j := i) (geti hi), _, rfl, LM.g X i, L, rfl, by omega, by omega, _, _, rfl, rfl, cmul_entry ok.s hin _, ?_⟩
      -- problem[2][at] * plan[at]
      refine ⟨.ref q, rfl, q, _, 2, .ref u, rfl, rfl, sqt (s5 _ _ hq), atI_nat (j := 2) rfl, _, rfl, u, _, i, _, rfl, rfl, sqt (s5 _ _ hu), atI_nat (j := i) (geti (by rw [ok.u.len]; exact hin)), ?_⟩
      refine ⟨.ref v, rfl, _, rfl, v, _, i, _, rfl, rfl, sqt (s5 _ _ hv), atI_nat (j := i) (geti hi), _, _, rfl, rfl, cmul_entry ok.u hin _, _, _, rfl, rfl, ?_⟩
      -- problem[3][at] * stock
      refine ⟨.ref q, rfl, q, _, 3, .ref g, rfl, rfl, sqt (s5 _ _ hq), atI_nat (j := 3) rfl, _, rfl, g, _, i, _, rfl, rfl, sqt (s5 _ _ hg), atI_nat (j := i) (geti (by rw [ok.g.len]; exact hin)), ?_⟩
      refine ⟨_, rfl, _, _, rfl, rfl, cmul_entry ok.g hin _, _, _, rfl, rfl, _, _, rfl, rfl, ?_⟩
      exact ⟨s5, by rw [upd_ne npT]; exact hp4, _, _, rfl⟩
    · rintro σ H4 ⟨s4, hp4, y4, y5, rfl⟩
      rw [List.length_map, LM.stkL_length, show X.length = n by omega] at *
      exact ⟨_, rfl, k _ s4⟩
theorem lTruckCost (L : Lib K mg) : ∃ f fd, Ok P w K mg base 5 "truck_cost" sTruckCost ["problem", "load", "plan"] spTruckCost f fd := by
  obtain ⟨f, fd, D⟩ := L.truckCost
  exact ⟨f, fd, D, ok_truckCost D.F L⟩
end
end TW

namespace TW
open PySem PySem.Spec PyProof.Rows L2 TK
section
variable {P : Program} {w : World} {K : PySem.W.Frag} {mg : Str → Option Value} {base : Heap}
/-! ### is_loaded -/
theorem scIsLoaded : FnScope ["problem", "load", "plan", "odd", "amount", "stock"] ["problem", "load", "plan"] (defScope sIsLoaded) := ⟨rfl, rfl, rfl, by decide +kernel, rfl, by decide +kernel, by decide +kernel⟩
def spIsLoaded : Sp := fun vs H Q _ => ∃ (q v : Addr) (n : Nat) (D S U G X : List Int) (L : Int), vs = [.ref q, .int L, .ref v] ∧ PAt H q D S U G ∧ POk n D S U G ∧ 1 ≤ L ∧ L ≤ 9999 ∧ H v = some (.tup (X.map V.int)) ∧ PlanL D X ∧
  ∀ H', Same H H' → Q (.bl (LM.isLoaded L D X)) H'
theorem oddStep (L : Int) (D X : List Int) (i : Nat) (c : Int) (h : LM.oddRun L (LM.g D) (LM.g X) i = some c) :
    LM.oddRun L (LM.g D) (LM.g X) (i + 1) = (if c + (if LM.g X i % L ≠ 0 then 1 else 0) > 1 then none else some (if LM.stk (LM.g D) (LM.g X) (i + 1) = 0 then 0 else c + (if LM.g X i % L ≠ 0 then 1 else 0))) := by
  show (match LM.oddRun L (LM.g D) (LM.g X) i with | none => none | some c => _) = _
  rw [h]
theorem ok_isLoaded {f : Addr} {fd : FuncData} (F : Fun K "is_loaded" "is_loaded" sIsLoaded f fd) (Lb : Lib K mg) : FnOk P w K mg base CX0 5 f fd ["problem", "load", "plan"] spIsLoaded := by
  obtain ⟨fN, fdN, DN, GN⟩ := lNeedLoad (P := P) (w := w) (base := base) Lb
  obtain ⟨fP, fdP, DP, GP⟩ := lNeedPlan (P := P) (w := w) (base := base) Lb
  obtain ⟨fS, fdS, DS, GS⟩ := lStock (P := P) (w := w) (base := base) Lb
  refine F.ok scIsLoaded (fun vs H Q E h => ?_) (fun cdv A outer s H vs Q E hr h => ?_)
  · obtain ⟨q, v, n, D, S, U, G, X, L, rfl, _⟩ := h
    rfl
  · obtain ⟨q, v, n, D, S, U, G, X, L, rfl, hp, ok, l1, l2, hv, pl, k⟩ := h
    refine ⟨_, pss_cons (ps_expr (pe_call GN hr (by rfl) DN.g DN.F.kp DN.b .nil pass0 (pa_cons (pv 0) (pa_cons (pv 1) pa_nil))))
      (pss_cons (ps_expr (pe_call GP (hr.mono (by decide)) (by rfl) DP.g DP.F.kp DP.b .nil pass0 (pa_cons (pv 0) (pa_cons (pv 2) pa_nil))))
      (pss_cons (ps_set (i := 3) scIsLoaded.nd rfl (Or.inl rfl) pe_int)
      (pss_cons (ps_for PassesOwn.never rfl (pi_zipTL (by rfl) Lb.T.zip (pa_cons (pv 2) (pa_cons (pe_call GS (hr.mono (by decide)) (by rfl) DS.g DS.F.kp DS.b .nil pass0 (pa_cons (pe_ix (r := rIxT K) ix_tup (pv 0) pe_int (fun _ _ => rfl)) (pa_cons (pv 2) pa_nil))) pa_nil)))
          (pg_tup rfl (pgs_cons (pg_name (i := 4) scIsLoaded.nd rfl (.inl rfl)) (pgs_cons (pg_name (i := 5) scIsLoaded.nd rfl (.inl rfl)) pgs_nil)))
        (pss_cons (ps_aug (i := 3) scIsLoaded.nd rfl (.inl rfl) (pe_ifExp (pt_cmpR op_ne (pe_op op_mod (pv 4) (pv 1)) pe_int (nomark _)) pe_int pe_int) ip_add)
        (pss_cons (ps_if (pt_cmpR op_gt (pv 3) pe_int (nomark _)) (pss_one (ps_ret pe_bl)) pss_nil)
          (pss_one (ps_if (pt_cmpR op_eq (pv 5) pe_int (nomark _)) (pss_one (ps_set (i := 3) scIsLoaded.nd rfl (Or.inl rfl) pe_int)) pss_nil)))))
      (pss_one (ps_ret pe_bl))))), ?_⟩
    have en := pl.len
    have ed := ok.d.len
    have n2 := ok.n2
    refine ⟨.ref q, rfl, .int L, rfl, q, n, D, S, U, G, L, rfl, hp, ok, l1, l2, fun H1 s1 => ?_⟩
    refine ⟨.ref q, rfl, .ref v, rfl, q, v, n, D, S, U, G, X, rfl, hp.mono s1.tups, ok, s1 _ _ hv, pl, fun H2 s2 => ?_⟩
    have s02 := s1.trans s2
    obtain ⟨d, s', u, g, hq, hd, hs, hu, hg⟩ := hp
    refine ⟨.ref v, rfl, .ref q, rfl, q, _, 0, .ref d, rfl, rfl, sqt (s02 _ _ hq), atI_nat (j := 0) rfl, .ref v, rfl, d, v, D, X, rfl, s02 _ _ hd, s02 _ _ hv, en.symm, by omega, fun H3 p s3 np hpl => ?_⟩
    have s03 := s02.trans s3
    refine ⟨v, p, _, _, rfl, sqt (s03 _ _ hv), sql hpl, for_it (walk_zipTL (K := K) (a := v) (b := p) (xs := X.map V.int) (ys := (LM.stkL D X X.length).map V.int) (n := X.length) (by rw [List.length_map]) (by rw [List.length_map, LM.stkL_length]))
      (fun i σ H' => Same H H' ∧ H' p = some (.lst ((LM.stkL D X X.length).map V.int)) ∧ ∃ c y4 y5, LM.oddRun L (LM.g D) (LM.g X) i = some c ∧ σ = [some (.ref q), some (.int L), some (.ref v), some (.int c), y4, y5])
      ⟨s03, hpl, 0, _, _, rfl, rfl⟩ (fun i σ H' _ h => ⟨sqt (h.1 _ _ hv), sql h.2.1⟩) ?_ ?_⟩
    · rintro i x σ H4 H5 hi ⟨s4, hp4, c, y4, y5, hc, rfl⟩ ⟨Tp, x1, x2, rfl, nT, rfl, e1, e2⟩
      have e3 : ((LM.stkL D X X.length).map V.int)[i]? = some (.int (LM.stk (LM.g D) (LM.g X) (i + 1))) := by
        rw [List.getElem?_map, LM.stkL_get hi]; rfl
      obtain rfl : V.int (LM.stk (LM.g D) (LM.g X) (i + 1)) = x2 := Option.some.inj (e3.symm.trans e2)
      obtain rfl : V.int (LM.g X i) = x1 := Option.some.inj ((geti hi).symm.trans e1)
      have npT : p ≠ Tp := ne_of_none hp4 nT
      have s5 : Same H (upd H4 Tp (.tup [.int (LM.g X i), .int (LM.stk (LM.g D) (LM.g X) (i + 1))])) := fun c z e => same_upd nT _ _ (s4 _ _ e)
      have hp5 : upd H4 Tp (.tup [.int (LM.g X i), .int (LM.stk (LM.g D) (LM.g X) (i + 1))]) p = some (.lst ((LM.stkL D X X.length).map V.int)) := by rw [upd_ne npT]; exact hp4
      refine ⟨Tp, [_, _], rfl, sqt upd_same, rfl, _, [_], rfl, _, [], rfl, rfl, ?_⟩
      have step := oddStep L D X i c hc
      -- what follows the counting, whichever way
      have fin : ∀ z : Int, z = (if LM.g X i % L ≠ 0 then 1 else 0) → ∀ σ3 : L2.St, σ3 = [some (.ref q), some (.int L), some (.ref v), some (.int (c + z)), some (.int (LM.g X i)), some (.int (LM.stk (LM.g D) (LM.g X) (i + 1)))] →
          (∃ b, V.bl (decide (1 < c + z)) = .bl b ∧ if b = true then Q (.bl false) (upd H4 Tp (.tup [.int (LM.g X i), .int (LM.stk (LM.g D) (LM.g X) (i + 1))])) else True) := by
        intro z hz σ3 _
        refine ⟨_, rfl, ?_⟩
        by_cases g1 : 1 < c + z
        · rw [decide_eq_true g1, if_pos rfl]
          rw [← hz, if_pos (by omega)] at step
          have := LM.oddRun_none step X.length (by omega)
          have e : LM.isLoaded L D X = false := by unfold LM.isLoaded; rw [this]; rfl
          have := k _ s5
          rw [e] at this
          exact this
        · rw [decide_eq_false g1, if_neg (by decide)]
          trivial
      have rest : ∀ z : Int, z = (if LM.g X i % L ≠ 0 then 1 else 0) → ¬ 1 < c + z → LM.oddRun L (LM.g D) (LM.g X) (i + 1) = some (if LM.stk (LM.g D) (LM.g X) (i + 1) = 0 then 0 else c + z) := by
        intro z hz g1
        rw [step, ← hz, if_neg (by omega)]
      refine ⟨_, rfl, _, rfl, _, rfl, _, _, rfl, rfl, (by show (0 : Int) < L; omega), rfl, _, rfl, ?_⟩
      refine ite2 (fun o => ?_) (fun o => ?_)
      · have hz : (1 : Int) = (if LM.g X i % L ≠ 0 then 1 else 0) := by
          rw [if_pos]
          intro q
          have o' : (!decide (V.int (LM.g X i % L) = V.int 0)) = true := o
          rw [q] at o'
          simp at o'
        refine ⟨_, _, rfl, rfl, _, rfl, _, _, rfl, rfl, _, rfl, ?_⟩
        by_cases g1 : 1 < c + 1
        · obtain ⟨b, eb, hb⟩ := fin 1 hz _ rfl
          cases eb
          rw [if_pos (decide_eq_true g1)] at hb
          show if decide (1 < c + 1) = true then _ else _
          rw [if_pos (decide_eq_true g1)]
          exact hb
        · show if decide (1 < c + 1) = true then _ else _
          rw [if_neg (by rw [decide_eq_false g1]; decide)]
          refine ⟨_, rfl, rfl, _, rfl, ite2 (fun z0 => ?_) (fun z0 => ?_)⟩
          · have z1 : LM.stk (LM.g D) (LM.g X) (i + 1) = 0 := V.int.inj (of_decide_eq_true z0)
            refine ⟨s5, hp5, 0, _, _, ?_, rfl⟩
            rw [rest 1 hz g1, if_pos z1]
          · have z1 : ¬ LM.stk (LM.g D) (LM.g X) (i + 1) = 0 := fun q => z0 (decide_eq_true (congrArg V.int q))
            refine ⟨s5, hp5, c + 1, _, _, ?_, rfl⟩
            rw [rest 1 hz g1, if_neg z1]
      · have hz : (0 : Int) = (if LM.g X i % L ≠ 0 then 1 else 0) := by
          rw [if_neg]
          intro q
          apply o
          show (!decide (V.int (LM.g X i % L) = V.int 0)) = true
          rw [decide_eq_false (fun w => q (V.int.inj w))]
          rfl
        refine ⟨_, _, rfl, rfl, _, rfl, _, _, rfl, rfl, _, rfl, ?_⟩
        by_cases g1 : 1 < c + 0
        · obtain ⟨b, eb, hb⟩ := fin 0 hz _ rfl
          cases eb
          rw [if_pos (decide_eq_true g1)] at hb
          show if decide (1 < c + 0) = true then _ else _
          rw [if_pos (decide_eq_true g1)]
          exact hb
        · show if decide (1 < c + 0) = true then _ else _
          rw [if_neg (by rw [decide_eq_false g1]; decide)]
          refine ⟨_, rfl, rfl, _, rfl, ite2 (fun z0 => ?_) (fun z0 => ?_)⟩
          · have z1 : LM.stk (LM.g D) (LM.g X) (i + 1) = 0 := V.int.inj (of_decide_eq_true z0)
            refine ⟨s5, hp5, 0, _, _, ?_, rfl⟩
            rw [rest 0 hz g1, if_pos z1]
          · have z1 : ¬ LM.stk (LM.g D) (LM.g X) (i + 1) = 0 := fun q => z0 (decide_eq_true (congrArg V.int q))
            refine ⟨s5, hp5, c + 0, _, _, ?_, rfl⟩
            rw [rest 0 hz g1, if_neg z1]
    · rintro σ H4 ⟨s4, hp4, c, y4, y5, hc, rfl⟩
      have e : LM.isLoaded L D X = true := by unfold LM.isLoaded; rw [hc]; rfl
      have := k _ s4
      rw [e] at this
      exact this
theorem lIsLoaded (L : Lib K mg) : ∃ f fd, Ok P w K mg base 5 "is_loaded" sIsLoaded ["problem", "load", "plan"] spIsLoaded f fd := by
  obtain ⟨f, fd, D⟩ := L.isLoaded
  exact ⟨f, fd, D, ok_isLoaded D.F L⟩
end
end TW

namespace TW
open PySem PySem.Spec PyProof.Rows L2 TK
section
variable {X : Cx}
/-- t[lo:hi], whichever tuple comes -/
def rSlS : V → Option Int → Option Int → Hp → VK → Prop := fun x lo hi H Q => ∃ a xs, x = .ref a ∧ H a = some (.tup xs) ∧ ∀ p H', Same H H' → H' p = some (.tup (cutV xs lo hi)) → Q (.ref p) H'
theorem cutV_whole {xs : List V} {lo hi : Option Int} (h : HT.sIx xs.length 0 lo = 0 ∧ HT.sIx xs.length xs.length hi = xs.length) : cutV xs lo hi = xs := by
  unfold cutV
  rw [h.1, h.2, List.drop_zero, Nat.sub_zero, List.take_length]
theorem sl_tupS : SlR X rSlS := by
  intro pins s σ H x v vl vu lo hi sl Q I rx hs pl pu h
  obtain ⟨a, xs, rfl, ha, k⟩ := h
  exact sl_tupA pins s σ H _ v vl vu lo hi sl Q I rx hs pl pu ⟨a, xs, rfl, sqt ha, fun w => k a H (Same.refl H) (by rw [cutV_whole w]; exact ha), fun _ p np => k p _ (same_upd np) upd_same⟩
/-- t + u, whichever tuple comes -/
def rCatS : R2 := fun x y H Q => ∃ a b xs ys, x = .ref a ∧ y = .ref b ∧ H a = some (.tup xs) ∧ H b = some (.tup ys) ∧ xs.length + ys.length ≤ sizeLine ∧ ∀ p H', Same H H' → H' p = some (.tup (xs ++ ys)) → Q (.ref p) H'
theorem op_catS : OpR X (binaryOp .Add) rCatS := by
  intro pins s σ H x y v u Q I rx ry h
  obtain ⟨a, b, xs, ys, rfl, rfl, ha, hb, hz, k⟩ := h
  refine op_catA pins s σ H _ _ v u Q I rx ry ⟨a, b, xs, ys, rfl, rfl, sqt ha, sqt hb, hz, fun e => k b H (Same.refl H) (by rw [e]; exact hb), fun _ e => k a H (Same.refl H) (by rw [e, List.append_nil]; exact ha), fun _ _ p np => k p _ (same_upd np) upd_same⟩
end
theorem cut_ints (D : List Int) {a e : Nat} (h1 : a ≤ e) (h2 : e ≤ D.length) : cutV (D.map V.int) (some (a : Int)) (some (e : Int)) = (((D.drop a).take (e - a)).map V.int) := by
  unfold cutV
  rw [HT.sIx_nat, HT.sIx_nat, List.length_map, show min a D.length = a by omega, show min e D.length = e by omega, List.map_take, List.map_drop]
/-- what stands at a value's address: (cost, amounts) -/
def Vl (H : Hp) (va : Addr) (c : Int) (told : List Int) : Prop := ∃ ta : Addr, H va = some (.tup [.int c, .ref ta]) ∧ H ta = some (.tup (told.map V.int))
theorem Vl.mono {H H' : Hp} {va : Addr} {c : Int} {told : List Int} (h : Vl H va c told) (s : TupSub H H') : Vl H' va c told := let ⟨ta, h1, h2⟩ := h; ⟨ta, s _ _ h1, s _ _ h2⟩
theorem map_int_inj {a b : List Int} (h : a.map V.int = b.map V.int) : a = b := by
  induction a generalizing b with
  | nil => cases b with
    | nil => rfl
    | cons y b => simp at h
  | cons x a ih => cases b with
    | nil => simp at h
    | cons y b =>
      rw [List.map_cons, List.map_cons] at h
      injection h with h1 h2
      rw [V.int.inj h1, ih h2]
theorem Vl.det {H : Hp} {va : Addr} {c c' : Int} {t t' : List Int} (h : Vl H va c t) (h' : Vl H va c' t') : c = c' ∧ t = t' := by
  obtain ⟨ta, h1, h2⟩ := h
  obtain ⟨tb, h3, h4⟩ := h'
  rw [h1] at h3
  injection h3 with h3
  injection h3 with h3
  injection h3 with e1 h3
  injection h3 with e2 _
  have e3 := V.int.inj e1
  have e4 : ta = tb := V.ref.inj e2
  subst e4
  rw [h2] at h4
  injection h4 with h4
  injection h4 with h4
  exact ⟨e3, map_int_inj h4⟩
/-- a table of ways: keys, values; Sg what is true of each -/
structure Later (P : Program) (w : World) (Sg : KY → Int → List Int → Prop) (H : Hp) (dl : Addr) (ys : List DE) : Prop where
  here : H dl = some (DB P w dl ys)
  keys : KeysIn H ys
  nd : (ys.map (·.1)).Nodup
  ok : ∀ y ∈ ys, ∃ c told, Vl H y.2.2 c told ∧ Sg y.1 c told
/-- a way at key k that costs at most c is in the table -/
def Cov (H : Hp) (ys : List DE) (k : KY) (c : Int) : Prop := ∃ y ∈ ys, y.1 = k ∧ ∃ c' told, Vl H y.2.2 c' told ∧ c' ≤ c
section
variable {P : Program} {w : World} {Sg : KY → Int → List Int → Prop} {H H' : Hp} {dl : Addr} {ys : List DE} {k : KY} {ka va : Addr} {c : Int} {told : List Int}
theorem Later.mono (h : Later P w Sg H dl ys) (s : TupSub H H') (e : H' dl = H dl) : Later P w Sg H' dl ys :=
  ⟨e.trans h.here, h.keys.mono s, h.nd, fun y hy => let ⟨c, t, h1, h2⟩ := h.ok y hy; ⟨c, t, h1.mono s, h2⟩⟩
theorem Cov.mono (h : Cov H ys k c) (s : TupSub H H') : Cov H' ys k c := let ⟨y, h1, h2, c', t, h3, h4⟩ := h; ⟨y, h1, h2, c', t, h3.mono s, h4⟩
theorem tups_put {ys' : List DE} (h : H dl = some (DB P w dl ys)) : TupSub H (upd H dl (DB P w dl ys')) := fun b xs e => by
  rw [upd_ne (ne_of e h (fun z => nomatch z))]
  exact e
theorem Later.put (h : Later P w Sg H dl ys) (hka : H ka = some (.tup [.int k.1, .bl k.2])) (hva : Vl H va c told) (sg : Sg k c told) : Later P w Sg (upd H dl (DB P w dl (putD ys k ka va))) dl (putD ys k ka va) := by
  have s := tups_put (P := P) (w := w) (ys' := putD ys k ka va) h.here
  refine ⟨upd_same, (h.keys.put hka).mono s, putD_nodup h.nd k ka va, fun y hy => ?_⟩
  rcases putD_mem hy with ⟨h1, _⟩ | ⟨h1, h2, _⟩
  · obtain ⟨c, t, h3, h4⟩ := h.ok y h1
    exact ⟨c, t, h3.mono s, h4⟩
  · rw [h1, h2]
    exact ⟨c, told, hva.mono s, sg⟩
theorem Cov.new (h : Later P w Sg H dl ys) (hva : Vl H va c told) : Cov (upd H dl (DB P w dl (putD ys k ka va))) (putD ys k ka va) k c := by
  obtain ⟨y, h1, h2, h3⟩ := putD_at ys k ka va
  refine ⟨y, h1, h2, c, told, ?_, Int.le_refl _⟩
  rw [h3]
  exact hva.mono (tups_put h.here)
theorem Cov.put {k' : KY} {c' : Int} (h : Later P w Sg H dl ys) (hva : Vl H va c told) (better : ∀ p, lookD ys k = some p → ∀ c' t', Vl H p.2 c' t' → c ≤ c') (cv : Cov H ys k' c') : Cov (upd H dl (DB P w dl (putD ys k ka va))) (putD ys k ka va) k' c' := by
  by_cases e : k' = k
  · subst e
    obtain ⟨y, h1, h2, c2, t2, h3, h4⟩ := cv
    have l := lookD_nodup h.nd h1
    rw [h2] at l
    have := better _ l c2 t2 h3
    obtain ⟨z, z1, z2, c3, t3, z3, z4⟩ := Cov.new (ka := ka) (k := k') h hva
    exact ⟨z, z1, z2, c3, t3, z3, by omega⟩
  · obtain ⟨y, h1, h2, c2, t2, h3, h4⟩ := cv
    exact ⟨y, putD_other h1 (by rw [h2]; exact e), h2, c2, t2, h3.mono (tups_put h.here), h4⟩
theorem Cov.keep {p : Addr × Addr} {c' : Int} {t' : List Int} (l : lookD ys k = some p) (hv : Vl H p.2 c' t') (le : c' ≤ c) : Cov H ys k c := ⟨(k, p), lookD_some l, rfl, c', t', hv, le⟩
end
/-- a list without doubles within another is no longer -/
theorem len_sub {α : Type} [BEq α] [LawfulBEq α] : ∀ (l m : List α), l.Nodup → (∀ x ∈ l, x ∈ m) → l.length ≤ m.length
  | [], _, _, _ => Nat.zero_le _
  | x :: l, m, h, s => by
    have hx : x ∈ m := s x (by simp)
    rw [List.nodup_cons] at h
    have := len_sub l (m.erase x) h.2 fun y hy => by
      have ne : y ≠ x := fun e => h.1 (e ▸ hy)
      exact (List.mem_erase_of_ne ne).mpr (s y (by simp [hy]))
    rw [List.length_erase_of_mem hx] at this
    have : 0 < m.length := List.length_pos_of_mem hx
    simp only [List.length_cons]
    omega
/-- how many keys there may be -/
theorem keys_few {ys : List DE} {full : Int} (nd : (ys.map (·.1)).Nodup) (h : ∀ y ∈ ys, 0 ≤ y.1.1 ∧ y.1.1 ≤ full) (hf : full ≤ 100000) : ys.length < sizeLine := by
  have := len_sub (ys.map (·.1)) (((List.range (full.toNat + 1)).map fun (i : Nat) => ((i : Int), true)) ++ ((List.range (full.toNat + 1)).map fun (i : Nat) => ((i : Int), false))) nd fun x hx => by
    obtain ⟨y, hy, rfl⟩ := List.mem_map.mp hx
    obtain ⟨h1, h2⟩ := h y hy
    rw [List.mem_append]
    cases e : y.1.2 with
    | true => exact .inl (List.mem_map.mpr ⟨y.1.1.toNat, List.mem_range.mpr (by omega), by rw [← e, Int.toNat_of_nonneg h1]⟩)
    | false => exact .inr (List.mem_map.mpr ⟨y.1.1.toNat, List.mem_range.mpr (by omega), by rw [← e, Int.toNat_of_nonneg h1]⟩)
  rw [List.length_append, List.length_map, List.length_map, List.length_map, List.length_range] at this
  rw [sizeLine_eq]
  omega
end TW

namespace TW
open PySem PySem.Spec PyProof.Rows L2 TK
theorem _root_.L2.PE.imp {X : Cx} {e : Expr} {t t' : TE} (h : PE X e t) (k : ∀ σ H Q, t' σ H Q → t σ H Q) : PE X e t' := ⟨fun pins s σ H Q I q => h.run pins s σ H Q I (k σ H Q q)⟩
theorem _root_.L2.PT.imp {X : Cx} {e : Expr} {t t' : TT} (h : PT X e t) (k : ∀ σ H Q, t' σ H Q → t σ H Q) : PT X e t' := ⟨fun pins s σ H Q I q => h.run pins s σ H Q I (k σ H Q q)⟩
/-- rest if odd else 0 -/
def tR1 : TE := fun σ H Q => ∃ (o : Bool) (r : Int), σ[16]? = some (some (.bl o)) ∧ σ[6]? = some (some (.int r)) ∧ Q (.int (if o = true then r else 0)) H
theorem tR1_ok : ∀ σ H Q, tR1 σ H Q → (tIf (tB (tVar 16)) (tVar 6) (tC (.int 0))) σ H Q := by
  rintro σ H Q ⟨o, r, h1, h2, h3⟩
  refine ⟨_, h1, o, rfl, ?_⟩
  cases o with
  | true => exact iteT ⟨_, h2, h3⟩
  | false => exact iteF h3
/-- rest if is_used or odd else 0 -/
def tR2 : TE := fun σ H Q => ∃ (u o : Bool) (r : Int), σ[12]? = some (some (.bl u)) ∧ σ[16]? = some (some (.bl o)) ∧ σ[6]? = some (some (.int r)) ∧ Q (.int (if (u || o) = true then r else 0)) H
theorem tR2_ok : ∀ σ H Q, tR2 σ H Q → (tIf (L2.tOr (tB (tVar 12)) (tB (tVar 16))) (tVar 6) (tC (.int 0))) σ H Q := by
  rintro σ H Q ⟨u, o, r, h0, h1, h2, h3⟩
  refine ⟨_, h0, u, rfl, ?_⟩
  cases u with
  | true => exact iteT (iteT ⟨_, h2, h3⟩)
  | false =>
    refine iteF ⟨_, h1, o, rfl, ?_⟩
    cases o with
    | true => exact iteT ⟨_, h2, h3⟩
    | false => exact iteF h3
/-- is_used or odd -/
def tR3 : TE := fun σ H Q => ∃ (u o : Bool), σ[12]? = some (some (.bl u)) ∧ σ[16]? = some (some (.bl o)) ∧ Q (.bl (u || o)) H
theorem tR3_ok : ∀ σ H Q, tR3 σ H Q → (tOrV (tVar 12) (tVar 16)) σ H Q := by
  rintro σ H Q ⟨u, o, h0, h1, h3⟩
  refine ⟨_, h0, u, rfl, ?_⟩
  cases u with
  | true => exact iteT h3
  | false => exact iteF ⟨_, h1, h3⟩
/-- [False, True] if rest > 0 and not is_used else [False] -/
def obs (r : Int) (u : Bool) : List Bool := if 0 < r ∧ u = false then [false, true] else [false]
def tR4 : TE := fun σ H Q => ∃ (r : Int) (u : Bool), σ[6]? = some (some (.int r)) ∧ σ[12]? = some (some (.bl u)) ∧ ∀ p, H p = none → Q (.ref p) (upd H p (.lst ((obs r u).map V.bl)))
theorem tR4_ok : ∀ σ H Q, tR4 σ H Q → (tIf (tAnd (tTest (tOp (rI0 fun i j => .bl (decide (j < i))) (tVar 6) (tC (.int 0)))) (tNot (tB (tVar 12)))) (tLst (tCons (tC (.bl false)) (tCons (tC (.bl true)) tNil))) (tLst (tCons (tC (.bl false)) tNil))) σ H Q := by
  rintro σ H Q ⟨r, u, h1, h2, h3⟩
  refine ⟨_, h1, _, _, rfl, rfl, _, rfl, ?_⟩
  by_cases hr : 0 < r
  · show if decide (0 < r) = true then _ else _
    rw [decide_eq_true hr]
    refine iteT ⟨_, h2, u, rfl, ?_⟩
    cases u with
    | true =>
      refine iteF ⟨by show 1 ≤ sizeLine; decide, fun p np => ?_⟩
      have := h3 p np
      unfold obs at this
      rw [if_neg (by simp)] at this
      exact this
    | false =>
      refine iteT ⟨by show 2 ≤ sizeLine; decide, fun p np => ?_⟩
      have := h3 p np
      unfold obs at this
      rw [if_pos ⟨hr, rfl⟩] at this
      exact this
  · show if decide (0 < r) = true then _ else _
    rw [decide_eq_false hr]
    refine iteF (iteF ⟨by show 1 ≤ sizeLine; decide, fun p np => ?_⟩)
    have := h3 p np
    unfold obs at this
    rw [if_neg (fun q => hr q.1)] at this
    exact this
/-- (step, (*told, amount)) -/
def tR5 : TE := fun σ H Q => ∃ (st am : Int) (ta : Addr) (told : List Int), σ[19]? = some (some (.int st)) ∧ σ[14]? = some (some (.ref ta)) ∧ σ[17]? = some (some (.int am)) ∧ H ta = some (.tup (told.map V.int)) ∧ told.length ≤ 1000 ∧
  ∀ p Hx, Same H Hx → Vl Hx p st (told ++ [am]) → Q (.ref p) Hx
theorem tR5_ok (K : PySem.W.Frag) : ∀ σ H Q, tR5 σ H Q → (tTup (tCons (tVar 19) (tCons (tTup (StX.tStar K (tVar 14) (tCons (tVar 17) tNil))) tNil))) σ H Q := by
  rintro σ H Q ⟨st, am, ta, told, h1, h2, h3, h4, h5, h6⟩
  refine ⟨_, h1, _, h2, ta, _, rfl, .inl (sqt h4), _, h3, ?_, fun t1 n1 => ⟨by show 2 ≤ sizeLine; decide, fun t2 n2 => ?_⟩⟩
  · rw [List.length_append, List.length_map]
    show told.length + 1 ≤ sizeLine
    rw [sizeLine_eq]
    omega
  · have n12 : t1 ≠ t2 := fun e => by rw [← e, upd_same] at n2; cases n2
    refine h6 t2 _ (fun b x e => same_upd n2 _ _ (same_upd n1 _ _ e)) ⟨t1, upd_same, ?_⟩
    rw [upd_ne n12, upd_same, List.map_append]
    rfl
/-- key not in later or (step, (*told, amount)) < later[key] -/
def tR6 (P : Program) (w : World) : TT := fun σ H Q => ∃ (dl kp ta : Addr) (ys : List DE) (key : KY) (st am : Int) (told : List Int) (Sg : KY → Int → List Int → Prop), σ[10]? = some (some (.ref dl)) ∧ σ[20]? = some (some (.ref kp)) ∧ σ[19]? = some (some (.int st)) ∧
  σ[14]? = some (some (.ref ta)) ∧ σ[17]? = some (some (.int am)) ∧ Later P w Sg H dl ys ∧ H kp = some (.tup [.int key.1, .bl key.2]) ∧ H ta = some (.tup (told.map V.int)) ∧ told.length ≤ 1000 ∧
  ∀ (c : Bool) Hx, Same H Hx → (c = true → ∀ p, lookD ys key = some p → ∀ c' t', Vl Hx p.2 c' t' → st ≤ c') → (c = false → ∃ p c' t', lookD ys key = some p ∧ Vl Hx p.2 c' t' ∧ c' ≤ st) → Q c Hx
theorem tR6_ok (P : Program) (w : World) (K : PySem.W.Frag) : ∀ σ H Q, tR6 P w σ H Q → (L2.tOr (tB (tDNotInB P w (tVar 20) (tVar 10))) (tTest (tOp (rLtP K) tR5 (tDGetB P w (tVar 10) (tVar 20))))) σ H Q := by
  rintro σ H Q ⟨dl, kp, ta, ys, key, st, am, told, Sg, h1, h2, h3, h4, h5, lt, h6, h7, h8, k⟩
  refine ⟨_, h2, _, h1, dl, ys, key, kp, rfl, rfl, .inl lt.here, lt.keys, h6, _, rfl, ?_⟩
  cases lk : lookD ys key with
  | none =>
    refine iteT (k true H (Same.refl H) (fun _ p e => ?_) (fun e => by cases e))
    rw [lk] at e
    cases e
  | some p =>
    obtain ⟨c', t', v1, _⟩ := lt.ok _ (lookD_some lk)
    refine iteF ⟨st, am, ta, told, h3, h4, h5, h7, h8, fun t2 Hx sx vx => ?_⟩
    have v2 : Vl Hx p.2 c' t' := v1.mono sx.tups
    refine ⟨_, h1, _, h2, dl, ys, key, kp, p, rfl, rfl, .inl (sx _ _ lt.here), lt.keys.mono sx.tups, sx _ _ h6, lk, ?_⟩
    obtain ⟨t1, e1, e2⟩ := vx
    obtain ⟨t3, e3, e4⟩ := id v2
    refine ⟨t2, p.2, t1, t3, st, c', _, _, rfl, rfl, sqt e1, sqt e2, sqt e3, sqt e4, fun c g1 g2 => ⟨c, rfl, k c Hx sx (fun hc p' e c2 t2' v => ?_) (fun hc => ⟨p, c', t', lk, v2, g2 hc⟩)⟩⟩
    rw [lk] at e
    cases e
    obtain ⟨e5, _⟩ := v.det v2
    rw [e5]
    exact g1 hc
section
variable {X : Cx} {o i e value : Expr} {pos pos' tpos apos cpos : Pos} {td ty tv tk : TE}
theorem dnewW (P : Program) (w : World) (hP : X.prog = P := by rfl) (hw : X.w = w := by rfl) : PE X (.Dict [] [] pos) (fun _ H Q => ∀ p, H p = none → Q (.ref p) (upd H p (DB P w p []))) := by
  subst hP hw
  exact pe_dnewB
theorem disp1W (P : Program) (w : World) (hu : X.A.units + 1 < cLine) (hk : PE X i tk) (hv : PE X value tv) (hP : X.prog = P := by rfl) (hw : X.w = w := by rfl) : PE X (.Dict [some i] [value] pos) (tDisp1 P w tk tv) := by
  subst hP hw
  exact pe_disp1 hu hk hv
theorem dgetW (P : Program) (w : World) (hu : X.A.units + 1 < cLine) (ho : PE X o td) (hi : PE X i ty) (hs : NoSl i) (hP : X.prog = P := by rfl) (hw : X.w = w := by rfl) : PE X (.Subscript o i pos) (tDGetB P w td ty) := by
  subst hP hw
  exact pe_dgetB hu ho hi hs
theorem dputW (P : Program) (w : World) (hu : X.A.units + 1 < cLine) (ho : PE X o td) (hi : PE X i ty) (hv : PE X value tv) (hs : swapsWith value (some (.Subscript o i pos')) pos.line X.env = pure false) (hP : X.prog = P := by rfl) (hw : X.w = w := by rfl) :
    PS X (.Assign [.Subscript o i pos'] value pos) (sDPutB P w td ty tv) := by
  subst hP hw
  exact ps_dputB hu ho hi hv hs
theorem itemsW (P : Program) (w : World) {elts : List Expr} {kk : Nat} (he : PE X e td) (hP : X.prog = P := by rfl) (hw : X.w = w := by rfl) (hbase : attributeBase e "items" X.env (eval e X.env) = eval e X.env := by rfl) (hline : (apos.endLine == cpos.line) = true := by rfl) :
    PI X (.Tuple elts kk tpos) (.Call (.Attribute e "items" apos) [] [] cpos) (iItemsB P w td) := by
  subst hP hw
  exact pi_itemsB he hbase hline
end
end TW

set_option maxHeartbeats 8000000
namespace TW
open PySem PySem.Spec PyProof.Rows L2 TK
/-- a start at an entry k of a problem: one choice of more and odd -/
structure Choice (full rest : Int) (key : KY) (more : Int) (odd : Bool) : Prop where
  m0 : 0 ≤ more
  m1 : key.1 + more ≤ full
  o : odd = true → 0 < rest ∧ key.2 = false
section
variable {P : Program} {w : World} {K : PySem.W.Frag} {mg : Str → Option Value} {base : Heap}
theorem scRun : FnScope ["problem", "load", "start", "end", "whole", "full", "rest", "known", "need", "at", "later", "done", "is_used", "cost", "told", "more", "odd", "amount", "made", "step", "key"] ["problem", "load", "start", "end"] (defScope sRun) := ⟨rfl, rfl, rfl, by decide +kernel, rfl, by decide +kernel, by decide +kernel⟩
abbrev SG (L : Int) (D S U G : List Int) (a e k : Nat) : KY → Int → List Int → Prop := fun key c told =>
  LM.Seg L (LM.g D) (LM.g S) (LM.g U) (LM.g G) a (LM.whole (LM.g D) a e / L) (LM.whole (LM.g D) a e % L) k key.1 key.2 c told
abbrev SC (L : Int) (D S U G : List Int) (a e k : Nat) (key : KY) (c more : Int) (odd : Bool) : Int :=
  LM.stepCost L (LM.g D) (LM.g S) (LM.g U) (LM.g G) a (LM.whole (LM.g D) a e % L) k key.1 key.2 c more odd
def Enough (L : Int) (D : List Int) (a e k : Nat) (key : KY) (more : Int) (odd : Bool) : Prop :=
  LM.sumTo (LM.g D) (k + 1) - LM.sumTo (LM.g D) a ≤ LM.made L (LM.whole (LM.g D) a e % L) (key.1 + more) (key.2 || odd)
/-- of what is done, each is covered -/
def CovDone (L : Int) (D S U G : List Int) (a e k : Nat) (Hs H : Hp) (xs ys : List DE) (Done : Nat → Int → Bool → Prop) : Prop :=
  ∀ (j : Nat) (x : DE) (c : Int) (told : List Int) (more : Int) (odd : Bool), xs[j]? = some x → Vl Hs x.2.2 c told → Choice (LM.whole (LM.g D) a e / L) (LM.whole (LM.g D) a e % L) x.1 more odd → Enough L D a e k x.1 more odd → Done j more odd →
    Cov H ys (x.1.1 + more, x.1.2 || odd) (SC L D S U G a e k x.1 c more odd)
theorem Cov.le {H : Hp} {ys : List DE} {k : KY} {c c' : Int} (h : Cov H ys k c) (le : c ≤ c') : Cov H ys k c' := let ⟨y, h1, h2, c2, t, h3, h4⟩ := h; ⟨y, h1, h2, c2, t, h3, by omega⟩
theorem obs_mem {r : Int} {u o : Bool} (h : o = true → 0 < r ∧ u = false) : ∃ t : Nat, t < (obs r u).length ∧ (obs r u)[t]? = some o := by
  unfold obs
  cases o with
  | false =>
    split
    · exact ⟨0, by decide, rfl⟩
    · exact ⟨0, by decide, rfl⟩
  | true =>
    rw [if_pos (h rfl)]
    exact ⟨1, by decide, rfl⟩
theorem obs_ok {r : Int} {u o : Bool} {t : Nat} (h : (obs r u)[t]? = some o) : o = true → 0 < r ∧ u = false := by
  intro e
  subst e
  unfold obs at h
  split at h
  · assumption
  · match t, h with
    | 0, h => cases h
    | t + 1, h => simp at h
def spRun : Sp := fun vs H Q _ => ∃ (q : Addr) (n : Nat) (D S U G : List Int) (L : Int) (a e : Nat), vs = [.ref q, .int L, .int a, .int e] ∧ PAt H q D S U G ∧ POk n D S U G ∧ 1 ≤ L ∧ L ≤ 9999 ∧ a < e ∧ e ≤ n ∧
  ∀ H' p c told, Same H H' → Vl H' p c told → LM.BestSeg L (LM.g D) (LM.g S) (LM.g U) (LM.g G) a e c told → Q (.ref p) H'
theorem ok_run {f : Addr} {fd : FuncData} (F : Fun K "run" "run" sRun f fd) (Lb : Lib K mg) : FnOk P w K mg base CX0 2 f fd ["problem", "load", "start", "end"] spRun := by
  obtain ⟨fL, fdL, DL, GL⟩ := lLoads (P := P) (w := w) (base := base) Lb
  refine F.ok scRun (fun vs H Q E h => ?_) (fun cdv A outer s H vs Q E hr h => ?_)
  · obtain ⟨q, n, D, S, U, G, L, a, e, rfl, _⟩ := h
    rfl
  · obtain ⟨q, n, D, S, U, G, L, a, e, rfl, hp, ok, l1, l2, hae, hen, k⟩ := h
    refine ⟨_, pss_cons (ps_set (i := 4) scRun.nd rfl (Or.inl rfl) (pe_callB (r := rSumT K) (cr_sumT rfl) (by rfl) Lb.T.sum bt_sum (pa_cons (pe_slice sl_tupS (pe_ix (r := rIxT K) ix_tup (pv 0) pe_int (fun _ _ => rfl)) (po_some (pv 2)) (po_some (pv 3))) pa_nil)))
      (pss_cons (ps_par (i := 5) (j := 6) (by rfl) scRun.nd rfl rfl (by decide) rfl rfl (pa_cons (pe_op op_fdiv (pv 4) (pv 1)) (pa_cons (pe_op op_mod (pv 4) (pv 1)) pa_nil)) (by rfl))
      (pss_cons (ps_par (i := 7) (j := 8) (by rfl) scRun.nd rfl rfl (by decide) rfl rfl (pa_cons (disp1W P w (hu_of hr) (pe_tup (pa_cons pe_int (pa_cons pe_bl pa_nil))) (pe_tup (pa_cons pe_int (pa_cons (pe_tup pa_nil) pa_nil)))) (pa_cons pe_int pa_nil)) (by rfl))
      (pss_cons (ps_for PassesOwn.never rfl (pi_range2 (by rfl) Lb.T.range (pa_cons (pv 2) (pa_cons (pv 3) pa_nil))) (pg_name (i := 9) scRun.nd rfl (.inl rfl))
        (pss_cons (ps_aug (i := 8) scRun.nd rfl (.inl rfl) (pe_ix (r := rIxT K) ix_tup (pe_ix (r := rIxT K) ix_tup (pv 0) pe_int (fun _ _ => rfl)) (pv 9) (fun _ _ => rfl)) ip_add)
        (pss_cons (ps_set (i := 10) scRun.nd rfl (Or.inl rfl) (dnewW P w))
        (pss_cons (ps_lock (ps_for PassesOwn.never rfl (itemsW P w (pv 7))
            (pg_tup rfl (pgs_cons (pg_tup rfl (pgs_cons (pg_name (i := 11) scRun.nd rfl (.inl rfl)) (pgs_cons (pg_name (i := 12) scRun.nd rfl (.inl rfl)) pgs_nil))) (pgs_cons (pg_tup rfl (pgs_cons (pg_name (i := 13) scRun.nd rfl (.inl rfl)) (pgs_cons (pg_name (i := 14) scRun.nd rfl (.inl rfl)) pgs_nil))) pgs_nil)))
          (pss_one (ps_for PassesOwn.never rfl (pi_range1 (by rfl) Lb.T.range (pa_cons (pe_op op_add (pe_op op_sub (pv 5) (pv 11)) pe_int) pa_nil)) (pg_name (i := 15) scRun.nd rfl (.inl rfl))
            (pss_one (ps_for PassesOwn.never rfl (pi_list (PE.imp (pe_ifExp (PW.pt (pw_and (pt_cmpR op_gt (pv 6) pe_int (nomark _)) (pw_and1 (pt_not (pt_val (pv 12)))))) (pe_lst (pa_cons pe_bl (pa_cons pe_bl pa_nil))) (pe_lst (pa_cons pe_bl pa_nil))) tR4_ok)) (pg_name (i := 16) scRun.nd rfl (.inl rfl))
              (pss_cons (ps_set (i := 17) scRun.nd rfl (Or.inl rfl) (pe_op op_add (pe_op op_mul (pv 15) (pv 1)) (PE.imp (pe_ifExp (pt_val (pv 16)) (pv 6) pe_int) tR1_ok)))
              (pss_cons (ps_set (i := 18) scRun.nd rfl (Or.inl rfl) (pe_op op_add (pe_op op_mul (pe_op op_add (pv 11) (pv 15)) (pv 1)) (PE.imp (pe_ifExp (PW.pt (pw_or (pt_val (pv 12)) (pw_or1 (pt_val (pv 16))))) (pv 6) pe_int) tR2_ok)))
              (pss_one (ps_if (pt_cmpR op_ge (pv 18) (pv 8) (nomark _))
                (pss_cons (ps_set (i := 19) scRun.nd rfl (Or.inl rfl) (pe_op op_add (pe_op op_add (pv 13) (pe_op op_mul (pe_ix (r := rIxT K) ix_tup (pe_ix (r := rIxT K) ix_tup (pv 0) pe_int (fun _ _ => rfl)) (pv 9) (fun _ _ => rfl)) (pe_call GL hr (by rfl) DL.g DL.F.kp DL.b .nil pass0 (pa_cons (pv 17) (pa_cons (pv 1) pa_nil)))))
                    (pe_op op_mul (pe_ix (r := rIxT K) ix_tup (pe_ix (r := rIxT K) ix_tup (pv 0) pe_int (fun _ _ => rfl)) (pv 9) (fun _ _ => rfl)) (pv 17))))
                (pss_cons (ps_aug (i := 19) scRun.nd rfl (.inl rfl) (pe_op op_mul (pe_ix (r := rIxT K) ix_tup (pe_ix (r := rIxT K) ix_tup (pv 0) pe_int (fun _ _ => rfl)) (pv 9) (fun _ _ => rfl)) (pe_op op_sub (pv 18) (pv 8))) ip_add)
                (pss_cons (ps_set (i := 20) scRun.nd rfl (Or.inl rfl) (pe_tup (pa_cons (pe_op op_add (pv 11) (pv 15)) (pa_cons (PE.imp (pe_or (pv 12) (pe_one (pv 16))) tR3_ok) pa_nil))))
                (pss_one (ps_if (PT.imp (PW.pt (pw_or (pt_cmp (pc_dnotinB (hu_of hr) (pv 20) (pv 10))) (pw_or1 (pt_cmpR (op_ltP hr.units) (PE.imp (pe_tup (pa_cons (pv 19) (pa_cons (pe_tup (StX.pa_star (pv 14) (pa_cons (pv 17) pa_nil))) pa_nil))) (tR5_ok K)) (pe_dgetB (hu_of hr) (pv 10) (pv 20) (fun _ _ => rfl)) (nomark _))))) (tR6_ok P w K))
                  (pss_one (dputW P w (hu_of hr) (pv 10) (pv 20) (PE.imp (pe_tup (pa_cons (pv 19) (pa_cons (pe_tup (StX.pa_star (pv 14) (pa_cons (pv 17) pa_nil))) pa_nil))) (tR5_ok K)) rfl)) pss_nil))))) pss_nil))))))))))
        (pss_one (ps_set (i := 7) scRun.nd rfl (Or.inl rfl) (pv 10)))))))
      (pss_one (ps_ret (dgetW P w (hu_of hr) (pv 7) (pe_tup (pa_cons (pv 5) (pa_cons (pe_cmpR op_gt (pv 6) pe_int (nomark _)) pa_nil))) (fun _ _ => rfl))))))), ?_⟩
    obtain ⟨d, s', u, g, hq, hd, hs, hu, hg⟩ := hp
    have Lp : 0 < L := by omega
    have en := ok.d.len
    have n2 := ok.n2
    have dn : ∀ i, 0 ≤ LM.g D i := LM.g_nonneg ok.d.lo
    have dm : ∀ i, LM.g D i ≤ 999 := fun i => by
      by_cases hi : i < D.length
      · exact ok.d.hi _ (g_in hi)
      · unfold LM.g
        rw [List.getD_eq_getElem?_getD, List.getElem?_eq_none (by omega)]
        decide
    have eW : ((D.drop a).take (e - a)).sum = LM.whole (LM.g D) a e := LM.sum_slice D (by omega) (by omega)
    have w0 := LM.whole_nonneg dn (Nat.le_of_lt hae)
    have w1 := LM.whole_le (a := a) (e := e) dn dm (by omega)
    obtain ⟨q1, q2, q3⟩ := LM.whole_split Lp (LM.whole (LM.g D) a e)
    have f0 : 0 ≤ LM.whole (LM.g D) a e / L := Int.ediv_nonneg w0 (by omega)
    have f1 : LM.whole (LM.g D) a e / L ≤ 12000 := Int.le_trans (Int.ediv_le_self _ w0) w1
    -- what a segment found so far is
    have snd : ∀ {k : Nat} {key : KY} {c : Int} {told : List Int}, SG L D S U G a e k key c told → LM.SegSound L (LM.g D) (LM.g S) (LM.g U) (LM.g G) a (LM.whole (LM.g D) a e / L) (LM.whole (LM.g D) a e % L) k key.1 key.2 c told := fun sg => LM.Seg.sound Lp f0 q2 sg
    -- whole
    refine ⟨.ref q, rfl, q, _, 0, .ref d, rfl, rfl, sqt hq, atI_nat (j := 0) rfl, _, rfl, (a : Int), rfl, _, rfl, (e : Int), rfl, d, _, rfl, hd, fun pW H1 s1 hW => ?_⟩
    rw [cut_ints D (by omega) (by omega)] at hW
    refine ⟨pW, _, rfl, sqt hW, ?_⟩
    rw [eW]
    -- full, rest
    refine ⟨_, rfl, _, rfl, _, _, rfl, rfl, ⟨Lp, by omega⟩, _, rfl, _, rfl, _, _, rfl, rfl, Lp, _, _, rfl, ?_⟩
    -- known, need
    refine fun dk nk => ⟨by show 2 ≤ sizeLine; decide, fun pk npk => ⟨Nat.zero_le _, fun pe npe => ⟨by show 2 ≤ sizeLine; decide, fun pv npv => ?_⟩⟩⟩
    have sa : Same H1 (upd H1 dk (DB P w dk [])) := same_upd nk
    have sb := same_upd (o := .tup [.int 0, .bl false]) npk
    have sc := same_upd (o := .tup []) npe
    have sd := same_upd (o := .tup [.int 0, .ref pe]) npv
    have hdd := sd _ _ (sc _ _ (sb _ _ upd_same))
    have hpk := sd _ _ (sc _ _ (upd_same (H := upd H1 dk (DB P w dk [])) (a := pk) (o := .tup [.int 0, .bl false])))
    have lt0 : Later P w (SG L D S U G a e a) _ dk [] := ⟨hdd, (fun x hx => by cases hx), by simp, (fun x hx => by cases hx)⟩
    have vl0 : Vl _ pv 0 [] := ⟨pe, upd_same, sd _ _ upd_same⟩
    have lt1 := lt0.put (k := ((0 : Int), false)) (ka := pk) (va := pv) hpk vl0 LM.Seg.nil
    have cv1 := Cov.new (k := ((0 : Int), false)) (ka := pk) lt0 vl0
    refine ⟨hdd, ((0 : Int), false), pk, pv, rfl, rfl, hpk, .ref dk, .int 0, rfl, ?_⟩
    have nk0 : H dk = none := s1.free nk
    have s2 : Same H (upd (upd (upd (upd (upd H1 dk (DB P w dk [])) pk (.tup [.int 0, .bl false])) pe (.tup [])) pv (.tup [.int 0, .ref pe])) dk (DB P w dk [(((0 : Int), false), pk, pv)])) :=
      same_list (s1.trans (sa.trans (sb.trans (sc.trans sd)))) nk0
    have hN : ((e : Int) - (a : Int)).toNat = e - a := by omega
    refine ⟨_, rfl, _, rfl, (a : Int), (e : Int), rfl, ⟨by omega, by omega, by omega, by omega⟩, for_it (walk_range (lo := (a : Int)) (n := ((e : Int) - (a : Int)).toNat))
      (fun m σ H' => Same H H' ∧ ∃ (dk : Addr) (xs : List DE) (y9 y10 y11 y12 y13 y14 y15 y16 y17 y18 y19 y20 : Option V),
        σ = [some (.ref q), some (.int L), some (.int a), some (.int e), some (.int (LM.whole (LM.g D) a e)), some (.int (LM.whole (LM.g D) a e / L)), some (.int (LM.whole (LM.g D) a e % L)), some (.ref dk),
          some (.int (LM.sumTo (LM.g D) (a + m) - LM.sumTo (LM.g D) a)), y9, y10, y11, y12, y13, y14, y15, y16, y17, y18, y19, y20] ∧
        H dk = none ∧ Later P w (SG L D S U G a e (a + m)) H' dk xs ∧ ∀ (key : KY) (c : Int) (told : List Int), SG L D S U G a e (a + m) key c told → Cov H' xs key c)
      ⟨s2, dk, _, none, none, none, none, none, none, none, none, none, none, none, none, ?_, nk0, lt1, fun key c told sg => ?_⟩ (fun _ _ _ _ _ => trivial) ?_ ?_⟩
    · rw [Nat.add_zero, Int.sub_self]; rfl
    · obtain ⟨e1, e2, e3⟩ := LM.Seg.inv0 sg
      have ek : key = ((0 : Int), false) := Prod.ext e1 e2
      rw [ek, e3]
      exact cv1
    · -- one period
      rintro m x σ H2 H3 hm ⟨s2, dk, xs, y9, y10, y11, y12, y13, y14, y15, y16, y17, y18, y19, y20, rfl, nk, lt, comp⟩ ⟨rfl, ex⟩
      obtain rfl : x = .int ((a + m : Nat) : Int) := ex.trans (congrArg V.int (by omega))
      have hk : a + m < n := by omega
      have hnd : (LM.sumTo (LM.g D) (a + m) - LM.sumTo (LM.g D) a) + LM.g D (a + m) = LM.sumTo (LM.g D) (a + m + 1) - LM.sumTo (LM.g D) a := by
        show _ = LM.sumTo (LM.g D) (a + m) + LM.g D (a + m) - LM.sumTo (LM.g D) a
        omega
      -- need += problem[0][at]
      refine ⟨_, rfl, .ref q, rfl, q, _, 0, .ref d, rfl, rfl, sqt (s2 _ _ hq), atI_nat (j := 0) rfl, _, rfl, d, _, _, _, rfl, rfl, sqt (s2 _ _ hd), atI_nat (j := a + m) (geti (by omega)), _, _, rfl, rfl, ?_⟩
      -- later = {}
      refine fun dl nl => ?_
      have ndl : H dl = none := s2.free nl
      have ndk : dk ≠ dl := ne_of_none lt.here nl
      have hk1 : upd H3 dl (DB P w dl []) dk = some (DB P w dk xs) := by rw [upd_ne ndk]; exact lt.here
      refine ⟨dk, DB P w dk xs, hk1, trivial, fun od => ?_⟩
      have ts : TupSub H3 (upd (upd H3 dl (DB P w dl [])) dk (.frz od (DB P w dk xs))) := fun b zs e => by
        rw [upd_ne (ne_of e lt.here (fun z => nomatch z)), upd_ne (ne_of_none e nl)]
        exact e
      generalize eHs : upd (upd H3 dl (DB P w dl [])) dk (.frz od (DB P w dk xs)) = Hs at ts
      have fs : Hs dk = some (.frz od (DB P w dk xs)) := by rw [← eHs, upd_same]
      have ls : Hs dl = some (DB P w dl []) := by rw [← eHs, upd_ne (Ne.symm ndk), upd_same]
      have ss : Same H Hs := by rw [← eHs]; exact same_list (same_list s2 ndl) nk
      have kx : KeysIn Hs xs := lt.keys.mono ts
      have okx : ∀ x ∈ xs, ∃ c told, Vl Hs x.2.2 c told ∧ SG L D S U G a e (a + m) x.1 c told := fun x hx => let ⟨c, t, h1, h2⟩ := lt.ok x hx; ⟨c, t, h1.mono ts, h2⟩
      have compS : ∀ (key : KY) (c : Int) (told : List Int), SG L D S U G a e (a + m) key c told → Cov Hs xs key c := fun key c told sg => (comp key c told sg).mono ts
      refine ⟨.ref dk, rfl, dk, od, xs, rfl, fs, for_it walk_itemsB
        (fun i σ H' => Same H H' ∧ TupSub Hs H' ∧ H' dk = some (.frz od (DB P w dk xs)) ∧ ∃ (ys : List DE) (y11 y12 y13 y14 y15 y16 y17 y18 y19 y20 : Option V),
          σ = [some (.ref q), some (.int L), some (.int a), some (.int e), some (.int (LM.whole (LM.g D) a e)), some (.int (LM.whole (LM.g D) a e / L)), some (.int (LM.whole (LM.g D) a e % L)), some (.ref dk),
            some (.int ((LM.sumTo (LM.g D) (a + m) - LM.sumTo (LM.g D) a) + LM.g D (a + m))), some (.int ((a + m : Nat) : Int)), some (.ref dl), y11, y12, y13, y14, y15, y16, y17, y18, y19, y20] ∧
          Later P w (SG L D S U G a e (a + m + 1)) H' dl ys ∧ CovDone L D S U G a e (a + m) Hs H' xs ys (fun j _ _ => j < i))
        ⟨ss, TupSub.refl _, fs, [], _, _, _, _, _, _, _, _, _, _, rfl, ⟨ls, (fun x hx => by cases hx), by simp, (fun x hx => by cases hx)⟩, fun j x c told more odd _ _ _ _ hj => by omega⟩ (fun i σ H' _ h => h.2.2.1) ?_ ?_⟩
      · -- one entry of known
        rintro i x σ H6 H7 hi ⟨s6, t6, f6, ys, y11, y12, y13, y14, y15, y16, y17, y18, y19, y20, rfl, lt6, cd6⟩ ⟨Tp, x1, x2, rfl, nT, rfl, e1, e2⟩
        obtain ⟨xi, hxi⟩ : ∃ xi, xs[i]? = some xi := ⟨xs[i], List.getElem?_eq_getElem hi⟩
        have e1' : (xs[i]?.map fun e => V.ref e.2.1) = some x1 := e1
        have e2' : (xs[i]?.map fun e => V.ref e.2.2) = some x2 := e2
        rw [hxi] at e1' e2'
        cases e1'
        cases e2'
        have mxi : xi ∈ xs := List.mem_of_getElem? hxi
        obtain ⟨c, told, vs, sgx⟩ := okx xi mxi
        obtain ⟨ta, hva, hta⟩ := id vs
        have S0 := snd sgx
        have sl := S0.len
        have d0 := S0.d0
        have d1 := S0.d1
        have s7 : Same H6 (upd H6 Tp (.tup [.ref xi.2.1, .ref xi.2.2])) := same_upd nT
        generalize eH7 : upd H6 Tp (.tup [.ref xi.2.1, .ref xi.2.2]) = H7 at s7
        have hT : H7 Tp = some (.tup [.ref xi.2.1, .ref xi.2.2]) := by rw [← eH7, upd_same]
        have t7 : TupSub Hs H7 := t6.trans s7.tups
        refine ⟨Tp, _, rfl, sqt hT, rfl, .ref xi.2.1, [.ref xi.2.2], rfl, ⟨xi.2.1, _, rfl, sqt (t7 _ _ (kx xi mxi)), rfl, _, [_], rfl, _, [], rfl, rfl, ?_⟩⟩
        refine ⟨.ref xi.2.2, [], rfl, ⟨xi.2.2, _, rfl, sqt (t7 _ _ hva), rfl, _, [_], rfl, _, [], rfl, rfl, rfl, ?_⟩⟩
        have fin0 : (LM.whole (LM.g D) a e / L - xi.1.1 + 1).toNat = (LM.whole (LM.g D) a e / L - xi.1.1 + 1).toNat := rfl
        refine ⟨_, rfl, _, rfl, _, _, rfl, rfl, _, _, rfl, rfl, LM.whole (LM.g D) a e / L - xi.1.1 + 1, rfl, by omega, by omega, for_it (walk_range (lo := 0) (n := (LM.whole (LM.g D) a e / L - xi.1.1 + 1).toNat))
          (fun mi σ H' => Same H H' ∧ TupSub Hs H' ∧ H' dk = some (.frz od (DB P w dk xs)) ∧ ∃ (ys : List DE) (y15 y16 y17 y18 y19 y20 : Option V),
            σ = [some (.ref q), some (.int L), some (.int a), some (.int e), some (.int (LM.whole (LM.g D) a e)), some (.int (LM.whole (LM.g D) a e / L)), some (.int (LM.whole (LM.g D) a e % L)), some (.ref dk),
              some (.int ((LM.sumTo (LM.g D) (a + m) - LM.sumTo (LM.g D) a) + LM.g D (a + m))), some (.int ((a + m : Nat) : Int)), some (.ref dl), some (.int xi.1.1), some (.bl xi.1.2), some (.int c), some (.ref ta), y15, y16, y17, y18, y19, y20] ∧
            Later P w (SG L D S U G a e (a + m + 1)) H' dl ys ∧ CovDone L D S U G a e (a + m) Hs H' xs ys (fun j more _ => j < i ∨ (j = i ∧ more < (mi : Int))))
          ⟨s6.trans s7, t7, s7 _ _ f6, ys, _, _, _, _, _, _, rfl, lt6.mono s7.tups (by rw [s7 _ _ lt6.here, lt6.here]), fun j x c told more odd h1 h2 h3 h4 h5 => (cd6 j x c told more odd h1 h2 h3 h4 (by
            rcases h5 with h5 | ⟨h5, h6⟩
            · exact h5
            · have := h3.m0; omega)).mono s7.tups⟩ (fun _ _ _ _ _ => trivial) ?_ ?_⟩
        · -- one more
          rintro mi x σ H8 H9 hmi ⟨s8, t8, f8, ys, y15, y16, y17, y18, y19, y20, rfl, lt8, cd8⟩ ⟨rfl, ex⟩
          obtain rfl : x = .int (mi : Int) := ex.trans (congrArg V.int (by omega))
          refine ⟨_, _, rfl, rfl, fun Lq nLq => ?_⟩
          have s9 : Same H9 (upd H9 Lq (.lst ((obs (LM.whole (LM.g D) a e % L) xi.1.2).map V.bl))) := same_upd nLq
          generalize eH9 : upd H9 Lq (.lst ((obs (LM.whole (LM.g D) a e % L) xi.1.2).map V.bl)) = H9' at s9
          have hLq : H9' Lq = some (.lst ((obs (LM.whole (LM.g D) a e % L) xi.1.2).map V.bl)) := by rw [← eH9, upd_same]
          refine ⟨Lq, rfl, ⟨_, sql hLq⟩, for_it (walk_list (K := K) (a := Lq) (xs := (obs (LM.whole (LM.g D) a e % L) xi.1.2).map V.bl))
            (fun t σ H' => Same H H' ∧ TupSub Hs H' ∧ H' dk = some (.frz od (DB P w dk xs)) ∧ H' Lq = some (.lst ((obs (LM.whole (LM.g D) a e % L) xi.1.2).map V.bl)) ∧ ∃ (ys : List DE) (y16 y17 y18 y19 y20 : Option V),
              σ = [some (.ref q), some (.int L), some (.int a), some (.int e), some (.int (LM.whole (LM.g D) a e)), some (.int (LM.whole (LM.g D) a e / L)), some (.int (LM.whole (LM.g D) a e % L)), some (.ref dk),
                some (.int ((LM.sumTo (LM.g D) (a + m) - LM.sumTo (LM.g D) a) + LM.g D (a + m))), some (.int ((a + m : Nat) : Int)), some (.ref dl), some (.int xi.1.1), some (.bl xi.1.2), some (.int c), some (.ref ta), some (.int (mi : Int)), y16, y17, y18, y19, y20] ∧
              Later P w (SG L D S U G a e (a + m + 1)) H' dl ys ∧ CovDone L D S U G a e (a + m) Hs H' xs ys (fun j more odd => j < i ∨ (j = i ∧ (more < (mi : Int) ∨ (more = (mi : Int) ∧ ∃ t' : Nat, t' < t ∧ (obs (LM.whole (LM.g D) a e % L) xi.1.2)[t']? = some odd)))))
            ⟨s8.trans s9, t8.trans s9.tups, s9 _ _ f8, hLq, ys, _, _, _, _, _, rfl, lt8.mono s9.tups (by rw [s9 _ _ lt8.here, lt8.here]), fun j x c told more odd h1 h2 h3 h4 h5 => (cd8 j x c told more odd h1 h2 h3 h4 (by
              rcases h5 with h5 | ⟨h5, h6 | ⟨_, t', h6, _⟩⟩
              · exact .inl h5
              · exact .inr ⟨h5, h6⟩
              · omega)).mono s9.tups⟩ (fun _ _ _ _ h => sql h.2.2.2.1) ?_ ?_⟩
          · -- one odd
            rintro t x σ H10 H11 ht ⟨s10, t10, f10, l10, ys, y16, y17, y18, y19, y20, rfl, lt10, cd10⟩ ⟨rfl, ex⟩
            rw [List.length_map] at ht
            obtain ⟨odd, hodd⟩ : ∃ odd, (obs (LM.whole (LM.g D) a e % L) xi.1.2)[t]? = some odd := ⟨_, List.getElem?_eq_getElem ht⟩
            have ex' : ((obs (LM.whole (LM.g D) a e % L) xi.1.2).map V.bl)[t]? = some x := ex
            rw [List.getElem?_map, hodd] at ex'
            cases ex'
            have mi1 : xi.1.1 + (mi : Int) ≤ LM.whole (LM.g D) a e / L := by omega
            have ch : Choice (LM.whole (LM.g D) a e / L) (LM.whole (LM.g D) a e % L) xi.1 (mi : Int) odd := ⟨by omega, mi1, obs_ok hodd⟩
            -- amount, made
            refine ⟨_, rfl, _, rfl, _, _, rfl, rfl, .inl ⟨by omega, by omega⟩, odd, _, rfl, rfl, _, _, rfl, rfl, ?_⟩
            refine ⟨_, rfl, _, rfl, _, _, rfl, rfl, _, rfl, _, _, rfl, rfl, .inl ⟨by omega, by omega⟩, xi.1.2, odd, _, rfl, rfl, rfl, _, _, rfl, rfl, ?_⟩
            have upDone : ∀ (Hx : Hp) (ys' : List DE), (∀ (k' : KY) (c' : Int), Cov H11 ys k' c' → Cov Hx ys' k' c') → (Enough L D a e (a + m) xi.1 (mi : Int) odd → Cov Hx ys' (xi.1.1 + (mi : Int), xi.1.2 || odd) (SC L D S U G a e (a + m) xi.1 c (mi : Int) odd)) →
                CovDone L D S U G a e (a + m) Hs Hx xs ys' (fun j more odd => j < i ∨ (j = i ∧ (more < (mi : Int) ∨ (more = (mi : Int) ∧ ∃ t' : Nat, t' < t + 1 ∧ (obs (LM.whole (LM.g D) a e % L) xi.1.2)[t']? = some odd)))) := by
              intro Hx ys' old new j x c0 told0 more0 odd0 h1 h2 h3 h4 h5
              by_cases old5 : (j < i ∨ (j = i ∧ (more0 < (mi : Int) ∨ (more0 = (mi : Int) ∧ ∃ t' : Nat, t' < t ∧ (obs (LM.whole (LM.g D) a e % L) xi.1.2)[t']? = some odd0))))
              · exact old _ _ (cd10 j x c0 told0 more0 odd0 h1 h2 h3 h4 old5)
              · rcases h5 with h5 | ⟨h5, h6 | ⟨h6, t', h7, h8⟩⟩
                · exact absurd (.inl h5) old5
                · exact absurd (.inr ⟨h5, .inl h6⟩) old5
                · have et : t' = t := by
                    refine Classical.byContradiction fun q => old5 (.inr ⟨h5, .inr ⟨h6, t', by omega, h8⟩⟩)
                  subst et h5 h6
                  rw [hxi] at h1
                  cases h1
                  rw [hodd] at h8
                  cases h8
                  obtain ⟨ec, _⟩ := vs.det h2
                  subst ec
                  exact new h4
            refine ⟨_, rfl, _, rfl, _, _, rfl, rfl, _, rfl, ite2 (fun ge => ?_) (fun ge => ?_)⟩
            · -- enough is made
              have ge' := of_decide_eq_true ge
              have hin : a + m < n := hk
              -- step
              refine ⟨_, rfl, .ref q, rfl, q, _, 1, .ref s', rfl, rfl, sqt (s10 _ _ hq), atI_nat (j := 1) rfl, _, rfl, s', _, _, _, rfl, rfl, sqt (s10 _ _ hs), atI_nat (j := a + m) (geti (by rw [ok.s.len]; exact hin)), ?_⟩
              refine ⟨_, rfl, _, rfl, _, L, rfl, by omega, by omega, _, _, rfl, rfl, cmul_entry ok.s hin _, _, _, rfl, rfl, ?_⟩
              refine ⟨.ref q, rfl, q, _, 2, .ref u, rfl, rfl, sqt (s10 _ _ hq), atI_nat (j := 2) rfl, _, rfl, u, _, _, _, rfl, rfl, sqt (s10 _ _ hu), atI_nat (j := a + m) (geti (by rw [ok.u.len]; exact hin)), _, rfl, _, _, rfl, rfl, cmul_entry ok.u hin _, _, _, rfl, rfl, ?_⟩
              refine ⟨_, rfl, .ref q, rfl, q, _, 3, .ref g, rfl, rfl, sqt (s10 _ _ hq), atI_nat (j := 3) rfl, _, rfl, g, _, _, _, rfl, rfl, sqt (s10 _ _ hg), atI_nat (j := a + m) (geti (by rw [ok.g.len]; exact hin)), _, rfl, _, rfl, _, _, rfl, rfl, _, _, rfl, rfl, cmul_entry ok.g hin _, _, _, rfl, rfl, ?_⟩
              -- key
              refine ⟨_, rfl, _, rfl, _, _, rfl, rfl, xi.1.2, odd, rfl, rfl, by show 2 ≤ sizeLine; decide, fun kp nkp => ?_⟩
              have s12 : Same H11 (upd H11 kp (.tup [.int (xi.1.1 + (mi : Int)), .bl (xi.1.2 || odd)])) := same_upd nkp
              have hkp : upd H11 kp (.tup [.int (xi.1.1 + (mi : Int)), .bl (xi.1.2 || odd)]) kp = some (.tup [.int (xi.1.1 + (mi : Int)), .bl (xi.1.2 || odd)]) := upd_same
              generalize eH12 : upd H11 kp (.tup [.int (xi.1.1 + (mi : Int)), .bl (xi.1.2 || odd)]) = H12 at s12 hkp
              have lt12 := lt10.mono s12.tups (by rw [s12 _ _ lt10.here, lt10.here])
              have tl : told.length ≤ 1000 := by omega
              have t12 : TupSub Hs H12 := t10.trans s12.tups
              have en10 : Enough L D a e (a + m) xi.1 (mi : Int) odd := by
                unfold Enough
                rw [← hnd]
                exact ge'
              have sg1 : SG L D S U G a e (a + m + 1) (xi.1.1 + (mi : Int), xi.1.2 || odd) (SC L D S U G a e (a + m) xi.1 c (mi : Int) odd) (told ++ [LM.amt L (LM.whole (LM.g D) a e % L) (mi : Int) odd]) :=
                LM.Seg.step (mi : Int) odd sgx ch.m0 ch.m1 ch.o en10
              have esc : c + LM.g S (a + m) * LM.ld (LM.amt L (LM.whole (LM.g D) a e % L) (mi : Int) odd) L + LM.g U (a + m) * LM.amt L (LM.whole (LM.g D) a e % L) (mi : Int) odd + LM.g G (a + m) * (LM.made L (LM.whole (LM.g D) a e % L) (xi.1.1 + (mi : Int)) (xi.1.2 || odd) - ((LM.sumTo (LM.g D) (a + m) - LM.sumTo (LM.g D) a) + LM.g D (a + m))) = SC L D S U G a e (a + m) xi.1 c (mi : Int) odd := by
                rw [hnd]; rfl
              refine ⟨dl, kp, ta, ys, (xi.1.1 + (mi : Int), xi.1.2 || odd), c + LM.g S (a + m) * LM.ld (LM.amt L (LM.whole (LM.g D) a e % L) (mi : Int) odd) L + LM.g U (a + m) * LM.amt L (LM.whole (LM.g D) a e % L) (mi : Int) odd + LM.g G (a + m) * (LM.made L (LM.whole (LM.g D) a e % L) (xi.1.1 + (mi : Int)) (xi.1.2 || odd) - ((LM.sumTo (LM.g D) (a + m) - LM.sumTo (LM.g D) a) + LM.g D (a + m))),
                LM.amt L (LM.whole (LM.g D) a e % L) (mi : Int) odd, told, SG L D S U G a e (a + m + 1), rfl, rfl, rfl, rfl, rfl, lt12, hkp, t12 _ _ hta, tl, fun b Hx sx b1 b2 => ?_⟩
              rw [esc] at b1 b2
              have s10x : Same H Hx := s10.trans (s12.trans sx)
              have ltx := lt12.mono sx.tups (by rw [sx _ _ lt12.here, lt12.here])
              refine ite2 (fun hb => ?_) (fun hb => ?_)
              · -- the way is stored
                refine ⟨c + LM.g S (a + m) * LM.ld (LM.amt L (LM.whole (LM.g D) a e % L) (mi : Int) odd) L + LM.g U (a + m) * LM.amt L (LM.whole (LM.g D) a e % L) (mi : Int) odd + LM.g G (a + m) * (LM.made L (LM.whole (LM.g D) a e % L) (xi.1.1 + (mi : Int)) (xi.1.2 || odd) - ((LM.sumTo (LM.g D) (a + m) - LM.sumTo (LM.g D) a) + LM.g D (a + m))),
                  LM.amt L (LM.whole (LM.g D) a e % L) (mi : Int) odd, ta, told, rfl, rfl, rfl, (t12.trans sx.tups) _ _ hta, tl, fun va Hy sy vy => ?_⟩
                rw [esc] at vy
                have lty := ltx.mono sy.tups (by rw [sy _ _ ltx.here, ltx.here])
                have few : ys.length < sizeLine := keys_few (full := 12000) lty.nd (fun y hy => by
                  obtain ⟨c', t', _, sg'⟩ := lty.ok y hy
                  have S' := snd sg'
                  have := S'.d0
                  have := S'.d1
                  exact ⟨by omega, by omega⟩) (by omega)
                refine ⟨.ref dl, rfl, .ref kp, rfl, dl, ys, (xi.1.1 + (mi : Int), xi.1.2 || odd), kp, va, rfl, rfl, rfl, lty.here, lty.keys, sy _ _ (sx _ _ hkp), few, ?_⟩
                have s10y := s10x.trans sy
                have tput : TupSub Hy (upd Hy dl (DB P w dl (putD ys (xi.1.1 + (mi : Int), xi.1.2 || odd) kp va))) := tups_put lty.here
                have better : ∀ p, lookD ys (xi.1.1 + (mi : Int), xi.1.2 || odd) = some p → ∀ c' t', Vl Hy p.2 c' t' → SC L D S U G a e (a + m) xi.1 c (mi : Int) odd ≤ c' := fun p hp' c' t' v' => by
                  obtain ⟨c2, t2, v2, _⟩ := ltx.ok _ (lookD_some hp')
                  have := b1 hb p hp' c2 t2 v2
                  obtain ⟨e1, _⟩ := v'.det (v2.mono sy.tups)
                  omega
                refine ⟨same_list s10y ndl, (t12.trans (sx.tups.trans sy.tups)).trans tput, ?_, ?_, _, _, _, _, _, _, rfl, lty.put (sy _ _ (sx _ _ hkp)) vy sg1, ?_⟩
                · rw [upd_ne ndk]; exact sy _ _ (sx _ _ (s12 _ _ f10))
                · rw [upd_ne (ne_of (sy _ _ (sx _ _ (s12 _ _ l10))) lty.here (fun z => nomatch z))]; exact sy _ _ (sx _ _ (s12 _ _ l10))
                · exact upDone _ _ (fun k' c' cv => Cov.put lty vy better (cv.mono (s12.tups.trans (sx.tups.trans sy.tups)))) (fun _ => Cov.new lty vy)
              · -- the way that stands is no worse
                have hb' : b = false := by cases b with
                  | false => rfl
                  | true => exact absurd rfl hb
                obtain ⟨p, c', t', lk, vp, le⟩ := b2 hb'
                exact ⟨s10x, t12.trans sx.tups, sx _ _ (s12 _ _ f10), sx _ _ (s12 _ _ l10), _, _, _, _, _, _, rfl, ltx, upDone _ _ (fun k' c' cv => cv.mono (s12.tups.trans sx.tups)) (fun _ => Cov.keep lk vp le)⟩
            · -- too little
              refine ⟨s10, t10, f10, l10, ys, _, _, _, _, _, rfl, lt10, upDone _ _ (fun _ _ cv => cv) (fun en10 => absurd ?_ ge)⟩
              unfold Enough at en10
              rw [← hnd] at en10
              exact decide_eq_true en10
          · -- all odds of one more
            rintro σ H10 ⟨s10, t10, f10, l10, ys, y16, y17, y18, y19, y20, rfl, lt10, cd10⟩
            refine ⟨s10, t10, f10, ys, _, _, _, _, _, _, rfl, lt10, fun j x c told more odd h1 h2 h3 h4 h5 => cd10 j x c told more odd h1 h2 h3 h4 ?_⟩
            rcases h5 with h5 | ⟨h5, h6⟩
            · exact .inl h5
            · by_cases h7 : more < (mi : Int)
              · exact .inr ⟨h5, .inl h7⟩
              · rw [h5, hxi] at h1
                cases h1
                obtain ⟨t', h8, h9⟩ := obs_mem h3.o
                exact .inr ⟨h5, .inr ⟨by omega, t', by rw [List.length_map]; exact h8, h9⟩⟩
        · -- all of one entry
          rintro σ H8 ⟨s8, t8, f8, ys, y15, y16, y17, y18, y19, y20, rfl, lt8, cd8⟩
          refine ⟨s8, t8, f8, ys, _, _, _, _, _, _, _, _, _, _, rfl, lt8, fun j x c told more odd h1 h2 h3 h4 h5 => cd8 j x c told more odd h1 h2 h3 h4 ?_⟩
          by_cases h6 : j < i
          · exact .inl h6
          · have ej : j = i := by omega
            rw [ej, hxi] at h1
            cases h1
            have := h3.m1
            have := h3.m0
            exact .inr ⟨ej, by omega⟩
      · -- all entries: known = later
        rintro σ H6 ⟨s6, t6, f6, ys, y11, y12, y13, y14, y15, y16, y17, y18, y19, y20, rfl, lt6, cd6⟩
        have tun : TupSub H6 (upd H6 dk (DB P w dk xs)) := fun b zs e => by
          rw [upd_ne (ne_of e f6 (fun z => nomatch z))]
          exact e
        refine ⟨f6, .ref dl, rfl, same_list s6 nk, dl, ys, some (.int ((a + m : Nat) : Int)), some (.ref dl), y11, y12, y13, y14, y15, y16, y17, y18, y19, y20, ?_, ndl, lt6.mono tun (upd_ne (Ne.symm ndk)), fun key c told sg => ?_⟩
        · rw [hnd]; rfl
        · obtain ⟨done0, used0, cost0, told0, more, odd, S0, h0, h1, h2, h3, e1, e2, e3⟩ := LM.Seg.invS (Nat.le_add_right a m) sg
          obtain ⟨x, hx, ex, c', told', vx, le⟩ := compS (done0, used0) cost0 told0 S0
          obtain ⟨j, hj, hxj⟩ := List.getElem_of_mem hx
          have hj' : xs[j]? = some x := by rw [List.getElem?_eq_getElem hj, hxj]
          have ek : key = (x.1.1 + more, x.1.2 || odd) := by
            rw [ex]
            exact Prod.ext e1 e2
          have cv := cd6 j x c' told' more odd hj' vx ⟨h0, by rw [ex]; exact h1, by rw [ex]; exact h2⟩ (by unfold Enough; rw [ex]; exact h3) hj
          rw [ek]
          refine (cv.mono tun).le ?_
          rw [e3, ex]
          show LM.stepCost _ _ _ _ _ _ _ _ _ _ _ _ _ ≤ LM.stepCost _ _ _ _ _ _ _ _ _ _ _ _ _
          unfold LM.stepCost
          dsimp only
          omega
    · -- the end: known[full, rest > 0]
      rintro σ H2 ⟨s2, dk, xs, y9, y10, y11, y12, y13, y14, y15, y16, y17, y18, y19, y20, rfl, nk, lt, comp⟩
      have eE : a + ((e : Int) - (a : Int)).toNat = e := by omega
      rw [eE] at lt comp
      refine ⟨.ref dk, rfl, _, rfl, _, rfl, _, _, rfl, rfl, by show 2 ≤ sizeLine; decide, fun kp nkp => ?_⟩
      obtain ⟨c1, t1, sgx⟩ := LM.SegE.some (s := LM.g S) (u := LM.g U) (h := LM.g G) Lp dn hae
      obtain ⟨y, my, ey, c2, t2, v2, le2⟩ := comp (LM.whole (LM.g D) a e / L, decide (0 < LM.whole (LM.g D) a e % L)) c1 t1 sgx
      have lk := lookD_nodup lt.nd my
      rw [ey] at lk
      obtain ⟨c3, t3, v3, sg3⟩ := lt.ok y my
      have s3 : Same H2 (upd H2 kp (.tup [.int (LM.whole (LM.g D) a e / L), .bl (decide (0 < LM.whole (LM.g D) a e % L))])) := same_upd nkp
      refine ⟨dk, xs, (LM.whole (LM.g D) a e / L, decide (0 < LM.whole (LM.g D) a e % L)), kp, y.2, rfl, rfl, .inl (s3 _ _ lt.here), lt.keys.mono s3.tups, upd_same, lk, ?_⟩
      rw [ey] at sg3
      refine k _ y.2.2 c3 t3 (s2.trans s3) (v3.mono s3.tups) ⟨sg3, fun c' p' sg' => ?_⟩
      obtain ⟨y', my', ey', c4, t4, v4, le4⟩ := comp (LM.whole (LM.g D) a e / L, decide (0 < LM.whole (LM.g D) a e % L)) c' p' sg'
      have lk' := lookD_nodup lt.nd my'
      rw [ey', lk] at lk'
      have e5 : y.2 = y'.2 := Option.some.inj lk'
      rw [← e5] at v4
      obtain ⟨e6, _⟩ := v3.det v4
      omega
theorem lRun (L : Lib K mg) : ∃ f fd, Ok P w K mg base 2 "run" sRun ["problem", "load", "start", "end"] spRun f fd := by
  obtain ⟨f, fd, D⟩ := L.run
  exact ⟨f, fd, D, ok_run D.F L⟩
end
end TW

namespace TW
open PySem PySem.Spec PyProof.Rows L2 TK
section
variable {P : Program} {w : World} {K : PySem.W.Frag} {mg : Str → Option Value} {base : Heap}
abbrev BS (L : Int) (D S U G : List Int) (e : Nat) (c : Int) (p : List Int) : Prop := LM.Best L (LM.g D) (LM.g S) (LM.g U) (LM.g G) e c p
theorem scTrucked : FnScope ["problem", "load", "found", "end", "best", "start", "part", "way"] ["problem", "load"] (defScope sTrucked) := ⟨rfl, rfl, rfl, by decide +kernel, rfl, by decide +kernel, by decide +kernel⟩
def spTrucked : Sp := fun vs H Q _ => ∃ (q : Addr) (n : Nat) (D S U G : List Int) (L : Int), vs = [.ref q, .int L] ∧ PAt H q D S U G ∧ POk n D S U G ∧ 1 ≤ L ∧ L ≤ 9999 ∧
  ∀ H' r c p, Same H H' → Vl H' r c p → BS L D S U G n c p → Q (.ref r) H'
theorem ok_trucked {f : Addr} {fd : FuncData} (F : Fun K "trucked" "trucked" sTrucked f fd) (Lb : Lib K mg) : FnOk P w K mg base CX0 3 f fd ["problem", "load"] spTrucked := by
  obtain ⟨fR, fdR, DR, GR⟩ := lRun (P := P) (w := w) (base := base) Lb
  obtain ⟨fP, fdP, DP, GP⟩ := lPeriods (P := P) (w := w) (base := base) Lb
  refine F.ok scTrucked (fun vs H Q E h => ?_) (fun cdv A outer s H vs Q E hr h => ?_)
  · obtain ⟨q, n, D, S, U, G, L, rfl, _⟩ := h
    rfl
  · obtain ⟨q, n, D, S, U, G, L, rfl, hp, ok, l1, l2, k⟩ := h
    refine ⟨_, pss_cons (ps_set (i := 2) scTrucked.nd rfl (Or.inl rfl) (pe_lst (pa_cons (pe_tup (pa_cons pe_int (pa_cons (pe_tup pa_nil) pa_nil))) pa_nil)))
      (pss_cons (ps_for PassesOwn.never rfl (pi_range2 (by rfl) Lb.T.range (pa_cons pe_int (pa_cons (pe_op op_add (pe_call GP (hr.mono (by decide)) (by rfl) DP.g DP.F.kp DP.b .nil pass0 (pa_cons (pv 0) pa_nil)) pe_int) pa_nil))) (pg_name (i := 3) scTrucked.nd rfl (.inl rfl))
        (pss_cons (ps_set (i := 4) scTrucked.nd rfl (Or.inl rfl) pe_non)
        (pss_cons (ps_for PassesOwn.never rfl (pi_range1 (by rfl) Lb.T.range (pa_cons (pv 3) pa_nil)) (pg_name (i := 5) scTrucked.nd rfl (.inl rfl))
          (pss_cons (ps_set (i := 6) scTrucked.nd rfl (Or.inl rfl) (pe_call GR hr (by rfl) DR.g DR.F.kp DR.b .nil pass0 (pa_cons (pv 0) (pa_cons (pv 1) (pa_cons (pv 5) (pa_cons (pv 3) pa_nil))))))
          (pss_cons (ps_set (i := 7) scTrucked.nd rfl (Or.inl rfl) (pe_tup (pa_cons (pe_op op_add (pe_ix (r := rIxT K) ix_tup (pe_ix (r := rIxL K) ix_list (pv 2) (pv 5) (fun _ _ => rfl)) pe_int (fun _ _ => rfl)) (pe_ix (r := rIxT K) ix_tup (pv 6) pe_int (fun _ _ => rfl)))
              (pa_cons (pe_op op_catS (pe_ix (r := rIxT K) ix_tup (pe_ix (r := rIxL K) ix_list (pv 2) (pv 5) (fun _ _ => rfl)) pe_int (fun _ _ => rfl)) (pe_ix (r := rIxT K) ix_tup (pv 6) pe_int (fun _ _ => rfl))) pa_nil))))
          (pss_one (ps_set (i := 4) scTrucked.nd rfl (Or.inl rfl) (pe_ifExp (PW.pt (pw_or (pt_cmp (pc_isN (pv 4))) (pw_or1 (pt_cmpR (op_ltP hr.units) (pv 7) (pv 4) (nomark _))))) (pv 7) (pv 4)))))))
        (pss_one (ps_expr (pe_bm PySem.F.plainAttrs_list PySem.F.slot_list_append PySem.F.type_list_append mt_append (pv 2) (pa_cons (pv 4) pa_nil)))))))
      (pss_one (ps_ret (pe_ix (r := rIxL K) ix_list (pv 2) (pe_un un_neg pe_int) (fun _ _ => rfl))))), ?_⟩
    have Lp : 0 < L := by omega
    have en := ok.d.len
    have n1 := ok.n1
    have n2 := ok.n2
    have dn : ∀ i, 0 ≤ LM.g D i := LM.g_nonneg ok.d.lo
    -- found = [(0, ())]
    refine ⟨Nat.zero_le _, fun pe npe => ⟨by show 2 ≤ sizeLine; decide, fun pv npv => ⟨by show 1 ≤ sizeLine; decide, fun fl nfl => ?_⟩⟩⟩
    have sa := same_upd (o := .tup []) npe
    have sb := same_upd (o := .tup [.int 0, .ref pe]) npv
    have sc := same_upd (o := .lst [.ref pv]) nfl
    have vl0 : Vl _ pv 0 [] := ⟨pe, sc _ _ upd_same, sc _ _ (sb _ _ upd_same)⟩
    have hfl := upd_same (H := upd (upd H pe (.tup [])) pv (.tup [.int 0, .ref pe])) (a := fl) (o := .lst [.ref pv])
    have nfl0 : H fl = none := (sa.trans sb).free nfl
    have s1 := sa.trans (sb.trans sc)
    generalize eH1 : upd (upd (upd H pe (.tup [])) pv (.tup [.int 0, .ref pe])) fl (.lst [.ref pv]) = H1 at *
    obtain ⟨d, s', u, g, hq, hd, hs, hu, hg⟩ := id hp
    refine ⟨.ref q, rfl, q, d, _, _, rfl, s1 _ _ hq, s1 _ _ hd, _, _, rfl, rfl, 1, _, rfl, ⟨by omega, by omega, ?_, ?_⟩, ?_⟩
    · rw [List.length_map]; omega
    · rw [List.length_map]; omega
    have eN : (((D.map V.int).length : Int) + 1 - 1).toNat = n := by rw [List.length_map]; omega
    refine for_it (walk_range (lo := 1) (n := (((D.map V.int).length : Int) + 1 - 1).toNat))
      (fun m σ H' => Same H H' ∧ ∃ (fs : List Addr) (y3 y4 y5 y6 y7 : Option V), σ = [some (.ref q), some (.int L), some (.ref fl), y3, y4, y5, y6, y7] ∧ H' fl = some (.lst (fs.map V.ref)) ∧ fs.length = m + 1 ∧
        ∀ i a, fs[i]? = some a → ∃ c p, Vl H' a c p ∧ BS L D S U G i c p)
      ⟨s1, [pv], _, _, _, _, _, rfl, hfl, rfl, fun i a hi => ?_⟩ (fun _ _ _ _ _ => trivial) ?_ ?_
    · match i, hi with
      | 0, hi => cases hi; exact ⟨0, [], vl0, LM.Best.nil⟩
      | i + 1, hi => simp at hi
    · rintro m x σ H2 H3 hm ⟨s2, fs, y3, y4, y5, y6, y7, rfl, hfs, lf, okf⟩ ⟨rfl, ex⟩
      rw [eN] at hm
      obtain rfl : x = .int ((m + 1 : Nat) : Int) := ex.trans (congrArg V.int (by omega))
      refine ⟨_, rfl, ((m + 1 : Nat) : Int), rfl, by omega, by omega, ?_⟩
      have eM : (((m + 1 : Nat) : Int)).toNat = m + 1 := by omega
      refine for_it (walk_range (lo := 0) (n := (((m + 1 : Nat) : Int)).toNat))
        (fun j σ H' => Same H H' ∧ Same H3 H' ∧ ∃ (bv : V) (y5 y6 y7 : Option V), σ = [some (.ref q), some (.int L), some (.ref fl), some (.int ((m + 1 : Nat) : Int)), some bv, y5, y6, y7] ∧
          ((j = 0 ∧ bv = .non) ∨ (0 < j ∧ ∃ b c p, bv = .ref b ∧ Vl H' b c p ∧ LM.BestTo L (LM.g D) (LM.g S) (LM.g U) (LM.g G) (m + 1) j c p)))
        ⟨s2, Same.refl _, .non, _, _, _, rfl, .inl ⟨rfl, rfl⟩⟩ (fun _ _ _ _ _ => trivial) ?_ ?_
      · rintro j x σ H4 H5 hj ⟨s4, t4, bv, y5, y6, y7, rfl, hb⟩ ⟨rfl, ex⟩
        rw [eM] at hj
        obtain rfl : x = .int (j : Int) := ex.trans (congrArg V.int (by omega))
        -- part = run(problem, load, start, end)
        refine ⟨.ref q, rfl, .int L, rfl, .int (j : Int), rfl, .int ((m + 1 : Nat) : Int), rfl, q, n, D, S, U, G, L, j, m + 1, rfl, hp.mono s4.tups, ok, l1, l2, hj, by omega, fun H6 part c2 p2 s6 v2 bs2 => ?_⟩
        have s06 := s4.trans s6
        obtain ⟨a, ha⟩ : ∃ a, fs[j]? = some a := ⟨_, List.getElem?_eq_getElem (by omega)⟩
        obtain ⟨c1, p1, v1, b1⟩ := okf j a ha
        have v1' : Vl H6 a c1 p1 := v1.mono (t4.trans s6).tups
        obtain ⟨ta1, e1, e2⟩ := id v1'
        obtain ⟨ta2, e3, e4⟩ := id v2
        have hfs6 : H6 fl = some (.lst (fs.map V.ref)) := s6 _ _ (t4 _ _ hfs)
        have gj : (fs.map V.ref)[j]? = some (.ref a) := by rw [List.getElem?_map, ha]; rfl
        have len1 := (LM.Chain.sound Lp dn b1.chain).len
        have w0 := LM.whole_nonneg dn (Nat.le_of_lt hj)
        have len2 := (LM.Seg.sound Lp (Int.ediv_nonneg w0 (by omega)) (LM.whole_split Lp _).2.1 bs2.seg).len
        refine ⟨.ref fl, rfl, _, rfl, fl, _, _, _, rfl, rfl, sql hfs6, atI_nat (j := j) gj, a, _, 0, .int c1, rfl, rfl, sqt e1, atI_nat (j := 0) rfl, .ref part, rfl, part, _, 0, .int c2, rfl, rfl, sqt e3, atI_nat (j := 0) rfl, c1, c2, rfl, rfl, ?_⟩
        refine ⟨.ref fl, rfl, _, rfl, fl, _, _, _, rfl, rfl, sql hfs6, atI_nat (j := j) gj, a, _, 1, .ref ta1, rfl, rfl, sqt e1, atI_nat (j := 1) rfl, .ref part, rfl, part, _, 1, .ref ta2, rfl, rfl, sqt e3, atI_nat (j := 1) rfl, ta1, ta2, _, _, rfl, rfl, e2, e4, ?_, fun tp H7 s7 htp => ⟨by show 2 ≤ sizeLine; decide, fun wy nwy => ?_⟩⟩
        · rw [List.length_map, List.length_map, sizeLine_eq]; omega
        have s8 : Same H7 (upd H7 wy (.tup [.int (c1 + c2), .ref tp])) := same_upd nwy
        have hwy : upd H7 wy (.tup [.int (c1 + c2), .ref tp]) wy = some (.tup [.int (c1 + c2), .ref tp]) := upd_same
        have vw : Vl (upd H7 wy (.tup [.int (c1 + c2), .ref tp])) wy (c1 + c2) (p1 ++ p2) := ⟨tp, hwy, by rw [List.map_append]; exact s8 _ _ htp⟩
        have s08 := s06.trans (s7.trans s8)
        have t8 := t4.trans (s6.trans (s7.trans s8))
        rcases hb with ⟨j0, rfl⟩ | ⟨j0, b, cb, pb, rfl, vb, bt⟩
        · subst j0
          refine ⟨.non, rfl, true, rfl, iteT (iteT ⟨.ref wy, rfl, s08, t8, .ref wy, _, _, _, rfl, .inr ⟨by omega, wy, _, _, rfl, vw, LM.BestTo.first (by omega) b1 bs2⟩⟩)⟩
        · have vb' := vb.mono (s6.trans (s7.trans s8)).tups
          obtain ⟨tb, e5, e6⟩ := id vb'
          obtain ⟨tw, e7, e8⟩ := id vw
          refine ⟨.ref b, rfl, false, rfl, iteF ⟨.ref wy, rfl, .ref b, rfl, wy, b, tw, tb, c1 + c2, cb, _, _, rfl, rfl, sqt e7, sqt e8, sqt e5, sqt e6, fun cc g1 g2 => ⟨cc, rfl, ?_⟩⟩⟩
          obtain ⟨m1, m2⟩ := bt.more hj b1 bs2
          refine ite2 (fun hc => ?_) (fun hc => ?_)
          · exact ⟨.ref wy, rfl, s08, t8, .ref wy, _, _, _, rfl, .inr ⟨by omega, wy, _, _, rfl, vw, m1 (g1 hc)⟩⟩
          · have hc' : cc = false := by cases cc with
              | false => rfl
              | true => exact absurd rfl hc
            exact ⟨.ref b, rfl, s08, t8, .ref b, _, _, _, rfl, .inr ⟨by omega, b, _, _, rfl, vb', m2 (g2 hc')⟩⟩
      · -- found.append(best)
        rintro σ H4 ⟨s4, t4, bv, y5, y6, y7, rfl, hb⟩
        rw [eM] at hb
        rcases hb with ⟨j0, _⟩ | ⟨_, b, cb, pb, rfl, vb, bt⟩
        · omega
        have hfs4 : H4 fl = some (.lst (fs.map V.ref)) := t4 _ _ hfs
        refine ⟨.ref fl, rfl, .inl ⟨rfl, _, sql hfs4⟩, .ref b, rfl, fl, _, _, rfl, rfl, hfs4, ?_, ?_⟩
        · rw [List.length_map]; exact small1000 (by omega)
        · have tp : TupSub H4 (upd H4 fl (.lst (fs.map V.ref ++ [.ref b]))) := fun c zs e => by
            rw [upd_ne (ne_of e hfs4 (fun z => nomatch z))]; exact e
          refine ⟨same_list s4 nfl0, fs ++ [b], _, _, _, _, _, rfl, by rw [upd_same, List.map_append]; rfl, by rw [List.length_append, lf]; rfl, fun i a hi => ?_⟩
          by_cases h1 : i < fs.length
          · rw [List.getElem?_append_left h1] at hi
            obtain ⟨c, p, v, bb⟩ := okf i a hi
            exact ⟨c, p, v.mono (fun _ _ e => tp _ _ (t4 _ _ e)), bb⟩
          · rw [List.getElem?_append_right (by omega)] at hi
            have e0 : i - fs.length = 0 := by
              refine Classical.byContradiction fun z => ?_
              rw [List.getElem?_eq_none (by simp; omega)] at hi
              cases hi
            rw [e0] at hi
            cases hi
            have ei : i = m + 1 := by omega
            subst ei
            exact ⟨cb, pb, vb.mono tp, bt.best (by omega)⟩
    · rintro σ H2 ⟨s2, fs, y3, y4, y5, y6, y7, rfl, hfs, lf, okf⟩
      rw [eN] at lf
      obtain ⟨a, ha⟩ : ∃ a, fs[n]? = some a := ⟨_, List.getElem?_eq_getElem (by omega)⟩
      obtain ⟨c, p, v, bb⟩ := okf n a ha
      have gl : atI (fs.map V.ref) (-1) = some (.ref a) := by
        have e : fs.map V.ref = (fs.take n).map V.ref ++ [.ref a] := by
          have e0 : fs = fs.take n ++ [a] := by
            have := List.take_append_drop n fs
            have e1 : fs.drop n = [a] := by
              rw [List.drop_eq_getElem_cons (show n < fs.length by omega), List.drop_of_length_le (show fs.length ≤ n + 1 by omega)]
              rw [List.getElem?_eq_getElem (show n < fs.length by omega)] at ha
              rw [Option.some.inj ha]
            rw [e1] at this
            exact this.symm
          rw [congrArg (List.map V.ref) e0, List.map_append]
          rfl
        rw [e]
        exact atI_last _ _
      exact ⟨.ref fl, rfl, 1, rfl, fl, _, -1, _, rfl, rfl, sql hfs, gl, k H2 a c p s2 v bb⟩
theorem lTrucked (L : Lib K mg) : ∃ f fd, Ok P w K mg base 3 "trucked" sTrucked ["problem", "load"] spTrucked f fd := by
  obtain ⟨f, fd, D⟩ := L.trucked
  exact ⟨f, fd, D, ok_trucked D.F L⟩
/-! ### least_truck_cost, truck_plan -/
theorem scLeast : FnScope ["problem", "load"] ["problem", "load"] (defScope sLeast) := ⟨rfl, rfl, rfl, by decide +kernel, rfl, by decide +kernel, by decide +kernel⟩
def spLeast : Sp := fun vs H Q _ => ∃ (q : Addr) (n : Nat) (D S U G : List Int) (L : Int), vs = [.ref q, .int L] ∧ PAt H q D S U G ∧ POk n D S U G ∧ 1 ≤ L ∧ L ≤ 9999 ∧
  ∀ H' c p, Same H H' → BS L D S U G n c p → Q (.int c) H'
theorem ok_least {f : Addr} {fd : FuncData} (F : Fun K "least_truck_cost" "least_truck_cost" sLeast f fd) (Lb : Lib K mg) : FnOk P w K mg base CX0 5 f fd ["problem", "load"] spLeast := by
  obtain ⟨fN, fdN, DN, GN⟩ := lNeedLoad (P := P) (w := w) (base := base) Lb
  obtain ⟨fT, fdT, DT, GT⟩ := lTrucked (P := P) (w := w) (base := base) Lb
  refine F.ok scLeast (fun vs H Q E h => ?_) (fun cdv A outer s H vs Q E hr h => ?_)
  · obtain ⟨q, n, D, S, U, G, L, rfl, _⟩ := h
    rfl
  · obtain ⟨q, n, D, S, U, G, L, rfl, hp, ok, l1, l2, k⟩ := h
    refine ⟨_, pss_cons (ps_expr (pe_call GN hr (by rfl) DN.g DN.F.kp DN.b .nil pass0 (pa_cons (pv 0) (pa_cons (pv 1) pa_nil))))
      (pss_one (ps_ret (pe_ix (r := rIxT K) ix_tup (pe_call GT (hr.mono (by decide)) (by rfl) DT.g DT.F.kp DT.b .nil pass0 (pa_cons (pv 0) (pa_cons (pv 1) pa_nil))) pe_int (fun _ _ => rfl)))), ?_⟩
    refine ⟨.ref q, rfl, .int L, rfl, q, n, D, S, U, G, L, rfl, hp, ok, l1, l2, fun H1 s1 => ?_⟩
    refine ⟨.ref q, rfl, .int L, rfl, q, n, D, S, U, G, L, rfl, hp.mono s1.tups, ok, l1, l2, fun H2 r c p s2 ⟨ta, e1, e2⟩ b => ?_⟩
    exact ⟨r, _, 0, .int c, rfl, rfl, sqt e1, atI_nat (j := 0) rfl, k H2 c p (s1.trans s2) b⟩
theorem lLeast (L : Lib K mg) : ∃ f fd, Ok P w K mg base 5 "least_truck_cost" sLeast ["problem", "load"] spLeast f fd := by
  obtain ⟨f, fd, D⟩ := L.least
  exact ⟨f, fd, D, ok_least D.F L⟩
theorem scTruckPlan : FnScope ["problem", "load"] ["problem", "load"] (defScope sTruckPlan) := ⟨rfl, rfl, rfl, by decide +kernel, rfl, by decide +kernel, by decide +kernel⟩
def spTruckPlan : Sp := fun vs H Q _ => ∃ (q : Addr) (n : Nat) (D S U G : List Int) (L : Int), vs = [.ref q, .int L] ∧ PAt H q D S U G ∧ POk n D S U G ∧ 1 ≤ L ∧ L ≤ 9999 ∧
  ∀ H' v c p, Same H H' → H' v = some (.tup (p.map V.int)) → BS L D S U G n c p → Q (.ref v) H'
theorem ok_truckPlan {f : Addr} {fd : FuncData} (F : Fun K "truck_plan" "truck_plan" sTruckPlan f fd) (Lb : Lib K mg) : FnOk P w K mg base CX0 5 f fd ["problem", "load"] spTruckPlan := by
  obtain ⟨fN, fdN, DN, GN⟩ := lNeedLoad (P := P) (w := w) (base := base) Lb
  obtain ⟨fT, fdT, DT, GT⟩ := lTrucked (P := P) (w := w) (base := base) Lb
  refine F.ok scTruckPlan (fun vs H Q E h => ?_) (fun cdv A outer s H vs Q E hr h => ?_)
  · obtain ⟨q, n, D, S, U, G, L, rfl, _⟩ := h
    rfl
  · obtain ⟨q, n, D, S, U, G, L, rfl, hp, ok, l1, l2, k⟩ := h
    refine ⟨_, pss_cons (ps_expr (pe_call GN hr (by rfl) DN.g DN.F.kp DN.b .nil pass0 (pa_cons (pv 0) (pa_cons (pv 1) pa_nil))))
      (pss_one (ps_ret (pe_ix (r := rIxT K) ix_tup (pe_call GT (hr.mono (by decide)) (by rfl) DT.g DT.F.kp DT.b .nil pass0 (pa_cons (pv 0) (pa_cons (pv 1) pa_nil))) pe_int (fun _ _ => rfl)))), ?_⟩
    refine ⟨.ref q, rfl, .int L, rfl, q, n, D, S, U, G, L, rfl, hp, ok, l1, l2, fun H1 s1 => ?_⟩
    refine ⟨.ref q, rfl, .int L, rfl, q, n, D, S, U, G, L, rfl, hp.mono s1.tups, ok, l1, l2, fun H2 r c p s2 ⟨ta, e1, e2⟩ b => ?_⟩
    exact ⟨r, _, 1, .ref ta, rfl, rfl, sqt e1, atI_nat (j := 1) rfl, k H2 ta c p (s1.trans s2) e2 b⟩
theorem lTruckPlan (L : Lib K mg) : ∃ f fd, Ok P w K mg base 5 "truck_plan" sTruckPlan ["problem", "load"] spTruckPlan f fd := by
  obtain ⟨f, fd, D⟩ := L.truckPlan
  exact ⟨f, fd, D, ok_truckPlan D.F L⟩
end
end TW

namespace TW
open PySem PySem.Spec PyProof.Rows L2 TK
/-- all but r stays -/
def Ext (r : Addr) (H H' : Hp) : Prop := ∀ b o, b ≠ r → H b = some o → H' b = some o
theorem Ext.refl (r : Addr) (H : Hp) : Ext r H H := fun _ _ _ h => h
theorem Ext.trans {r : Addr} {H H1 H2 : Hp} (a : Ext r H H1) (b : Ext r H1 H2) : Ext r H H2 := fun c o n h => b c o n (a c o n h)
theorem _root_.L2.Same.ext {H H' : Hp} (s : Same H H') (r : Addr) : Ext r H H' := fun b o _ h => s b o h
theorem Ext.seq {K : PySem.W.Frag} {r a : Addr} {H H' : Hp} {xs : List V} (e : Ext r H H') (n : a ≠ r) (h : SqL K H a xs) : SqL K H' a xs := by
  rcases h with (h | ⟨o, h⟩) | h
  · exact .inl (.inl (e _ _ n h))
  · exact .inl (.inr ⟨o, e _ _ n h⟩)
  · exact .inr h
theorem Ext.put {r D : Addr} {H H' : Hp} {o : HO} (e : Ext r H H') (n : H D = none) : Ext r H (upd H' D o) := fun b z ne h => by
  rw [upd_ne (ne_of_none h n)]
  exact e b z ne h
/-- the drawing row: the script, how many cells are taken, the mixed number, the rest of a great cell -/
def RowL (H : Hp) (r s : Addr) : Prop := ∃ k z t : Int, H r = some (.lst [.ref s, .int k, .int z, .int t]) ∧ 0 ≤ k ∧ 0 ≤ z ∧ z < 2147483647
theorem RowL.tups {H H' : Hp} {r s : Addr} (h : RowL H r s) (e : Ext r H H') : TupSub H H' := fun b ys hb => by
  obtain ⟨k, z, t, h1, _⟩ := h
  exact e b _ (ne_of hb h1 (fun q => nomatch q)) hb
theorem RowL.up {H : Hp} {r s D : Addr} {o : HO} (h : RowL H r s) (n : r ≠ D) : RowL (upd H D o) r s := by
  obtain ⟨k, z, t, h1, h2⟩ := h
  exact ⟨k, z, t, by rw [upd_ne n]; exact h1, h2⟩
theorem RowL.same {H H' : Hp} {r s : Addr} (h : RowL H r s) (e : Same H H') : RowL H' r s := by
  obtain ⟨k, z, t, h1, h2⟩ := h
  exact ⟨k, z, t, e _ _ h1, h2⟩
theorem RowL.ne {H : Hp} {r s D : Addr} (h : RowL H r s) (n : H D = none) : r ≠ D := by
  obtain ⟨k, z, t, h1, h2⟩ := h
  exact ne_of_none h1 n
section
variable {P : Program} {w : World} {K : PySem.W.Frag} {mg : Str → Option Value} {base : Heap}
/-! ### _law_taken -/
theorem scTaken : FnScope ["_law_row_here", "_law_many", "_law_found", "_law_cell"] ["_law_row_here", "_law_many"] (defScope sTaken) := ⟨rfl, rfl, rfl, by decide +kernel, rfl, by decide +kernel, by decide +kernel⟩
/-- where one may draw -/
structure Draw (K : PySem.W.Frag) (H : Hp) (r s : Addr) : Prop where
  row : RowL H r s
  ne : s ≠ r
  script : ∃ ns : List Int, SqL K H s (ns.map V.int) ∧ ns.length ≤ 63
theorem Draw.next {H H' : Hp} {r s : Addr} (d : Draw K H r s) (e : Ext r H H') (h : RowL H' r s) : Draw K H' r s := ⟨h, d.ne, let ⟨ns, h1, h2⟩ := d.script; ⟨ns, e.seq d.ne h1, h2⟩⟩
def spTaken (K : PySem.W.Frag) : Sp := fun vs H Q _ => ∃ (r s : Addr) (many : Int), vs = [.ref r, .int many] ∧ Draw K H r s ∧ 0 < many ∧ many < 1000000000 ∧ ∀ (v : Int) (H' : Hp), 0 ≤ v → v < many → Ext r H H' → RowL H' r s → Q (.int v) H'
theorem ok_taken {f : Addr} {fd : FuncData} (F : Fun K "_law_taken" "_law_taken" sTaken f fd) (T : Tb mg) : FnOk P w K mg base CX0 1 f fd ["_law_row_here", "_law_many"] (spTaken K) := by
  refine F.ok scTaken (fun vs H Q E h => ?_) (fun cdv A outer s H vs Q E hr h => ?_)
  · obtain ⟨r, s, many, rfl, _⟩ := h
    rfl
  · obtain ⟨r, s', many, rfl, ⟨⟨k, z, t, h1, k0, z0, z1⟩, ne, ns, hs, hn⟩, m0, m1, q⟩ := h
    refine ⟨_, pss_cons (ps_if (pt_cmpR op_gt (pe_ix (r := rIxL K) ix_list (pv 0) pe_int (fun _ _ => rfl)) pe_int (nomark _))
        (pss_cons (ps_set (i := 2) scTaken.nd rfl (Or.inl rfl) (pe_op op_mod (pe_callTy call_int1 (by rfl) T.int bt_intT (pa_cons (pe_ix (r := rIxL K) ix_list (pv 0) pe_int (fun _ _ => rfl)) pa_nil)) (pv 1)))
        (pss_cons (ps_asg (pe_op op_fdiv (pe_ix (r := rIxL K) ix_list (pv 0) pe_int (fun _ _ => rfl)) (pv 1)) (pg_sub (pv 0) pe_int set_list))
        (pss_one (ps_ret (pv 2))))) pss_nil)
      (pss_cons (ps_asg (pe_op op_add (pe_ix (r := rIxL K) ix_list (pv 0) pe_int (fun _ _ => rfl)) pe_int) (pg_sub (pv 0) pe_int set_list))
      (pss_cons (ps_if (pt_cmpR op_gt (pe_ix (r := rIxL K) ix_list (pv 0) pe_int (fun _ _ => rfl)) (pe_callB (r := rLen K) call_len_seq (by rfl) T.len PySem.boot_len (pa_cons (pe_ix (r := rIxL K) ix_list (pv 0) pe_int (fun _ _ => rfl)) pa_nil)) (nomark _))
        (pss_cons (ps_asg (pe_op op_mod (pe_callTy call_int1 (by rfl) T.int bt_intT (pa_cons (pe_op op_add (pe_op op_mul (pe_ix (r := rIxL K) ix_list (pv 0) pe_int (fun _ _ => rfl)) pe_int) pe_int) pa_nil)) pe_int) (pg_sub (pv 0) pe_int set_list))
        (pss_one (ps_ret (pe_op op_mod (pe_callTy call_int1 (by rfl) T.int bt_intT (pa_cons (pe_op op_fdiv (pe_ix (r := rIxL K) ix_list (pv 0) pe_int (fun _ _ => rfl)) pe_int) pa_nil)) (pv 1))))) pss_nil)
      (pss_cons (ps_set (i := 3) scTaken.nd rfl (Or.inl rfl) (pe_ix (r := rIxL K) ix_list (pe_ix (r := rIxL K) ix_list (pv 0) pe_int (fun _ _ => rfl)) (pe_op op_sub (pe_ix (r := rIxL K) ix_list (pv 0) pe_int (fun _ _ => rfl)) pe_int) (fun _ _ => rfl)))
      (pss_cons (ps_asg (pe_op op_mod (pe_callTy call_int1 (by rfl) T.int bt_intT (pa_cons (pe_op op_add (pe_op op_add (pe_op op_mul (pe_ix (r := rIxL K) ix_list (pv 0) pe_int (fun _ _ => rfl)) pe_int) (pv 3)) pe_int) pa_nil)) pe_int) (pg_sub (pv 0) pe_int set_list))
      (pss_cons (ps_if (pt_cmpR op_ge (pv 3) (pe_op op_pow pe_int pe_int) (nomark _)) (pss_one (ps_asg (pe_op op_fdiv (pv 3) (pv 1)) (pg_sub (pv 0) pe_int set_list))) pss_nil)
      (pss_one (ps_ret (pe_op op_mod (pe_callTy call_int1 (by rfl) T.int bt_intT (pa_cons (pv 3) pa_nil)) (pv 1))))))))), ?_⟩
    have modL : ∀ x : Int, 0 ≤ x % many ∧ x % many < many := fun x => ⟨Int.emod_nonneg _ (by omega), Int.emod_lt_of_pos _ m0⟩
    have modZ : ∀ x : Int, 0 ≤ x % 2147483647 ∧ x % 2147483647 < 2147483647 := fun x => ⟨Int.emod_nonneg _ (by decide), Int.emod_lt_of_pos _ (by decide)⟩
    have up : ∀ (H' : Hp) (o : HO), Ext r H H' → Ext r H (upd H' r o) := fun H' o e b z nb hb => by
      rw [upd_ne nb]; exact e b z nb hb
    refine ⟨.ref r, rfl, r, _, 3, .int t, rfl, rfl, sql h1, atI_nat (j := 3) rfl, _, _, rfl, rfl, _, rfl, ite2 (fun _ => ?_) (fun _ => ?_)⟩
    · -- a cell's rest
      refine ⟨.ref r, rfl, r, _, 3, .int t, rfl, rfl, sql h1, atI_nat (j := 3) rfl, .inl ⟨_, rfl, _, rfl, _, _, rfl, rfl, m0, ?_⟩⟩
      refine ⟨.ref r, rfl, r, _, 3, .int t, rfl, rfl, sql h1, atI_nat (j := 3) rfl, _, rfl, _, _, rfl, rfl, ⟨m0, by omega⟩, ?_⟩
      refine ⟨.ref r, rfl, r, _, 3, 3, rfl, rfl, h1, rfl, ?_⟩
      refine ⟨_, rfl, q _ _ (modL t).1 (modL t).2 (up _ _ (Ext.refl _ _)) ⟨k, z, _, upd_same, k0, z0, z1⟩⟩
    · refine ⟨.ref r, rfl, r, _, 1, .int k, rfl, rfl, sql h1, atI_nat (j := 1) rfl, _, _, rfl, rfl, ?_⟩
      refine ⟨.ref r, rfl, r, _, 1, 1, rfl, rfl, h1, rfl, ?_⟩
      have e2 : Ext r H (upd H r (.lst [.ref s', .int (k + 1), .int z, .int t])) := up _ _ (Ext.refl _ _)
      have h2 := upd_same (H := H) (a := r) (o := .lst [.ref s', .int (k + 1), .int z, .int t])
      refine ⟨.ref r, rfl, r, _, 1, .int (k + 1), rfl, rfl, sql h2, atI_nat (j := 1) rfl, ?_⟩
      refine ⟨.ref r, rfl, r, _, 0, .ref s', rfl, rfl, sql h2, atI_nat (j := 0) rfl, s', _, rfl, .inl (e2.seq ne hs), _, _, rfl, rfl, _, rfl, ite2 (fun g => ?_) (fun g => ?_)⟩
      · -- behind the script's end
        refine ⟨.ref r, rfl, r, _, 2, .int z, rfl, rfl, sql h2, atI_nat (j := 2) rfl, _, _, rfl, rfl, .inl ⟨by omega, by omega⟩, _, _, rfl, rfl, .inl ⟨_, rfl, _, _, rfl, rfl, (by show (0 : Int) < 2147483647; decide), ?_⟩⟩
        refine ⟨.ref r, rfl, r, _, 2, 2, rfl, rfl, h2, rfl, ?_⟩
        have h3 := upd_same (H := upd H r (.lst [.ref s', .int (k + 1), .int z, .int t])) (a := r) (o := .lst [.ref s', .int (k + 1), .int ((z * 48271 + 11) % 2147483647), .int t])
        refine ⟨.ref r, rfl, r, _, 2, _, rfl, rfl, sql h3, atI_nat (j := 2) rfl, _, _, rfl, rfl, ⟨by decide, by decide⟩, .inl ⟨_, rfl, _, rfl, _, _, rfl, rfl, m0, ?_⟩⟩
        exact q _ _ (modL _).1 (modL _).2 (up _ _ e2) ⟨k + 1, _, t, h3, by omega, (modZ _).1, (modZ _).2⟩
      · -- a cell of the script
        have g' : ¬ ((ns.map V.int).length : Int) < k + 1 := fun w => g (decide_eq_true w)
        rw [List.length_map] at g'
        refine ⟨.ref r, rfl, r, _, 0, .ref s', rfl, rfl, sql h2, atI_nat (j := 0) rfl, .ref r, rfl, r, _, 1, .int (k + 1), rfl, rfl, sql h2, atI_nat (j := 1) rfl, _, _, rfl, rfl, ?_⟩
        have gc : atI (ns.map V.int) (k + 1 - 1) = some (.int (LM.g ns k.toNat)) := by
          rw [show k + 1 - 1 = ((k.toNat : Nat) : Int) by omega]
          exact atI_nat (geti (by omega))
        refine ⟨s', _, _, _, rfl, rfl, e2.seq ne hs, gc, ?_⟩
        refine ⟨.ref r, rfl, r, _, 2, .int z, rfl, rfl, sql h2, atI_nat (j := 2) rfl, _, _, rfl, rfl, .inl ⟨by omega, by omega⟩, _, rfl, _, _, rfl, rfl, _, _, rfl, rfl, .inl ⟨_, rfl, _, _, rfl, rfl, (by show (0 : Int) < 2147483647; decide), ?_⟩⟩
        refine ⟨.ref r, rfl, r, _, 2, 2, rfl, rfl, h2, rfl, ?_⟩
        have h3 := upd_same (H := upd H r (.lst [.ref s', .int (k + 1), .int z, .int t])) (a := r) (o := .lst [.ref s', .int (k + 1), .int ((z * 48271 + LM.g ns k.toNat + 11) % 2147483647), .int t])
        have e3 := up _ (.lst [.ref s', .int (k + 1), .int ((z * 48271 + LM.g ns k.toNat + 11) % 2147483647), .int t]) e2
        refine ⟨_, rfl, _, _, rfl, rfl, ⟨by decide, by decide, by decide⟩, _, _, rfl, rfl, _, rfl, ite2 (fun _ => ?_) (fun _ => ?_)⟩
        · refine ⟨_, rfl, _, rfl, _, _, rfl, rfl, ⟨m0, by omega⟩, .ref r, rfl, r, _, 3, 3, rfl, rfl, h3, rfl, ?_⟩
          refine ⟨_, rfl, .inl ⟨_, rfl, _, rfl, _, _, rfl, rfl, m0, ?_⟩⟩
          exact q _ _ (modL _).1 (modL _).2 (up _ _ e3) ⟨k + 1, _, _, upd_same, by omega, (modZ _).1, (modZ _).2⟩
        · refine ⟨_, rfl, .inl ⟨_, rfl, _, rfl, _, _, rfl, rfl, m0, ?_⟩⟩
          exact q _ _ (modL _).1 (modL _).2 e3 ⟨k + 1, _, t, h3, by omega, (modZ _).1, (modZ _).2⟩
theorem lTaken (L : Lib K mg) : ∃ f fd, Ok P w K mg base 1 "_law_taken" sTaken ["_law_row_here", "_law_many"] (spTaken K) f fd := by
  obtain ⟨f, fd, D⟩ := L.taken
  exact ⟨f, fd, D, ok_taken D.F L.T⟩
end
end TW

namespace TW
open PySem PySem.Spec PyProof.Rows L2 TK
section
variable {P : Program} {w : World} {K : PySem.W.Frag} {mg : Str → Option Value} {base : Heap}
/-! ### _law_pick -/
theorem scPick : FnScope ["_law_row_here", "_law_things"] ["_law_row_here", "_law_things"] (defScope sPick) := ⟨rfl, rfl, rfl, by decide +kernel, rfl, by decide +kernel, by decide +kernel⟩
def spPick (K : PySem.W.Frag) : Sp := fun vs H Q _ => ∃ (r s t : Addr) (xs : List V), vs = [.ref r, .ref t] ∧ Draw K H r s ∧ H t = some (.lst xs) ∧ t ≠ r ∧ 0 < xs.length ∧ xs.length < 1000000 ∧ ∀ (x : V) (H' : Hp), x ∈ xs → Ext r H H' → RowL H' r s → Q x H'
theorem ok_pick {f : Addr} {fd : FuncData} (F : Fun K "_law_pick" "_law_pick" sPick f fd) (Lb : Lib K mg) : FnOk P w K mg base CX0 2 f fd ["_law_row_here", "_law_things"] (spPick K) := by
  obtain ⟨fT, fdT, DT, GT⟩ := lTaken (P := P) (w := w) (base := base) Lb
  refine F.ok scPick (fun vs H Q E h => ?_) (fun cdv A outer s H vs Q E hr h => ?_)
  · obtain ⟨r, s, t, xs, rfl, _⟩ := h
    rfl
  · obtain ⟨r, s', t, xs, rfl, dr, ht, ne, x0, x1, q⟩ := h
    refine ⟨_, pss_one (ps_ret (pe_ix (r := rIxL K) ix_list (pv 1) (pe_call GT hr (by rfl) DT.g DT.F.kp DT.b .nil pass0 (pa_cons (pv 0) (pa_cons (pe_callB (r := rLen K) call_len_seq (by rfl) Lb.T.len PySem.boot_len (pa_cons (pv 1) pa_nil)) pa_nil))) (fun _ _ => rfl))), ?_⟩
    refine ⟨.ref t, rfl, .ref r, rfl, .ref t, rfl, t, xs, rfl, .inl (sql ht), r, s', _, rfl, dr, by omega, by omega, fun v H' v0 v1 e rw' => ?_⟩
    have hv : v.toNat < xs.length := by omega
    have gv : atI xs v = some xs[v.toNat] := by
      have e1 : v = ((v.toNat : Nat) : Int) := by omega
      have := atI_nat (List.getElem?_eq_getElem hv)
      rw [← e1] at this
      exact this
    exact ⟨t, xs, v, _, rfl, rfl, sql (e _ _ ne ht), gv, q _ _ (List.getElem_mem hv) e rw'⟩
theorem lPick (L : Lib K mg) : ∃ f fd, Ok P w K mg base 2 "_law_pick" sPick ["_law_row_here", "_law_things"] (spPick K) f fd := by
  obtain ⟨f, fd, D⟩ := L.pick
  exact ⟨f, fd, D, ok_pick D.F L⟩
/-! ### _law_entries -/
theorem scEntries : FnScope ["_law_row_here", "_law_many", "_law_most", "_law_at"] ["_law_row_here", "_law_many", "_law_most"] (defScope sEntries) := ⟨rfl, rfl, rfl, by decide +kernel, rfl, by decide +kernel, by decide +kernel⟩
def spEntries (K : PySem.W.Frag) : Sp := fun vs H Q _ => ∃ (r s : Addr) (n : Nat) (most : Int), vs = [.ref r, .int n, .int most] ∧ Draw K H r s ∧ n ≤ 12 ∧ 0 < most ∧ most < 1000000000 ∧
  ∀ (H' : Hp) (p : Addr) (xs : List Int), Ext r H H' → RowL H' r s → H' p = some (.tup (xs.map V.int)) → xs.length = n → (∀ x ∈ xs, 0 ≤ x ∧ x < most) → Q (.ref p) H'
theorem ok_entries {f : Addr} {fd : FuncData} (F : Fun K "_law_entries" "_law_entries" sEntries f fd) (Lb : Lib K mg) : FnOk P w K mg base CX0 2 f fd ["_law_row_here", "_law_many", "_law_most"] (spEntries K) := by
  obtain ⟨fT, fdT, DT, GT⟩ := lTaken (P := P) (w := w) (base := base) Lb
  refine F.ok scEntries (fun vs H Q E h => ?_) (fun cdv A outer s H vs Q E hr h => ?_)
  · obtain ⟨r, s, n, most, rfl, _⟩ := h
    rfl
  · obtain ⟨r, s', n, most, rfl, dr, hn, m0, m1, q⟩ := h
    refine ⟨_, pss_one (ps_ret (pe_callTy call_tuple_of (by rfl) Lb.T.tuple bt_tupleT (pa_cons (pe_lc (own := [("_law_at", 3)]) (g := gName 3) (tt := tYes) rfl scEntries.nd (pi_range1 (by rfl) Lb.T.range (pa_cons (pv 1) pa_nil)) (blkOk_by (N := ["_law_row_here", "_law_many", "_law_most", "_law_at"]) (sc := defScope sEntries) (by decide +kernel))
      (fun _ _ _ _ _ => pg_name (i := 3) scEntries.nd rfl (Or.inl rfl)) (fun _ _ _ _ _ => pts_nil) (fun _ _ _ _ _ => pe_call GT hr (by rfl) DT.g DT.F.kp DT.b .nil pass0 (pa_cons (pv 0) (pa_cons (pv 2) pa_nil)))) pa_nil))), ?_⟩
    refine ⟨_, rfl, (n : Int), rfl, by omega, by omega, fun C nC => ?_⟩
    have rC := dr.row.ne nC
    refine lc_range (lo := 0) (n := ((n : Int)).toNat) (fun i H' => Ext r H H' ∧ RowL H' r s' ∧ ∃ xs : List Int, H' C = some (.lst (xs.map V.int)) ∧ xs.length = i ∧ ∀ x ∈ xs, 0 ≤ x ∧ x < most)
      ⟨(Ext.refl _ _).put nC, dr.row.up rC, [], upd_same, rfl, fun x hx => by cases hx⟩ ?_ ?_
    · rintro i H1 hi ⟨e1, r1, xs, hC, hl, hx⟩
      refine ⟨rfl, yesT ?_⟩
      refine ⟨_, rfl, _, rfl, r, s', most, rfl, dr.next e1 r1, m0, m1, fun v H2 v0 v1 e2 r2 => ?_⟩
      have hC2 : H2 C = some (.lst (xs.map V.int)) := e2 _ _ (Ne.symm rC) hC
      refine ⟨_, hC2, ?_, (e1.trans e2).put nC, r2.up rC, xs ++ [v], by rw [upd_same, List.map_append]; rfl, by rw [List.length_append, hl]; rfl, fun x hxm => ?_⟩
      · rw [List.length_map]; exact small1000 (by omega)
      · rcases List.mem_append.mp hxm with h | h
        · exact hx x h
        · rw [List.mem_singleton] at h
          subst h
          exact ⟨v0, v1⟩
    · rintro H1 ⟨e1, r1, xs, hC, hl, hx⟩
      refine ⟨C, _, rfl, .inl ⟨sql hC, fun p np => ?_⟩⟩
      have rp := r1.ne np
      have s1 := same_upd (o := .tup (xs.map V.int)) np
      exact q _ p xs (fun b o nb hb => s1 _ _ (e1 b o nb hb)) (r1.up rp) upd_same (by omega) hx
theorem lEntries (L : Lib K mg) : ∃ f fd, Ok P w K mg base 2 "_law_entries" sEntries ["_law_row_here", "_law_many", "_law_most"] (spEntries K) f fd := by
  obtain ⟨f, fd, D⟩ := L.entries
  exact ⟨f, fd, D, ok_entries D.F L⟩
/-! ### _law_steps -/
theorem scSteps : FnScope ["_law_row_here", "_law_many", "_law_most", "_law_base", "_law_at"] ["_law_row_here", "_law_many", "_law_most"] (defScope sSteps) := ⟨rfl, rfl, rfl, by decide +kernel, rfl, by decide +kernel, by decide +kernel⟩
def spSteps (K : PySem.W.Frag) : Sp := fun vs H Q _ => ∃ (r s : Addr) (n : Nat) (most : Int), vs = [.ref r, .int n, .int most] ∧ Draw K H r s ∧ n ≤ 12 ∧ 0 < most ∧ most < 1000000000 ∧
  ∀ (H' : Hp) (p : Addr) (xs : List Int), Ext r H H' → RowL H' r s → H' p = some (.tup (xs.map V.int)) → xs.length = n → (∀ x ∈ xs, 0 ≤ x ∧ x < most + 3) → Q (.ref p) H'
theorem ok_steps {f : Addr} {fd : FuncData} (F : Fun K "_law_steps" "_law_steps" sSteps f fd) (Lb : Lib K mg) : FnOk P w K mg base CX0 2 f fd ["_law_row_here", "_law_many", "_law_most"] (spSteps K) := by
  obtain ⟨fT, fdT, DT, GT⟩ := lTaken (P := P) (w := w) (base := base) Lb
  refine F.ok scSteps (fun vs H Q E h => ?_) (fun cdv A outer s H vs Q E hr h => ?_)
  · obtain ⟨r, s, n, most, rfl, _⟩ := h
    rfl
  · obtain ⟨r, s', n, most, rfl, dr, hn, m0, m1, q⟩ := h
    refine ⟨_, pss_cons (ps_set (i := 3) scSteps.nd rfl (Or.inr rfl) (pe_call GT hr (by rfl) DT.g DT.F.kp DT.b .nil pass0 (pa_cons (pv 0) (pa_cons (pv 2) pa_nil))))
      (pss_one (ps_ret (pe_callTy call_tuple_of (by rfl) Lb.T.tuple bt_tupleT (pa_cons (pe_lc (own := [("_law_at", 4)]) (g := gName 4) (tt := tYes) rfl scSteps.nd (pi_range1 (by rfl) Lb.T.range (pa_cons (pv 1) pa_nil)) (blkOk_by (N := ["_law_row_here", "_law_many", "_law_most", "_law_base", "_law_at"]) (sc := defScope sSteps) (by decide +kernel))
      (fun _ _ _ _ _ => pg_name (i := 4) scSteps.nd rfl (Or.inl rfl)) (fun _ _ _ _ _ => pts_nil) (fun _ _ _ _ _ => pe_op op_add (pv 3) (pe_ifExp (pt_cmpR op_eq (pe_call GT hr (by rfl) DT.g DT.F.kp DT.b .nil pass0 (pa_cons (pv 0) (pa_cons pe_int pa_nil))) pe_int (nomark _)) (pe_call GT hr (by rfl) DT.g DT.F.kp DT.b .nil pass0 (pa_cons (pv 0) (pa_cons pe_int pa_nil))) pe_int))) pa_nil)))), ?_⟩
    refine ⟨_, rfl, _, rfl, r, s', most, rfl, dr, m0, m1, fun bs H0 b0 b1 e0 r0 => ?_⟩
    refine ⟨_, rfl, (n : Int), rfl, by omega, by omega, fun C nC => ?_⟩
    have rC := r0.ne nC
    have dr0 := dr.next e0 r0
    refine lc_range (lo := 0) (n := ((n : Int)).toNat) (fun i H' => Ext r H0 H' ∧ RowL H' r s' ∧ ∃ xs : List Int, H' C = some (.lst (xs.map V.int)) ∧ xs.length = i ∧ ∀ x ∈ xs, 0 ≤ x ∧ x < most + 3)
      ⟨(Ext.refl _ _).put nC, r0.up rC, [], upd_same, rfl, fun x hx => by cases hx⟩ ?_ ?_
    · rintro i H1 hi ⟨e1, r1, xs, hC, hl, hx⟩
      have step : ∀ (v : Int) (H2 : Hp), 0 ≤ v → v < most + 3 → Ext r H1 H2 → RowL H2 r s' → ∃ acc, H2 C = some (.lst acc) ∧ acc.length < sizeLine ∧ (Ext r H0 (upd H2 C (.lst (acc ++ [.int v]))) ∧ RowL (upd H2 C (.lst (acc ++ [.int v]))) r s' ∧ ∃ xs : List Int, upd H2 C (.lst (acc ++ [.int v])) C = some (.lst (xs.map V.int)) ∧ xs.length = i + 1 ∧ ∀ x ∈ xs, 0 ≤ x ∧ x < most + 3) := by
        intro v H2 v0 v1 e2 r2
        have hC2 : H2 C = some (.lst (xs.map V.int)) := e2 _ _ (Ne.symm rC) hC
        refine ⟨_, hC2, ?_, (e1.trans e2).put nC, r2.up rC, xs ++ [v], by rw [upd_same, List.map_append]; rfl, by rw [List.length_append, hl]; rfl, fun x hxm => ?_⟩
        · rw [List.length_map]; exact small1000 (by omega)
        · rcases List.mem_append.mp hxm with h | h
          · exact hx x h
          · rw [List.mem_singleton] at h
            subst h
            exact ⟨v0, v1⟩
      refine ⟨rfl, yesT ?_⟩
      refine ⟨_, rfl, _, rfl, r, s', 3, rfl, dr0.next e1 r1, by decide, by decide, fun v H2 v0 v1 e2 r2 => ⟨rfl, _, rfl, ite2 (fun _ => ?_) (fun _ => ?_)⟩⟩
      · refine ⟨_, rfl, r, s', 3, rfl, dr0.next (e1.trans e2) r2, by decide, by decide, fun u H3 u0 u1 e3 r3 => ⟨_, _, rfl, rfl, ?_⟩⟩
        exact step (bs + u) H3 (by omega) (by omega) (e2.trans e3) r3
      · refine ⟨_, _, rfl, rfl, ?_⟩
        exact step (bs + 0) H2 (by omega) (by omega) e2 r2
    · rintro H1 ⟨e1, r1, xs, hC, hl, hx⟩
      refine ⟨C, _, rfl, .inl ⟨sql hC, fun p np => ?_⟩⟩
      have rp := r1.ne np
      have s1 := same_upd (o := .tup (xs.map V.int)) np
      exact q _ p xs (fun b o nb hb => s1 _ _ (e1 b o nb (e0 b o nb hb))) (r1.up rp) upd_same (by omega) hx
theorem lSteps (L : Lib K mg) : ∃ f fd, Ok P w K mg base 2 "_law_steps" sSteps ["_law_row_here", "_law_many", "_law_most"] (spSteps K) f fd := by
  obtain ⟨f, fd, D⟩ := L.steps
  exact ⟨f, fd, D, ok_steps D.F L⟩
end
end TW

namespace TW
open PySem PySem.Spec PyProof.Rows L2 TK
section
variable {P : Program} {w : World} {K : PySem.W.Frag} {mg : Str → Option Value} {base : Heap}
/-! ### _law_problem -/
/-- steps(row, many, a) if TEST else entries(row, many, b): some few entries, whichever -/
def tSE (K : PySem.W.Frag) : TE := fun σ H Q => ∃ (r s : Addr) (n : Nat) (way : Int), σ[0]? = some (some (.ref r)) ∧ σ[1]? = some (some (.int (n : Int))) ∧ σ[2]? = some (some (.int way)) ∧ Draw K H r s ∧ n ≤ 12 ∧
  ∀ (H' : Hp) (p : Addr) (xs : List Int), Ext r H H' → RowL H' r s → H' p = some (.tup (xs.map V.int)) → Few n xs → Q (.ref p) H'
theorem tSE_ok (K : PySem.W.Frag) {tt : TT} (a b : Int) (ha : 0 < a ∧ a ≤ 900) (hb : 0 < b ∧ b ≤ 900) (htt : ∀ (σ : L2.St) (H : Hp) (Q : Bool → Hp → Prop) (way : Int), σ[2]? = some (some (.int way)) → (∀ c, Q c H) → tt σ H Q) :
    ∀ σ H Q, tSE K σ H Q → (tIf tt (tCall (spSteps K) [] E0 (tCons (tVar 0) (tCons (tVar 1) (tCons (tC (.int a)) tNil)))) (tCall (spEntries K) [] E0 (tCons (tVar 0) (tCons (tVar 1) (tCons (tC (.int b)) tNil))))) σ H Q := by
  rintro σ H Q ⟨r, s, n, way, h0, h1, h2, dr, hn, k⟩
  refine htt σ H _ way h2 fun c => ite2 (fun _ => ?_) (fun _ => ?_)
  · refine ⟨_, h0, _, h1, r, s, n, a, rfl, dr, hn, ha.1, by omega, fun H' p xs e r' hp hl hx => k H' p xs e r' hp ⟨hl, fun x hm => (hx x hm).1, fun x hm => by have := (hx x hm).2; omega⟩⟩
  · refine ⟨_, h0, _, h1, r, s, n, b, rfl, dr, hn, hb.1, by omega, fun H' p xs e r' hp hl hx => k H' p xs e r' hp ⟨hl, fun x hm => (hx x hm).1, fun x hm => by have := (hx x hm).2; omega⟩⟩
theorem ttLt (k : Int) : ∀ (σ : L2.St) (H : Hp) (Q : Bool → Hp → Prop) (way : Int), σ[2]? = some (some (.int way)) → (∀ c, Q c H) → (tTest (tOp (rI0 fun i j => .bl (decide (i < j))) (tVar 2) (tC (.int k)))) σ H Q :=
  fun σ H Q way h k => ⟨_, h, _, _, rfl, rfl, _, rfl, k _⟩
theorem ttEq (k : Int) : ∀ (σ : L2.St) (H : Hp) (Q : Bool → Hp → Prop) (way : Int), σ[2]? = some (some (.int way)) → (∀ c, Q c H) → (tTest (tOp rEq (tVar 2) (tC (.int k)))) σ H Q :=
  fun σ H Q way h k => ⟨_, h, rfl, _, rfl, k _⟩
theorem scProblem : FnScope ["_law_row_here", "_law_many", "_law_way", "_law_demands", "_law_setups", "_law_units", "_law_at"] ["_law_row_here", "_law_many"] (defScope sProblem) := ⟨rfl, rfl, rfl, by decide +kernel, rfl, by decide +kernel, by decide +kernel⟩
def spProblem (K : PySem.W.Frag) : Sp := fun vs H Q _ => ∃ (r s : Addr) (n : Nat), vs = [.ref r, .int n] ∧ Draw K H r s ∧ 1 ≤ n ∧ n ≤ 12 ∧
  ∀ (H' : Hp) (p : Addr) (D S U G : List Int), Ext r H H' → RowL H' r s → PAt H' p D S U G → POk n D S U G → Q (.ref p) H'
theorem ok_problem {f : Addr} {fd : FuncData} (F : Fun K "_law_problem" "_law_problem" sProblem f fd) (Lb : Lib K mg) : FnOk P w K mg base CX0 3 f fd ["_law_row_here", "_law_many"] (spProblem K) := by
  obtain ⟨fT, fdT, DT, GT⟩ := lTaken (P := P) (w := w) (base := base) Lb
  obtain ⟨fP, fdP, DP, GP⟩ := lPick (P := P) (w := w) (base := base) Lb
  obtain ⟨fE, fdE, DE, GE⟩ := lEntries (P := P) (w := w) (base := base) Lb
  obtain ⟨fS, fdS, DS, GS⟩ := lSteps (P := P) (w := w) (base := base) Lb
  refine F.ok scProblem (fun vs H Q E h => ?_) (fun cdv A outer s H vs Q E hr h => ?_)
  · obtain ⟨r, s, n, rfl, _⟩ := h
    rfl
  · obtain ⟨r, s', n, rfl, dr, n1, n2, q⟩ := h
    refine ⟨_, pss_cons (ps_set (i := 2) scProblem.nd rfl (Or.inl rfl) (pe_call GT (hr.mono (by decide)) (by rfl) DT.g DT.F.kp DT.b .nil pass0 (pa_cons (pv 0) (pa_cons pe_int pa_nil))))
      (pss_cons (ps_if (pt_cmpR op_eq (pv 2) pe_int (nomark _)) (pss_one (ps_ret (pe_callTy call_tuple_of (by rfl) Lb.T.tuple bt_tupleT (pa_cons (pe_lc (own := [("_law_at", 6)]) (g := gName 6) (tt := tYes) rfl scProblem.nd (pi_range1 (by rfl) Lb.T.range (pa_cons pe_int pa_nil)) (blkOk_by (N := ["_law_row_here", "_law_many", "_law_way", "_law_demands", "_law_setups", "_law_units", "_law_at"]) (sc := defScope sProblem) (by decide +kernel))
          (fun _ _ _ _ _ => pg_name (i := 6) scProblem.nd rfl (Or.inl rfl)) (fun _ _ _ _ _ => pts_nil) (fun _ _ _ _ _ => pe_call GE hr (by rfl) DE.g DE.F.kp DE.b .nil pass0 (pa_cons (pv 0) (pa_cons (pv 1) (pa_cons (pe_call GP hr (by rfl) DP.g DP.F.kp DP.b .nil pass0 (pa_cons (pv 0) (pa_cons (pe_lst (pa_cons pe_int (pa_cons pe_int pa_nil))) pa_nil))) pa_nil))))) pa_nil)))) pss_nil)
      (pss_cons (ps_set (i := 3) scProblem.nd rfl (Or.inl rfl) (pe_call GE hr (by rfl) DE.g DE.F.kp DE.b .nil pass0 (pa_cons (pv 0) (pa_cons (pv 1) (pa_cons (pe_call GP hr (by rfl) DP.g DP.F.kp DP.b .nil pass0 (pa_cons (pv 0) (pa_cons (pe_lst (pa_cons pe_int (pa_cons pe_int (pa_cons pe_int pa_nil)))) pa_nil))) pa_nil)))))
      (pss_cons (ps_set (i := 4) scProblem.nd rfl (Or.inl rfl) (PE.imp (pe_ifExp (pt_cmpR op_lt (pv 2) pe_int (nomark _)) (pe_call GS hr (by rfl) DS.g DS.F.kp DS.b .nil pass0 (pa_cons (pv 0) (pa_cons (pv 1) (pa_cons pe_int pa_nil)))) (pe_call GE hr (by rfl) DE.g DE.F.kp DE.b .nil pass0 (pa_cons (pv 0) (pa_cons (pv 1) (pa_cons pe_int pa_nil))))) (tSE_ok K 60 40 (by decide) (by decide) (ttLt 2))))
      (pss_cons (ps_set (i := 5) scProblem.nd rfl (Or.inl rfl) (PE.imp (pe_ifExp (pt_cmpR op_lt (pv 2) pe_int (nomark _)) (pe_call GS hr (by rfl) DS.g DS.F.kp DS.b .nil pass0 (pa_cons (pv 0) (pa_cons (pv 1) (pa_cons pe_int pa_nil)))) (pe_call GE hr (by rfl) DE.g DE.F.kp DE.b .nil pass0 (pa_cons (pv 0) (pa_cons (pv 1) (pa_cons pe_int pa_nil))))) (tSE_ok K 4 6 (by decide) (by decide) (ttLt 3))))
      (pss_one (ps_ret (pe_tup (pa_cons (pv 3) (pa_cons (pv 4) (pa_cons (pv 5) (pa_cons (PE.imp (pe_ifExp (pt_cmpR op_eq (pv 2) pe_int (nomark _)) (pe_call GS hr (by rfl) DS.g DS.F.kp DS.b .nil pass0 (pa_cons (pv 0) (pa_cons (pv 1) (pa_cons pe_int pa_nil)))) (pe_call GE hr (by rfl) DE.g DE.F.kp DE.b .nil pass0 (pa_cons (pv 0) (pa_cons (pv 1) (pa_cons pe_int pa_nil))))) (tSE_ok K 3 4 (by decide) (by decide) (ttEq 0))) pa_nil))))))))))), ?_⟩
    refine ⟨.ref r, rfl, r, s', 5, rfl, dr, by decide, by decide, fun way H1 v0 v1 e1 r1 => ?_⟩
    have dr1 := dr.next e1 r1
    refine ⟨_, rfl, rfl, _, rfl, ite2 (fun _ => ?_) (fun _ => ?_)⟩
    · -- all four loose
      refine ⟨4, rfl, by decide, by decide, fun C nC => ?_⟩
      have rC := r1.ne nC
      refine lc_range (lo := 0) (n := ((4 : Int)).toNat) (fun i H' => Ext r H1 H' ∧ RowL H' r s' ∧ ∃ as : List Addr, H' C = some (.lst (as.map V.ref)) ∧ as.length = i ∧ ∀ a ∈ as, ∃ xs : List Int, H' a = some (.tup (xs.map V.int)) ∧ Few n xs)
        ⟨(Ext.refl _ _).put nC, r1.up rC, [], upd_same, rfl, fun x hx => by cases hx⟩ ?_ ?_
      · rintro i H2 hi ⟨e2, r2, as, hC, hl, ha⟩
        refine ⟨rfl, yesT ?_⟩
        refine ⟨_, rfl, _, rfl, _, rfl, by show 2 ≤ sizeLine; decide, fun t nt => ?_⟩
        have rt := r2.ne nt
        have e3 : Ext r H2 (upd H2 t (.lst [.int 2, .int 1000])) := (same_upd nt).ext r
        have r3 : RowL (upd H2 t (.lst [.int 2, .int 1000])) r s' := r2.up rt
        refine ⟨r, s', t, _, rfl, dr1.next (e2.trans e3) r3, upd_same, Ne.symm rt, by decide, by decide, fun x H4 hx e4 r4 => ?_⟩
        obtain ⟨m, rfl, m0, m1⟩ : ∃ m : Int, x = .int m ∧ 0 < m ∧ m ≤ 1000 := by
          have hx' : x = .int 2 ∨ x = .int 1000 := by simpa using hx
          rcases hx' with rfl | rfl
          · exact ⟨2, rfl, by decide, by decide⟩
          · exact ⟨1000, rfl, by decide, by decide⟩
        refine ⟨r, s', n, m, rfl, dr1.next ((e2.trans e3).trans e4) r4, n2, m0, by omega, fun H5 p xs e5 r5 hp hlx hx => ?_⟩
        have e25 := e3.trans (e4.trans e5)
        have hC5 : H5 C = some (.lst (as.map V.ref)) := e25 _ _ (Ne.symm rC) hC
        have t25 : TupSub H2 H5 := r2.tups e25
        refine ⟨_, hC5, ?_, (e2.trans e25).put nC, r5.up rC, as ++ [p], by rw [upd_same, List.map_append]; rfl, by rw [List.length_append, hl]; rfl, fun a ham => ?_⟩
        · rw [List.length_map, hl]; exact small1000 (by omega)
        · have tC : TupSub H5 (upd H5 C (.lst (as.map V.ref ++ [.ref p]))) := fun c zs e => by
            rw [upd_ne (ne_of e hC5 (fun z => nomatch z))]; exact e
          rcases List.mem_append.mp ham with h | h
          · obtain ⟨xs', h1, h2⟩ := ha a h
            exact ⟨xs', tC _ _ (t25 _ _ h1), h2⟩
          · rw [List.mem_singleton] at h
            subst h
            exact ⟨xs, tC _ _ hp, hlx, fun x hm => (hx x hm).1, fun x hm => by have := (hx x hm).2; omega⟩
      · rintro H2 ⟨e2, r2, as, hC, hl, ha⟩
        refine ⟨C, _, rfl, .inl ⟨sql hC, fun p np => ?_⟩⟩
        have rp := r2.ne np
        have s1 := same_upd (o := .tup (as.map V.ref)) np
        obtain ⟨a, b, c, d, rfl⟩ : ∃ a b c d, as = [a, b, c, d] := by
          match as, hl with
          | [a, b, c, d], _ => exact ⟨a, b, c, d, rfl⟩
        obtain ⟨D, h1, f1⟩ := ha a (by simp)
        obtain ⟨S, h2, f2⟩ := ha b (by simp)
        obtain ⟨U, h3, f3⟩ := ha c (by simp)
        obtain ⟨G, h4, f4⟩ := ha d (by simp)
        exact q _ p D S U G (fun x o nb hb => s1 _ _ (e2 x o nb (e1 x o nb hb))) (r2.up rp) ⟨a, b, c, d, upd_same, s1 _ _ h1, s1 _ _ h2, s1 _ _ h3, s1 _ _ h4⟩ ⟨n1, n2, f1, f2, f3, f4⟩
    · -- demands
      refine ⟨_, rfl, _, rfl, _, rfl, by show 3 ≤ sizeLine; decide, fun t nt => ?_⟩
      have rt := r1.ne nt
      have e2 : Ext r H1 (upd H1 t (.lst [.int 3, .int 10, .int 30])) := (same_upd nt).ext r
      have r2 : RowL (upd H1 t (.lst [.int 3, .int 10, .int 30])) r s' := r1.up rt
      refine ⟨r, s', t, _, rfl, dr1.next e2 r2, upd_same, Ne.symm rt, by decide, by decide, fun x H3 hx e3 r3 => ?_⟩
      obtain ⟨m, rfl, m0, m1⟩ : ∃ m : Int, x = .int m ∧ 0 < m ∧ m ≤ 1000 := by
        have hx' : x = .int 3 ∨ x = .int 10 ∨ x = .int 30 := by simpa using hx
        rcases hx' with rfl | rfl | rfl
        · exact ⟨3, rfl, by decide, by decide⟩
        · exact ⟨10, rfl, by decide, by decide⟩
        · exact ⟨30, rfl, by decide, by decide⟩
      refine ⟨r, s', n, m, rfl, dr1.next (e2.trans e3) r3, n2, m0, by omega, fun H4 p1 D e4 r4 h1 l1 x1 => ?_⟩
      have f1 : Few n D := ⟨l1, fun x hm => (x1 x hm).1, fun x hm => by have := (x1 x hm).2; omega⟩
      have e14 := e2.trans (e3.trans e4)
      -- setups, units, holdings
      refine ⟨r, s', n, way, rfl, rfl, rfl, dr1.next e14 r4, n2, fun H5 p2 S e5 r5 h2 f2 => ?_⟩
      refine ⟨r, s', n, way, rfl, rfl, rfl, dr1.next (e14.trans e5) r5, n2, fun H6 p3 U e6 r6 h3 f3 => ?_⟩
      refine ⟨_, rfl, _, rfl, _, rfl, r, s', n, way, rfl, rfl, rfl, dr1.next (e14.trans (e5.trans e6)) r6, n2, fun H7 p4 G e7 r7 h4 f4 => ⟨by show 4 ≤ sizeLine; decide, fun p np => ?_⟩⟩
      have rp := r7.ne np
      have s1 := same_upd (o := .tup [.ref p1, .ref p2, .ref p3, .ref p4]) np
      have t5 := r4.tups e5
      have t6 := r5.tups e6
      have t7 := r6.tups e7
      exact q _ p D S U G (fun x o nb hb => s1 _ _ (e7 x o nb (e6 x o nb (e5 x o nb (e14 x o nb (e1 x o nb hb)))))) (r7.up rp)
        ⟨p1, p2, p3, p4, upd_same, s1 _ _ (t7 _ _ (t6 _ _ (t5 _ _ h1))), s1 _ _ (t7 _ _ (t6 _ _ h2)), s1 _ _ (t7 _ _ h3), s1 _ _ h4⟩ ⟨n1, n2, f1, f2, f3, f4⟩
theorem lProblem (L : Lib K mg) : ∃ f fd, Ok P w K mg base 3 "_law_problem" sProblem ["_law_row_here", "_law_many"] (spProblem K) f fd := by
  obtain ⟨f, fd, D⟩ := L.problem
  exact ⟨f, fd, D, ok_problem D.F L⟩
/-! ### _law_small -/
theorem scSmall : FnScope ["_law_row_here", "_law_many", "_law_problem_here"] ["_law_row_here"] (defScope sSmall) := ⟨rfl, rfl, rfl, by decide +kernel, rfl, by decide +kernel, by decide +kernel⟩
def spSmall (K : PySem.W.Frag) : Sp := fun vs H Q _ => ∃ (r s : Addr), vs = [.ref r] ∧ Draw K H r s ∧
  ∀ (H' : Hp) (p : Addr) (n : Nat) (D S U G : List Int), Ext r H H' → RowL H' r s → PAt H' p D S U G → POk n D S U G → n ≤ 4 → (∀ x ∈ D, x ≤ 3) → Q (.ref p) H'
/-- 4 if many < 4 else 3 -/
def t43 : TE := fun σ H Q => ∃ m : Int, σ[1]? = some (some (.int m)) ∧ ∀ b : Int, 0 < b → b ≤ 4 → Q (.int b) H
theorem t43_ok : ∀ σ H Q, t43 σ H Q → (tIf (tTest (tOp (rI0 fun i j => .bl (decide (i < j))) (tVar 1) (tC (.int 4)))) (tC (.int 4)) (tC (.int 3))) σ H Q := by
  rintro σ H Q ⟨m, h, k⟩
  exact ⟨_, h, _, _, rfl, rfl, _, rfl, ite2 (fun _ => k 4 (by decide) (by decide)) (fun _ => k 3 (by decide) (by decide))⟩
theorem ok_small {f : Addr} {fd : FuncData} (F : Fun K "_law_small" "_law_small" sSmall f fd) (Lb : Lib K mg) : FnOk P w K mg base CX0 4 f fd ["_law_row_here"] (spSmall K) := by
  obtain ⟨fT, fdT, DT, GT⟩ := lTaken (P := P) (w := w) (base := base) Lb
  obtain ⟨fE, fdE, DE, GE⟩ := lEntries (P := P) (w := w) (base := base) Lb
  obtain ⟨fP, fdP, DP, GP⟩ := lProblem (P := P) (w := w) (base := base) Lb
  refine F.ok scSmall (fun vs H Q E h => ?_) (fun cdv A outer s H vs Q E hr h => ?_)
  · obtain ⟨r, s, rfl, _⟩ := h
    rfl
  · obtain ⟨r, s', rfl, dr, q⟩ := h
    refine ⟨_, pss_cons (ps_set (i := 1) scSmall.nd rfl (Or.inl rfl) (pe_op op_add pe_int (pe_call GT (hr.mono (by decide)) (by rfl) DT.g DT.F.kp DT.b .nil pass0 (pa_cons (pv 0) (pa_cons pe_int pa_nil)))))
      (pss_cons (ps_set (i := 2) scSmall.nd rfl (Or.inl rfl) (pe_call GP hr (by rfl) DP.g DP.F.kp DP.b .nil pass0 (pa_cons (pv 0) (pa_cons (pv 1) pa_nil))))
      (pss_one (ps_ret (pe_op op_catS (pe_tup (pa_cons (pe_call GE (hr.mono (by decide)) (by rfl) DE.g DE.F.kp DE.b .nil pass0 (pa_cons (pv 0) (pa_cons (pv 1) (pa_cons (PE.imp (pe_ifExp (pt_cmpR op_lt (pv 1) pe_int (nomark _)) pe_int pe_int) t43_ok) pa_nil)))) pa_nil)) (pe_slice sl_tupS (pv 2) (po_some pe_int) po_none))))), ?_⟩
    refine ⟨_, rfl, r, s', 4, rfl, dr, by decide, by decide, fun v H1 v0 v1 e1 r1 => ⟨_, _, rfl, rfl, ?_⟩⟩
    obtain ⟨m, rfl⟩ : ∃ m : Nat, v = (m : Int) := ⟨v.toNat, by omega⟩
    obtain ⟨n, en⟩ : ∃ n : Nat, n = 1 + m := ⟨_, rfl⟩
    have n1 : 1 ≤ n := by omega
    have n4 : n ≤ 4 := by omega
    have ev : V.int ((1 : Int) + (m : Int)) = V.int (n : Int) := by rw [en]; rfl
    refine ⟨_, rfl, _, rfl, r, s', n, congrArg (fun z => [V.ref r, z]) ev, dr.next e1 r1, n1, by omega, fun H2 pp D0 S U G e2 r2 hpa hok => ?_⟩
    obtain ⟨d, s1, u, g, hq, hd, hs, hu, hg⟩ := hpa
    refine ⟨_, rfl, _, rfl, _, rfl, fun b b0 b1 => ?_⟩
    refine ⟨r, s', n, b, congrArg (fun z => [V.ref r, z, V.int b]) ev, dr.next (e1.trans e2) r2, by omega, b0, by omega, fun H3 pd D e3 r3 h3 l3 x3 => ⟨by show 1 ≤ sizeLine; decide, fun pt npt => ?_⟩⟩
    have t3 := r2.tups e3
    have s4 := same_upd (o := .tup [.ref pd]) npt
    have r4 : RowL (upd H3 pt (.tup [.ref pd])) r s' := r3.up (r3.ne npt)
    refine ⟨.ref pp, rfl, 1, rfl, pp, _, rfl, s4 _ _ (t3 _ _ hq), fun p5 H5 s5 h5 => ?_⟩
    refine ⟨pt, p5, _, _, rfl, rfl, s5 _ _ upd_same, h5, by show 4 ≤ sizeLine; decide, fun p6 H6 s6 h6 => ?_⟩
    have tt := fun b ys (h : H2 b = some (.tup ys)) => s6 _ _ (s5 _ _ (s4 _ _ (t3 b ys h)))
    refine q H6 p6 n D S U G (fun x o nb hb => s6 _ _ (s5 _ _ (s4 _ _ (e3 x o nb (e2 x o nb (e1 x o nb hb)))))) ((r4.same s5).same s6)
      ⟨pd, s1, u, g, h6, s6 _ _ (s5 _ _ (s4 _ _ h3)), tt _ _ hs, tt _ _ hu, tt _ _ hg⟩ ⟨n1, by omega, ⟨l3, fun x hm => (x3 x hm).1, fun x hm => by have := (x3 x hm).2; omega⟩, hok.s, hok.u, hok.g⟩ n4 (fun x hm => by have := (x3 x hm).2; omega)
theorem lSmall (L : Lib K mg) : ∃ f fd, Ok P w K mg base 4 "_law_small" sSmall ["_law_row_here"] (spSmall K) f fd := by
  obtain ⟨f, fd, D⟩ := L.small
  exact ⟨f, fd, D, ok_small D.F L⟩
end
end TW

namespace TW
open PySem PySem.Spec PyProof.Rows L2 TK
section
variable {P : Program} {w : World} {K : PySem.W.Frag} {mg : Str → Option Value} {base : Heap}
/-! ### _law_row -/
theorem scRow : FnScope ["_law_demands", "_law_plan", "_law_found", "_law_left", "_law_at"] ["_law_demands", "_law_plan"] (defScope sRow) := ⟨rfl, rfl, rfl, by decide +kernel, rfl, by decide +kernel, by decide +kernel⟩
def spRow : Sp := fun vs H Q _ => ∃ (a b : Addr) (ds xs : List Int), vs = [.ref a, .ref b] ∧ H a = some (.tup (ds.map V.int)) ∧ H b = some (.tup (xs.map V.int)) ∧ ds.length = xs.length ∧ xs.length ≤ 1000 ∧
  ∀ H' p, Same H H' → H p = none → H' p = some (.lst ((LM.stkL ds xs xs.length).map V.int)) → Q (.ref p) H'
theorem ok_row {f : Addr} {fd : FuncData} (F : Fun K "_law_row" "_law_row" sRow f fd) (T : Tb mg) : FnOk P w K mg base CX0 1 f fd ["_law_demands", "_law_plan"] spRow := by
  refine F.ok scRow (fun vs H Q E h => ?_) (fun cdv A outer s H vs Q E hr h => ?_)
  · obtain ⟨a, b, ds, xs, rfl, _⟩ := h
    rfl
  · obtain ⟨a, b, ds, xs, rfl, ha, hb, hl, hle, k⟩ := h
    refine ⟨_, pss_cons (ps_par (i := 2) (j := 3) (by rfl) scRow.nd rfl rfl (by decide) rfl rfl (pa_cons (pe_lst pa_nil) (pa_cons pe_int pa_nil)) (by rfl))
      (pss_cons (ps_for PassesOwn.never rfl (pi_range1 (by rfl) T.range (pa_cons (pe_callB (r := rLen K) call_len_seq (by rfl) T.len PySem.boot_len (pa_cons (pv 0) pa_nil)) pa_nil)) (pg_name (i := 4) scRow.nd rfl (.inl rfl))
        (pss_cons (ps_set (i := 3) scRow.nd rfl (Or.inl rfl) (pe_op op_sub (pe_op op_add (pv 3) (pe_ix (r := rIxT K) ix_tup (pv 1) (pv 4) (fun _ _ => rfl))) (pe_ix (r := rIxT K) ix_tup (pv 0) (pv 4) (fun _ _ => rfl))))
          (pss_one (ps_expr (pe_bm PySem.F.plainAttrs_list PySem.F.slot_list_append PySem.F.type_list_append mt_append (pv 2) (pa_cons (pv 3) pa_nil))))))
      (pss_one (ps_ret (pv 2)))), ?_⟩
    refine ⟨Nat.zero_le _, fun p np => ⟨.ref p, .int 0, rfl, ?_⟩⟩
    have s1 : Same H (upd H p (.lst [])) := same_upd np
    refine ⟨.ref a, rfl, a, _, rfl, .inr (sqt (s1 _ _ ha)), _, rfl, by omega, by rw [List.length_map]; omega, ?_⟩
    have eN : (((ds.map V.int).length : Nat) : Int).toNat = xs.length := by rw [List.length_map]; omega
    refine for_it (walk_range (lo := 0) (n := (((ds.map V.int).length : Nat) : Int).toNat))
      (fun i σ H' => Same H H' ∧ H' p = some (.lst ((LM.stkL ds xs i).map V.int)) ∧ ∃ y4, σ = [some (.ref a), some (.ref b), some (.ref p), some (.int (LM.stk (LM.g ds) (LM.g xs) i)), y4])
      ⟨s1, upd_same, _, rfl⟩ (fun _ _ _ _ _ => trivial) ?_ ?_
    · rintro i x σ H2 H3 hi ⟨s2, hp, y4, rfl⟩ ⟨rfl, ex⟩
      rw [eN] at hi
      obtain rfl : x = .int (i : Int) := ex.trans (congrArg V.int (by omega))
      refine ⟨_, rfl, .ref b, rfl, _, rfl, b, _, _, _, rfl, rfl, sqt (s2 _ _ hb), atI_nat (j := i) (geti hi), _, _, rfl, rfl, .ref a, rfl, _, rfl, a, _, _, _, rfl, rfl, sqt (s2 _ _ ha), atI_nat (j := i) (geti (by omega)), _, _, rfl, rfl, ?_⟩
      have e1 : LM.stk (LM.g ds) (LM.g xs) i + LM.g xs i - LM.g ds i = LM.stk (LM.g ds) (LM.g xs) (i + 1) := by rw [LM.stk_succ]; omega
      refine ⟨.ref p, rfl, .inl ⟨rfl, _, sql hp⟩, _, rfl, p, _, _, rfl, rfl, hp, ?_, ?_⟩
      · rw [List.length_map, LM.stkL_length]; exact small1000 (by omega)
      · refine ⟨same_list s2 np, ?_, some (.int (i : Int)), ?_⟩
        · rw [upd_same, LM.stkL_succ, List.map_append, ← e1]; rfl
        · rw [← e1]; rfl
    · rintro σ H2 ⟨s2, hp, y4, rfl⟩
      rw [eN] at hp
      exact ⟨.ref p, rfl, k H2 p s2 np hp⟩
theorem lRow (L : Lib K mg) : ∃ f fd, Ok P w K mg base 1 "_law_row" sRow ["_law_demands", "_law_plan"] spRow f fd := by
  obtain ⟨f, fd, D⟩ := L.row
  exact ⟨f, fd, D, ok_row D.F L.T⟩
/-! ### _law_truck -/
theorem scTruck : FnScope ["_law_problem_here", "_law_load", "_law_plan", "_law_left", "_law_found", "_law_at", "_law_loads"] ["_law_problem_here", "_law_load", "_law_plan"] (defScope sTruck) := ⟨rfl, rfl, rfl, by decide +kernel, rfl, by decide +kernel, by decide +kernel⟩
def spTruck : Sp := fun vs H Q _ => ∃ (q v : Addr) (n : Nat) (D S U G X : List Int) (L : Int), vs = [.ref q, .int L, .ref v] ∧ PAt H q D S U G ∧ POk n D S U G ∧ 1 ≤ L ∧ L ≤ 9999 ∧ H v = some (.tup (X.map V.int)) ∧ X.length = n ∧
  ∀ H', Same H H' → Q (.int (LM.costTo L (LM.g D) (LM.g S) (LM.g U) (LM.g G) (LM.g X) n)) H'
theorem ok_truck {f : Addr} {fd : FuncData} (F : Fun K "_law_truck" "_law_truck" sTruck f fd) (Lb : Lib K mg) : FnOk P w K mg base CX0 2 f fd ["_law_problem_here", "_law_load", "_law_plan"] spTruck := by
  obtain ⟨fR, fdR, DR, GR⟩ := lRow (P := P) (w := w) (base := base) Lb
  refine F.ok scTruck (fun vs H Q E h => ?_) (fun cdv A outer s H vs Q E hr h => ?_)
  · obtain ⟨q, v, n, D, S, U, G, X, L, rfl, _⟩ := h
    rfl
  · obtain ⟨q, v, n, D, S, U, G, X, L, rfl, hp, ok, l1, l2, hv, hX, k⟩ := h
    refine ⟨_, pss_cons (ps_par (i := 3) (j := 4) (by rfl) scTruck.nd rfl rfl (by decide) rfl rfl (pa_cons (pe_call GR hr (by rfl) DR.g DR.F.kp DR.b .nil pass0 (pa_cons (pe_ix (r := rIxT K) ix_tup (pv 0) pe_int (fun _ _ => rfl)) (pa_cons (pv 2) pa_nil))) (pa_cons pe_int pa_nil)) (by rfl))
      (pss_cons (ps_for PassesOwn.never rfl (pi_range1 (by rfl) Lb.T.range (pa_cons (pe_callB (r := rLen K) call_len_seq (by rfl) Lb.T.len PySem.boot_len (pa_cons (pv 2) pa_nil)) pa_nil)) (pg_name (i := 5) scTruck.nd rfl (.inl rfl))
        (pss_cons (ps_set (i := 6) scTruck.nd rfl (Or.inl rfl) (pe_op op_fdiv (pe_op op_sub (pe_op op_add (pe_ix (r := rIxT K) ix_tup (pv 2) (pv 5) (fun _ _ => rfl)) (pv 1)) pe_int) (pv 1)))
        (pss_one (ps_set (i := 4) scTruck.nd rfl (Or.inl rfl) (pe_op op_add (pe_op op_add (pe_op op_add (pv 4)
            (pe_op op_mul (pe_ix (r := rIxT K) ix_tup (pe_ix (r := rIxT K) ix_tup (pv 0) pe_int (fun _ _ => rfl)) (pv 5) (fun _ _ => rfl)) (pv 6)))
            (pe_op op_mul (pe_ix (r := rIxT K) ix_tup (pe_ix (r := rIxT K) ix_tup (pv 0) pe_int (fun _ _ => rfl)) (pv 5) (fun _ _ => rfl)) (pe_ix (r := rIxT K) ix_tup (pv 2) (pv 5) (fun _ _ => rfl))))
            (pe_op op_mul (pe_ix (r := rIxT K) ix_tup (pe_ix (r := rIxT K) ix_tup (pv 0) pe_int (fun _ _ => rfl)) (pv 5) (fun _ _ => rfl)) (pe_ix (r := rIxL K) ix_list (pv 3) (pv 5) (fun _ _ => rfl))))))))
      (pss_one (ps_ret (pv 4)))), ?_⟩
    have ed := ok.d.len
    have n2 := ok.n2
    have Lp : 0 < L := by omega
    obtain ⟨d, s', u, g, hq, hd, hs, hu, hg⟩ := hp
    refine ⟨.ref q, rfl, q, _, 0, .ref d, rfl, rfl, sqt hq, atI_nat (j := 0) rfl, .ref v, rfl, d, v, D, X, rfl, hd, hv, by omega, by omega, fun H1 p s1 np hpl => ?_⟩
    refine ⟨.ref p, .int 0, rfl, ?_⟩
    refine ⟨.ref v, rfl, v, _, rfl, .inr (sqt (s1 _ _ hv)), _, rfl, by omega, by rw [List.length_map]; omega, ?_⟩
    have eN : (((X.map V.int).length : Nat) : Int).toNat = n := by rw [List.length_map]; omega
    refine for_it (walk_range (lo := 0) (n := (((X.map V.int).length : Nat) : Int).toNat))
      (fun i σ H' => Same H H' ∧ H' p = some (.lst ((LM.stkL D X X.length).map V.int)) ∧ ∃ y5 y6, σ = [some (.ref q), some (.int L), some (.ref v), some (.ref p), some (.int (LM.costTo L (LM.g D) (LM.g S) (LM.g U) (LM.g G) (LM.g X) i)), y5, y6])
      ⟨s1, hpl, _, _, rfl⟩ (fun _ _ _ _ _ => trivial) ?_ ?_
    · rintro i x σ H2 H3 hi ⟨s2, hp2, y5, y6, rfl⟩ ⟨rfl, ex⟩
      rw [eN] at hi
      obtain rfl : x = .int (i : Int) := ex.trans (congrArg V.int (by omega))
      have e3 : ((LM.stkL D X X.length).map V.int)[i]? = some (.int (LM.stk (LM.g D) (LM.g X) (i + 1))) := by
        rw [List.getElem?_map, LM.stkL_get (by omega)]; rfl
      refine ⟨.ref v, rfl, _, rfl, v, _, _, _, rfl, rfl, sqt (s2 _ _ hv), atI_nat (j := i) (geti (by omega)), _, rfl, _, _, rfl, rfl, _, _, rfl, rfl, _, rfl, _, _, rfl, rfl, ⟨Lp, by omega⟩, ?_⟩
      refine ⟨_, rfl, .ref q, rfl, q, _, 1, .ref s', rfl, rfl, sqt (s2 _ _ hq), atI_nat (j := 1) rfl, _, rfl, s', _, _, _, rfl, rfl, sqt (s2 _ _ hs), atI_nat (j := i) (geti (by rw [ok.s.len]; exact hi)), _, rfl, _, _, rfl, rfl, cmul_entry ok.s hi _, _, _, rfl, rfl, ?_⟩
      refine ⟨.ref q, rfl, q, _, 2, .ref u, rfl, rfl, sqt (s2 _ _ hq), atI_nat (j := 2) rfl, _, rfl, u, _, _, _, rfl, rfl, sqt (s2 _ _ hu), atI_nat (j := i) (geti (by rw [ok.u.len]; exact hi)), .ref v, rfl, _, rfl, v, _, _, _, rfl, rfl, sqt (s2 _ _ hv), atI_nat (j := i) (geti (by omega)), _, _, rfl, rfl, cmul_entry ok.u hi _, _, _, rfl, rfl, ?_⟩
      refine ⟨.ref q, rfl, q, _, 3, .ref g, rfl, rfl, sqt (s2 _ _ hq), atI_nat (j := 3) rfl, _, rfl, g, _, _, _, rfl, rfl, sqt (s2 _ _ hg), atI_nat (j := i) (geti (by rw [ok.g.len]; exact hi)), .ref p, rfl, _, rfl, p, _, _, _, rfl, rfl, sql hp2, atI_nat (j := i) e3, _, _, rfl, rfl, cmul_entry ok.g hi _, _, _, rfl, rfl, ?_⟩
      refine ⟨s2, hp2, some (.int (i : Int)), some (.int ((LM.g X i + L - 1) / L)), ?_⟩
      have ec : LM.costTo L (LM.g D) (LM.g S) (LM.g U) (LM.g G) (LM.g X) i + LM.g S i * ((LM.g X i + L - 1) / L) + LM.g U i * LM.g X i + LM.g G i * LM.stk (LM.g D) (LM.g X) (i + 1) = LM.costTo L (LM.g D) (LM.g S) (LM.g U) (LM.g G) (LM.g X) (i + 1) := by
        rw [LM.ld_law Lp]
        show _ = LM.costTo L (LM.g D) (LM.g S) (LM.g U) (LM.g G) (LM.g X) i + LM.cst L (LM.g D) (LM.g S) (LM.g U) (LM.g G) (LM.g X) i
        unfold LM.cst
        omega
      rw [← ec]
      rfl
    · rintro σ H2 ⟨s2, hp2, y5, y6, rfl⟩
      rw [eN]
      exact ⟨_, rfl, k _ s2⟩
theorem lTruck (L : Lib K mg) : ∃ f fd, Ok P w K mg base 2 "_law_truck" sTruck ["_law_problem_here", "_law_load", "_law_plan"] spTruck f fd := by
  obtain ⟨f, fd, D⟩ := L.truck
  exact ⟨f, fd, D, ok_truck D.F L⟩
/-! ### _law_odd_ones -/
def oddL (L : Int) (X : List Int) : List Bool := X.map fun x => !decide (V.int (x % L) = V.int 0)
theorem oddL_get {L : Int} {X : List Int} {i : Nat} (h : i < X.length) : ((oddL L X).map V.bl)[i]? = some (.bl (!decide (V.int (LM.g X i % L) = V.int 0))) := by
  unfold oddL LM.g
  rw [List.map_map, List.getElem?_map, List.getD_eq_getElem?_getD, List.getElem?_eq_getElem h]
  rfl
theorem scOddOnes : FnScope ["_law_demands", "_law_plan", "_law_is_odd", "_law_left", "_law_found", "_law_at"] ["_law_demands", "_law_plan", "_law_is_odd"] (defScope sOddOnes) := ⟨rfl, rfl, rfl, by decide +kernel, rfl, by decide +kernel, by decide +kernel⟩
def spOddOnes : Sp := fun vs H Q _ => ∃ (a b o : Addr) (D X : List Int) (L : Int), vs = [.ref a, .ref b, .ref o] ∧ H a = some (.tup (D.map V.int)) ∧ H b = some (.tup (X.map V.int)) ∧ H o = some (.lst ((oddL L X).map V.bl)) ∧ D.length = X.length ∧ X.length ≤ 12 ∧
  ∀ H', Same H H' → Q (.bl (LM.isLoaded L D X)) H'
/-- 1 if is_odd[at] else 0, as a number -/
def tOdd (K : PySem.W.Frag) : TE := fun σ H Q => ∃ (o : Addr) (bs : List Bool) (i : Nat) (b : Bool), σ[2]? = some (some (.ref o)) ∧ σ[5]? = some (some (.int (i : Int))) ∧ H o = some (.lst (bs.map V.bl)) ∧ (bs.map V.bl)[i]? = some (.bl b) ∧ Q (.int (if b = true then 1 else 0)) H
theorem tOdd_ok (K : PySem.W.Frag) : ∀ σ H Q, tOdd K σ H Q → (tIf (tB (tOp (rIxL K) (tVar 2) (tVar 5))) (tC (.int 1)) (tC (.int 0))) σ H Q := by
  rintro σ H Q ⟨o, bs, i, b, h1, h2, h3, h4, k⟩
  refine ⟨_, h1, _, h2, o, _, _, _, rfl, rfl, sql h3, atI_nat (j := i) h4, b, rfl, ?_⟩
  cases b with
  | true => exact iteT k
  | false => exact iteF k
/-- 0 if left[at] == 0 else found -/
def tZero (K : PySem.W.Frag) : TE := fun σ H Q => ∃ (p : Addr) (ys : List Int) (i : Nat) (y c : Int), σ[3]? = some (some (.ref p)) ∧ σ[5]? = some (some (.int (i : Int))) ∧ σ[4]? = some (some (.int c)) ∧ H p = some (.lst (ys.map V.int)) ∧ (ys.map V.int)[i]? = some (.int y) ∧ Q (.int (if y = 0 then 0 else c)) H
theorem tZero_ok (K : PySem.W.Frag) : ∀ σ H Q, tZero K σ H Q → (tIf (tTest (tOp rEq (tOp (rIxL K) (tVar 3) (tVar 5)) (tC (.int 0)))) (tC (.int 0)) (tVar 4)) σ H Q := by
  rintro σ H Q ⟨p, ys, i, y, c, h1, h2, h3, h4, h5, k⟩
  refine ⟨_, h1, _, h2, p, _, _, _, rfl, rfl, sql h4, atI_nat (j := i) h5, rfl, _, rfl, ite2 (fun e => ?_) (fun e => ?_)⟩
  · have : y = 0 := V.int.inj (of_decide_eq_true e)
    rw [if_pos this] at k
    exact k
  · have : ¬ y = 0 := fun q => e (decide_eq_true (congrArg V.int q))
    rw [if_neg this] at k
    exact ⟨_, h3, k⟩
theorem ok_oddOnes {f : Addr} {fd : FuncData} (F : Fun K "_law_odd_ones" "_law_odd_ones" sOddOnes f fd) (Lb : Lib K mg) : FnOk P w K mg base CX0 2 f fd ["_law_demands", "_law_plan", "_law_is_odd"] spOddOnes := by
  obtain ⟨fR, fdR, DR, GR⟩ := lRow (P := P) (w := w) (base := base) Lb
  refine F.ok scOddOnes (fun vs H Q E h => ?_) (fun cdv A outer s H vs Q E hr h => ?_)
  · obtain ⟨a, b, o, D, X, L, rfl, _⟩ := h
    rfl
  · obtain ⟨a, b, o, D, X, L, rfl, ha, hb, ho, hl, hle, k⟩ := h
    refine ⟨_, pss_cons (ps_par (i := 3) (j := 4) (by rfl) scOddOnes.nd rfl rfl (by decide) rfl rfl (pa_cons (pe_call GR hr (by rfl) DR.g DR.F.kp DR.b .nil pass0 (pa_cons (pv 0) (pa_cons (pv 1) pa_nil))) (pa_cons pe_int pa_nil)) (by rfl))
      (pss_cons (ps_for PassesOwn.never rfl (pi_range1 (by rfl) Lb.T.range (pa_cons (pe_callB (r := rLen K) call_len_seq (by rfl) Lb.T.len PySem.boot_len (pa_cons (pv 1) pa_nil)) pa_nil)) (pg_name (i := 5) scOddOnes.nd rfl (.inl rfl))
        (pss_cons (ps_set (i := 4) scOddOnes.nd rfl (Or.inl rfl) (pe_op op_add (pv 4) (PE.imp (pe_ifExp (pt_val (pe_ix (r := rIxL K) ix_list (pv 2) (pv 5) (fun _ _ => rfl))) pe_int pe_int) (tOdd_ok K))))
        (pss_cons (ps_if (pt_cmpR op_gt (pv 4) pe_int (nomark _)) (pss_one (ps_ret pe_bl)) pss_nil)
        (pss_one (ps_set (i := 4) scOddOnes.nd rfl (Or.inl rfl) (PE.imp (pe_ifExp (pt_cmpR op_eq (pe_ix (r := rIxL K) ix_list (pv 3) (pv 5) (fun _ _ => rfl)) pe_int (nomark _)) pe_int (pv 4)) (tZero_ok K)))))))
      (pss_one (ps_ret pe_bl))), ?_⟩
    refine ⟨.ref a, rfl, .ref b, rfl, a, b, D, X, rfl, ha, hb, hl, by omega, fun H1 p s1 np hpl => ?_⟩
    refine ⟨.ref p, .int 0, rfl, ?_⟩
    refine ⟨.ref b, rfl, b, _, rfl, .inr (sqt (s1 _ _ hb)), _, rfl, by omega, by rw [List.length_map]; omega, ?_⟩
    have eN : (((X.map V.int).length : Nat) : Int).toNat = X.length := by rw [List.length_map]; omega
    refine for_it (walk_range (lo := 0) (n := (((X.map V.int).length : Nat) : Int).toNat))
      (fun i σ H' => Same H H' ∧ H' p = some (.lst ((LM.stkL D X X.length).map V.int)) ∧ ∃ c y5, LM.oddRun L (LM.g D) (LM.g X) i = some c ∧ σ = [some (.ref a), some (.ref b), some (.ref o), some (.ref p), some (.int c), y5])
      ⟨s1, hpl, 0, _, rfl, rfl⟩ (fun _ _ _ _ _ => trivial) ?_ ?_
    · rintro i x σ H2 H3 hi ⟨s2, hp2, c, y5, hc, rfl⟩ ⟨rfl, ex⟩
      rw [eN] at hi
      obtain rfl : x = .int (i : Int) := ex.trans (congrArg V.int (by omega))
      have e3 : ((LM.stkL D X X.length).map V.int)[i]? = some (.int (LM.stk (LM.g D) (LM.g X) (i + 1))) := by
        rw [List.getElem?_map, LM.stkL_get hi]; rfl
      have step := oddStep L D X i c hc
      have ez : (if (!decide (V.int (LM.g X i % L) = V.int 0)) = true then (1 : Int) else 0) = (if LM.g X i % L ≠ 0 then 1 else 0) := by
        by_cases q : LM.g X i % L = 0
        · rw [if_neg (by rw [q]; simp), if_neg (by simp [q])]
        · rw [if_pos, if_pos q]
          rw [decide_eq_false (fun w => q (V.int.inj w))]
          rfl
      refine ⟨_, rfl, o, oddL L X, i, _, rfl, rfl, s2 _ _ ho, oddL_get hi, _, _, rfl, rfl, ?_⟩
      refine ⟨_, rfl, _, _, rfl, rfl, _, rfl, ite2 (fun g1 => ?_) (fun g1 => ?_)⟩
      · have g2 := of_decide_eq_true g1
        rw [ez] at g2
        rw [if_pos g2] at step
        have := LM.oddRun_none step X.length (by omega)
        have e : LM.isLoaded L D X = false := by unfold LM.isLoaded; rw [this]; rfl
        have := k _ s2
        rw [e] at this
        exact this
      · have g2 : ¬ (1 < c + (if (!decide (V.int (LM.g X i % L) = V.int 0)) = true then (1 : Int) else 0)) := fun q => g1 (decide_eq_true q)
        refine ⟨p, LM.stkL D X X.length, i, _, _, rfl, rfl, rfl, hp2, e3, s2, hp2, _, _, ?_, rfl⟩
        rw [ez] at g2
        rw [if_neg g2] at step
        rw [step, ez]
    · rintro σ H2 ⟨s2, hp2, c, y5, hc, rfl⟩
      rw [eN] at hc
      have e : LM.isLoaded L D X = true := by unfold LM.isLoaded; rw [hc]; rfl
      have := k _ s2
      rw [e] at this
      exact this
theorem lOddOnes (L : Lib K mg) : ∃ f fd, Ok P w K mg base 2 "_law_odd_ones" sOddOnes ["_law_demands", "_law_plan", "_law_is_odd"] spOddOnes f fd := by
  obtain ⟨f, fd, D⟩ := L.oddOnes
  exact ⟨f, fd, D, ok_oddOnes D.F L⟩
end
end TW

namespace TW
open PySem PySem.Spec PyProof.Rows L2 TK
theorem PlanL.of_beg {D x : List Int} (b : LM.Beg D D.length x) : PlanL D x := by
  refine ⟨b.len, b.nn, ⟨fun i hi => b.nn _ (g_in (by rw [b.len]; exact hi)), fun k hk => ?_, ?_⟩⟩
  · have := b.stk k hk
    unfold LM.stk; omega
  · have h1 := b.stk D.length (Nat.le_refl _)
    have h2 := b.top
    rw [LM.sum_all] at h2
    unfold LM.stk; omega
theorem PlanL.beg {D x : List Int} (p : PlanL D x) : LM.Beg D D.length x := by
  refine ⟨p.len, p.nn, fun j hj => ?_, ?_⟩
  · have := p.plan.stk j hj
    unfold LM.stk at this; omega
  · have := p.plan.fin
    rw [LM.sum_all]
    unfold LM.stk at this; omega
section
variable {P : Program} {w : World} {K : PySem.W.Frag} {mg : Str → Option Value} {base : Heap}
/-! ### _law_alike, of ints and of bools -/
theorem scAlike : FnScope ["_law_found", "_law_due", "_law_k"] ["_law_found", "_law_due"] (defScope sAlike) := ⟨rfl, rfl, rfl, by decide +kernel, rfl, by decide +kernel, by decide +kernel⟩
def spAlike : Sp := fun vs H Q _ => (∃ i j : Int, vs = [.int i, .int j] ∧ ∀ H', Same H H' → Q (.bl (decide (i = j))) H') ∨ ∃ a b : Bool, vs = [.bl a, .bl b] ∧ ∀ H', Same H H' → Q (.bl (decide (a = b))) H'
theorem ok_alike {f : Addr} {fd : FuncData} (F : Fun K "_law_alike" "_law_alike" sAlike f fd) (T : Tb mg) : FnOk P w K mg base CX0 1 f fd ["_law_found", "_law_due"] spAlike := by
  refine F.ok scAlike (fun vs H Q E h => ?_) (fun cdv A outer s H vs Q E hr h => ?_)
  · rcases h with ⟨i, j, rfl, _⟩ | ⟨i, j, rfl, _⟩ <;> rfl
  · refine ⟨_, pss_cons (ps_if (pt_val (pe_callB (r := rIsiT K) call_isiT (by rfl) T.isinstance bt_isinstance (pa_cons (pv 1) (pa_cons (pe_tup (pa_cons (pe_bltn (v := .ty "tuple") (by rfl) T.tuple (by decide +kernel) rfl) (pa_cons (pe_bltn (v := .ty "list") (by rfl) T.list (by decide +kernel) rfl) pa_nil))) pa_nil))))
        (pss_cons ps_never (pss_cons ps_never (pss_one ps_never))) pss_nil)
      (pss_cons (ps_if (PW.pt (pw_or (pt_cmp (pc_isN (pv 1))) (pw_or1 (pt_val (pe_callB (r := rIsi K) call_isi (by rfl) T.isinstance bt_isinstance (pa_cons (pv 1) (pa_cons (pe_bltn (v := .ty "str") (by rfl) T.str (by decide +kernel) rfl) pa_nil)))))))
        (pss_one ps_never) pss_nil)
      (pss_one (ps_ret (pe_and (pe_callB (r := rIsi K) call_isi (by rfl) T.isinstance bt_isinstance (pa_cons (pv 0) (pa_cons (pe_bltn (v := .ty "int") (by rfl) T.int (by decide +kernel) rfl) pa_nil)))
        (pe_and (pe_cmpR op_eq (pe_callB (r := rIsi K) call_isi (by rfl) T.isinstance bt_isinstance (pa_cons (pv 0) (pa_cons (pe_bltn (v := .ty "bool") (by rfl) T.bool (by decide +kernel) rfl) pa_nil))) (pe_callB (r := rIsi K) call_isi (by rfl) T.isinstance bt_isinstance (pa_cons (pv 1) (pa_cons (pe_bltn (v := .ty "bool") (by rfl) T.bool (by decide +kernel) rfl) pa_nil))) (nomark _))
          (pe_one (pe_cmpR op_eq (pv 0) (pv 1) (nomark _)))))))), ?_⟩
    rcases h with ⟨i, j, rfl, k⟩ | ⟨i, j, rfl, k⟩
    · refine ⟨_, rfl, by show 2 ≤ sizeLine; decide, fun tp np => ?_⟩
      refine ⟨.int j, tp, [.ty "tuple", .ty "list"], .type "int", [.type "tuple", .type "list"], false, rfl, upd_same, .cons (.ty _) (.cons (.ty _) .nil), .base (.int j),
        kitAny_cons (b := false) (kit_ty (by decide +kernel)) (fun _ => kitAny_cons (b := false) (kit_ty (by decide +kernel)) (fun _ => kitAny_nil) (fun e => by cases e)) (fun e => by cases e), false, rfl, iteF ?_⟩
      refine ⟨_, rfl, false, rfl, iteF ⟨_, rfl, .int j, .ty "str", .type "int", .type "str", false, rfl, .ty _, .base (.int j), kit_ty (by decide +kernel), false, rfl, iteF ?_⟩⟩
      refine ⟨_, rfl, .int i, .ty "int", .type "int", .type "int", true, rfl, .ty _, .base (.int i), kit_ty (by decide +kernel), true, rfl, iteT ?_⟩
      refine ⟨_, rfl, .int i, .ty "bool", .type "int", .type "bool", false, rfl, .ty _, .base (.int i), kit_ty (by decide +kernel), _, rfl, .int j, .ty "bool", .type "int", .type "bool", false, rfl, .ty _, .base (.int j), kit_ty (by decide +kernel), rfl, true, rfl, iteT ?_⟩
      refine ⟨_, rfl, _, rfl, rfl, ?_⟩
      have e : decide (V.int i = V.int j) = decide (i = j) := by
        by_cases q : i = j
        · rw [q, decide_eq_true rfl, decide_eq_true rfl]
        · rw [decide_eq_false q, decide_eq_false fun z => q (V.int.inj z)]
      rw [e]
      exact k _ (same_upd np)
    · refine ⟨_, rfl, by show 2 ≤ sizeLine; decide, fun tp np => ?_⟩
      refine ⟨.bl j, tp, [.ty "tuple", .ty "list"], .type "bool", [.type "tuple", .type "list"], false, rfl, upd_same, .cons (.ty _) (.cons (.ty _) .nil), .base (.bl j),
        kitAny_cons (b := false) (kit_ty (by decide +kernel)) (fun _ => kitAny_cons (b := false) (kit_ty (by decide +kernel)) (fun _ => kitAny_nil) (fun e => by cases e)) (fun e => by cases e), false, rfl, iteF ?_⟩
      refine ⟨_, rfl, false, rfl, iteF ⟨_, rfl, .bl j, .ty "str", .type "bool", .type "str", false, rfl, .ty _, .base (.bl j), kit_ty (by decide +kernel), false, rfl, iteF ?_⟩⟩
      refine ⟨_, rfl, .bl i, .ty "int", .type "bool", .type "int", true, rfl, .ty _, .base (.bl i), kit_ty (by decide +kernel), true, rfl, iteT ?_⟩
      refine ⟨_, rfl, .bl i, .ty "bool", .type "bool", .type "bool", true, rfl, .ty _, .base (.bl i), kit_ty (by decide +kernel), _, rfl, .bl j, .ty "bool", .type "bool", .type "bool", true, rfl, .ty _, .base (.bl j), kit_ty (by decide +kernel), rfl, true, rfl, iteT ?_⟩
      refine ⟨_, rfl, _, rfl, rfl, ?_⟩
      have e : decide (V.bl i = V.bl j) = decide (i = j) := by
        cases i <;> cases j <;> rfl
      rw [e]
      exact k _ (same_upd np)
theorem lAlike (L : Lib K mg) : ∃ f fd, Ok P w K mg base 1 "_law_alike" sAlike ["_law_found", "_law_due"] spAlike f fd := by
  obtain ⟨f, fd, D⟩ := L.alike
  exact ⟨f, fd, D, ok_alike D.F L.T⟩
end
end TW

namespace TW
open PySem PySem.Spec PyProof.Rows L2 TK
section
variable {P : Program} {w : World} {K : PySem.W.Frag} {mg : Str → Option Value} {base : Heap}
/-! ### _law_all_plans -/
theorem scAllPlans : FnScope ["_law_demands", "_law_whole", "_law_plans", "_law_at", "_law_more", "_law_need", "_law_told", "_law_amount"] ["_law_demands"] (defScope sAllPlans) := ⟨rfl, rfl, rfl, by decide +kernel, rfl, by decide +kernel, by decide +kernel⟩
/-- every address tells a list of which T is true -/
def Tell (H : Hp) (as : List Addr) (T : List Int → Prop) : Prop := ∀ c ∈ as, ∃ x, H c = some (.tup (x.map V.int)) ∧ T x
def Told (H : Hp) (as : List Addr) (x : List Int) : Prop := ∃ c ∈ as, H c = some (.tup (x.map V.int))
theorem Tell.mono {H H' : Hp} {as : List Addr} {T : List Int → Prop} (h : Tell H as T) (s : TupSub H H') : Tell H' as T := fun c hc => let ⟨x, h1, h2⟩ := h c hc; ⟨x, s _ _ h1, h2⟩
theorem Told.mono {H H' : Hp} {as : List Addr} {x : List Int} (h : Told H as x) (s : TupSub H H') : Told H' as x := let ⟨c, h1, h2⟩ := h; ⟨c, h1, s _ _ h2⟩
theorem Told.left {H : Hp} {as bs : List Addr} {x : List Int} (h : Told H as x) : Told H (as ++ bs) x := let ⟨c, h1, h2⟩ := h; ⟨c, List.mem_append_left _ h1, h2⟩
theorem Told.right {H : Hp} {as bs : List Addr} {x : List Int} (h : Told H bs x) : Told H (as ++ bs) x := let ⟨c, h1, h2⟩ := h; ⟨c, List.mem_append_right _ h1, h2⟩
theorem Tell.app {H : Hp} {as bs : List Addr} {T : List Int → Prop} (h : Tell H as T) (h' : Tell H bs T) : Tell H (as ++ bs) T := fun c hc => (List.mem_append.mp hc).elim (h c) (h' c)
def spAllPlans : Sp := fun vs H Q _ => ∃ (a : Addr) (D : List Int), vs = [.ref a] ∧ H a = some (.tup (D.map V.int)) ∧ D.length ≤ 4 ∧ (∀ x ∈ D, 0 ≤ x ∧ x ≤ 3) ∧
  ∀ H' p as, Same H H' → H p = none → H' p = some (.lst (as.map V.ref)) → as.length ≤ 28561 → Tell H' as (PlanL D) → (∀ x, PlanL D x → Told H' as x) → Q (.ref p) H'
theorem sum_le3 : ∀ D : List Int, (∀ x ∈ D, 0 ≤ x ∧ x ≤ 3) → 0 ≤ D.sum ∧ D.sum ≤ 3 * (D.length : Int)
  | [], _ => by simp
  | d :: D, h => by
    have := sum_le3 D fun x hx => h x (by simp [hx])
    have := h d (by simp)
    simp only [List.sum_cons, List.length_cons]
    omega
theorem cut_first (D : List Int) {k : Nat} (h : k + 1 ≤ D.length) : cutV (D.map V.int) none (some ((k : Int) + 1)) = ((D.take (k + 1)).map V.int) := by
  unfold cutV
  rw [HT.sIx_none, show ((k : Int) + 1) = ((k + 1 : Nat) : Int) by omega, HT.sIx_nat, List.length_map, show min (k + 1) D.length = k + 1 by omega, List.drop_zero, List.map_take]
  rfl
theorem pow13 : ∀ k, k ≤ 4 → 13 ^ k ≤ 28561 := by decide
theorem ok_allPlans {f : Addr} {fd : FuncData} (F : Fun K "_law_all_plans" "_law_all_plans" sAllPlans f fd) (T : Tb mg) : FnOk P w K mg base CX0 1 f fd ["_law_demands"] spAllPlans := by
  refine F.ok scAllPlans (fun vs H Q E h => ?_) (fun cdv A outer s H vs Q E hr h => ?_)
  · obtain ⟨a, D, rfl, _⟩ := h
    rfl
  · obtain ⟨a, D, rfl, ha, hl, hx, q⟩ := h
    refine ⟨_, pss_cons (ps_par (i := 1) (j := 2) (by rfl) scAllPlans.nd rfl rfl (by decide) rfl rfl (pa_cons (pe_callB (r := rSumT K) (cr_sumT rfl) (by rfl) T.sum bt_sum (pa_cons (pv 0) pa_nil)) (pa_cons (pe_lst (pa_cons (pe_tup pa_nil) pa_nil)) pa_nil)) (by rfl))
      (pss_cons (ps_for PassesOwn.never rfl (pi_range1 (by rfl) T.range (pa_cons (pe_callB (r := rLen K) call_len_seq (by rfl) T.len PySem.boot_len (pa_cons (pv 0) pa_nil)) pa_nil)) (pg_name (i := 3) scAllPlans.nd rfl (.inl rfl))
        (pss_cons (ps_par (i := 4) (j := 5) (by rfl) scAllPlans.nd rfl rfl (by decide) rfl rfl (pa_cons (pe_lst pa_nil) (pa_cons (pe_callB (r := rSumT K) (cr_sumT rfl) (by rfl) T.sum bt_sum (pa_cons (pe_slice sl_tupS (pv 0) po_none (po_some (pe_op op_add (pv 3) pe_int))) pa_nil)) pa_nil)) (by rfl))
        (pss_cons (ps_for PassesOwn.never rfl (pi_list (pv 2)) (pg_name (i := 6) scAllPlans.nd rfl (.inr rfl))
          (pss_one (ps_set (i := 4) scAllPlans.nd rfl (Or.inl rfl) (pe_op op_cat (pv 4) (pe_lc (own := [("_law_amount", 7)]) (g := gName 7) (tt := tYes) rfl scAllPlans.nd
            (pi_range2 (by rfl) T.range (pa_cons (pe_callB (call_max2 rfl) (by rfl) T.max bt_max (pa_cons pe_int (pa_cons (pe_op op_sub (pv 5) (pe_callB (r := rSumT K) (cr_sumT rfl) (by rfl) T.sum bt_sum (pa_cons (pv 6) pa_nil))) pa_nil)))
              (pa_cons (pe_op op_add (pe_op op_sub (pv 1) (pe_callB (r := rSumT K) (cr_sumT rfl) (by rfl) T.sum bt_sum (pa_cons (pv 6) pa_nil))) pe_int) pa_nil)))
            (blkOk_by (N := ["_law_demands", "_law_whole", "_law_plans", "_law_at", "_law_more", "_law_need", "_law_told", "_law_amount"]) (sc := defScope sAllPlans) (by decide +kernel))
            (fun _ _ _ _ _ => pg_name (i := 7) scAllPlans.nd rfl (Or.inl rfl)) (fun _ _ _ _ _ => pts_nil) (fun _ _ _ _ _ => pe_op op_catS (pv 6) (pe_tup (pa_cons (pv 7) pa_nil))))))))
        (pss_one (ps_set (i := 2) scAllPlans.nd rfl (Or.inl rfl) (pv 4))))))
      (pss_one (ps_ret (pv 2)))), ?_⟩
    obtain ⟨S0, S1⟩ := sum_le3 D hx
    have S2 : D.sum ≤ 12 := by omega
    -- whole, plans = sum(demands), [()]
    refine ⟨.ref a, rfl, a, D, rfl, sqt ha, Nat.zero_le _, fun pe npe => ⟨by show 1 ≤ sizeLine; decide, fun pl npl => ⟨_, _, rfl, ?_⟩⟩⟩
    have s1 := same_upd (o := .tup []) npe
    have s2 := same_upd (o := .lst [.ref pe]) npl
    have hpe : upd (upd H pe (.tup [])) pl (.lst [.ref pe]) pe = some (.tup []) := s2 _ _ upd_same
    have hpl : upd (upd H pe (.tup [])) pl (.lst [.ref pe]) pl = some (.lst [.ref pe]) := upd_same
    have npl0 : H pl = none := s1.free npl
    have s12 := s1.trans s2
    generalize eH1 : upd (upd H pe (.tup [])) pl (.lst [.ref pe]) = H1 at *
    refine ⟨.ref a, rfl, a, _, rfl, .inr (sqt (s12 _ _ ha)), _, rfl, by omega, by rw [List.length_map]; omega, ?_⟩
    have eN : (((D.map V.int).length : Nat) : Int).toNat = D.length := by rw [List.length_map]; omega
    refine for_it (walk_range (lo := 0) (n := (((D.map V.int).length : Nat) : Int).toNat))
      (fun k σ H' => Same H H' ∧ ∃ (pl : Addr) (as : List Addr) (y3 y4 y5 y6 y7 : Option V), σ = [some (.ref a), some (.int D.sum), some (.ref pl), y3, y4, y5, y6, y7] ∧ H pl = none ∧ H' pl = some (.lst (as.map V.ref)) ∧
        as.length ≤ 13 ^ k ∧ Tell H' as (LM.Beg D k) ∧ ∀ x, LM.Beg D k x → Told H' as x)
      ⟨s12, pl, [pe], none, none, none, none, none, rfl, npl0, hpl, (by show 1 ≤ 1; exact Nat.le_refl _), fun c hc => ?_, fun x b => ?_⟩ (fun _ _ _ _ _ => trivial) ?_ ?_
    · rw [List.mem_singleton] at hc
      subst hc
      exact ⟨[], hpe, LM.Beg.nil D S0⟩
    · have : x = [] := List.length_eq_zero_iff.mp b.len
      subst this
      exact ⟨pe, by simp, hpe⟩
    · -- one period
      rintro k x σ H2 H3 hk ⟨s2, pl, as, y3, y4, y5, y6, y7, rfl, npl, hpl, las, tell, told⟩ ⟨rfl, ex⟩
      rw [eN] at hk
      obtain rfl : x = .int (k : Int) := ex.trans (congrArg V.int (by omega))
      have pk := pow13 k (by omega)
      refine ⟨Nat.zero_le _, fun mo nmo => ?_⟩
      have s3 := same_upd (o := .lst []) nmo
      have nmo0 : H mo = none := s2.free nmo
      have hmo : upd H3 mo (.lst []) mo = some (.lst []) := upd_same
      generalize eH4 : upd H3 mo (.lst []) = H4 at *
      have s4 := s2.trans s3
      refine ⟨.ref a, rfl, _, rfl, _, _, rfl, rfl, _, rfl, a, _, rfl, s4 _ _ ha, fun ps H5 s5 hps => ?_⟩
      have e5 : cutV (D.map V.int) none (some ((k : Int) + 1)) = ((D.take (k + 1)).map V.int) := cut_first D (by omega)
      have hps' : H5 ps = some (.tup ((D.take (k + 1)).map V.int)) := by rw [← e5]; exact hps
      refine ⟨ps, _, rfl, sqt hps', .ref mo, .int (D.take (k + 1)).sum, rfl, ?_⟩
      rw [LM.sum_take D (k + 1) (by omega)]
      have s05 := s4.trans s5
      have tell5 := tell.mono (s3.trans s5).tups
      have hpl5 : H5 pl = some (.lst (as.map V.ref)) := s5 _ _ (s3 _ _ hpl)
      refine ⟨.ref pl, rfl, pl, rfl, ⟨_, sql hpl5⟩, for_it (walk_list (K := K) (a := pl) (xs := as.map V.ref))
        (fun i σ H' => Same H H' ∧ Same H3 H' ∧ ∃ (mo : Addr) (bs : List Addr) (y6 y7 : Option V), σ = [some (.ref a), some (.int D.sum), some (.ref pl), some (.int (k : Int)), some (.ref mo), some (.int (LM.sumTo (LM.g D) (k + 1))), y6, y7] ∧
          H mo = none ∧ H3 mo = none ∧ H' mo = some (.lst (bs.map V.ref)) ∧ bs.length ≤ i * 13 ∧ Tell H' bs (LM.Beg D (k + 1)) ∧
          ∀ j c x y, j < i → as[j]? = some c → H3 c = some (.tup (x.map V.int)) → 0 ≤ y → LM.sumTo (LM.g D) (k + 1) - LM.sumTo (LM.g x) k ≤ y → y ≤ D.sum - LM.sumTo (LM.g x) k → Told H' bs (x ++ [y]))
        ⟨s05, s3.trans s5, mo, [], _, _, rfl, nmo0, nmo, s5 _ _ hmo, by simp, (fun c hc => by cases hc), fun j c x y hj => by omega⟩ (fun i σ H' _ h => sql (h.2.1 _ _ hpl)) ?_ ?_⟩
      · -- one plan's beginning
        rintro i v σ H6 H7 hi ⟨s6, t6, mo, bs, y6, y7, rfl, nmo, nmo3, hmo, lbs, tb, cov⟩ ⟨rfl, ev⟩
        rw [List.length_map] at hi
        obtain ⟨c, hc⟩ : ∃ c, as[i]? = some c := ⟨_, List.getElem?_eq_getElem hi⟩
        have ev' : (as.map V.ref)[i]? = some v := ev
        rw [List.getElem?_map, hc] at ev'
        cases ev'
        obtain ⟨x, hcx, bx⟩ := tell c (List.mem_of_getElem? hc)
        have hcx7 : H7 c = some (.tup (x.map V.int)) := t6 _ _ hcx
        have sx : x.sum = LM.sumTo (LM.g x) k := by rw [LM.sum_all, bx.len]
        have x0 := LM.sumTo_nonneg (LM.g_nonneg bx.nn) k
        have xt := bx.top
        have dk0 : LM.sumTo (LM.g D) (k + 1) ≤ D.sum := by
          rw [LM.sum_all D]
          exact LM.sumTo_mono (LM.g_nonneg fun z hz => (hx z hz).1) (by omega)
        have dk1 := LM.sumTo_nonneg (LM.g_nonneg fun z hz => (hx z hz).1) (k + 1)
        -- the lowest amount
        obtain ⟨lo, elo, lo0, lo1, lo2⟩ : ∃ lo : Int, lo = (if LM.sumTo (LM.g D) (k + 1) - x.sum > 0 then LM.sumTo (LM.g D) (k + 1) - x.sum else 0) ∧ 0 ≤ lo ∧ LM.sumTo (LM.g D) (k + 1) - LM.sumTo (LM.g x) k ≤ lo ∧ ∀ y, 0 ≤ y → LM.sumTo (LM.g D) (k + 1) - LM.sumTo (LM.g x) k ≤ y → lo ≤ y := by
          refine ⟨_, rfl, ?_, ?_, fun y h1 h2 => ?_⟩
          · split <;> omega
          · rw [sx]; split <;> omega
          · rw [sx]; split <;> omega
        have lo3 : lo ≤ 12 := lo2 12 (by omega) (by omega)
        refine ⟨.ref mo, rfl, _, rfl, .ref c, rfl, c, x, rfl, sqt hcx7, _, _, rfl, rfl, 0, _, rfl, _, rfl, .ref c, rfl, c, x, rfl, sqt hcx7, _, _, rfl, rfl, _, _, rfl, rfl, _, _, rfl, ?_⟩
        rw [← elo]
        refine ⟨⟨by omega, by omega, by omega, by omega⟩, fun C nC => lc_range (lo := lo) (n := (D.sum - x.sum + 1 - lo).toNat)
          (fun t H' => Same H H' ∧ Same H7 H' ∧ ∃ cs : List Addr, H' C = some (.lst (cs.map V.ref)) ∧ cs.length = t ∧ Tell H' cs (LM.Beg D (k + 1)) ∧ ∀ t' : Nat, t' < t → Told H' cs (x ++ [lo + (t' : Int)]))
          ⟨s6.trans (same_upd nC), same_upd nC, [], upd_same, rfl, fun c hc => (by cases hc), fun t' h => by omega⟩ ?_ ?_⟩
        · rintro t H8 ht ⟨s8, t8, cs, hC, lcs, tcs, ccs⟩
          refine ⟨rfl, yesT ?_⟩
          refine ⟨.ref c, rfl, _, rfl, by show 1 ≤ sizeLine; decide, fun p1 np1 => ?_⟩
          have s9 := same_upd (o := .tup [.int (lo + (t : Int))]) np1
          refine ⟨c, p1, _, _, rfl, rfl, s9 _ _ (t8 _ _ hcx7), upd_same, ?_, fun p2 H10 s10 hp2 => ?_⟩
          · rw [List.length_map, bx.len, sizeLine_eq]
            show k + 1 ≤ _
            omega
          have hp2' : H10 p2 = some (.tup ((x ++ [lo + (t : Int)]).map V.int)) := by rw [List.map_append]; exact hp2
          have t10 := s9.trans s10
          have hC10 : H10 C = some (.lst (cs.map V.ref)) := t10 _ _ hC
          have tC : TupSub H10 (upd H10 C (.lst (cs.map V.ref ++ [.ref p2]))) := fun b zs e => by
            rw [upd_ne (ne_of e hC10 (fun z => nomatch z))]; exact e
          refine ⟨_, hC10, ?_, same_list (s8.trans t10) (s6.free nC), same_list (t8.trans t10) nC, cs ++ [p2], by rw [upd_same, List.map_append]; rfl, by rw [List.length_append, lcs]; rfl, ?_, fun t' ht' => ?_⟩
          · rw [List.length_map, lcs]; exact small1000 (by omega)
          · refine ((tcs.mono t10.tups).mono tC).app fun b hb => ?_
            rw [List.mem_singleton] at hb
            subst hb
            exact ⟨_, tC _ _ hp2', bx.snoc (by omega) (by omega) (by omega)⟩
          · by_cases e : t' = t
            · subst e
              exact Told.right ⟨p2, by simp, tC _ _ hp2'⟩
            · exact (((ccs t' (by omega)).mono t10.tups).mono tC).left
        · rintro H8 ⟨s8, t8, cs, hC, lcs, tcs, ccs⟩
          have hmo8 : H8 mo = some (.lst (bs.map V.ref)) := t8 _ _ hmo
          have i13 : bs.length + cs.length ≤ (i + 1) * 13 := by omega
          refine ⟨mo, C, _, _, rfl, rfl, hmo8, hC, ?_, fun m2 nm2 => ?_⟩
          · rw [List.length_map, List.length_map, sizeLine_eq]; omega
          have s9 := same_upd (o := .lst (bs.map V.ref ++ cs.map V.ref)) nm2
          refine ⟨s8.trans s9, (t6.trans t8).trans s9, m2, bs ++ cs, _, _, rfl, s8.free nm2, (t6.trans t8).free nm2, by rw [upd_same, List.map_append], by rw [List.length_append]; exact i13, ((tb.mono t8.tups).mono s9.tups).app (tcs.mono s9.tups), fun j c' x' y hj hcj hcx' y0 y1 y2 => ?_⟩
          by_cases e : j = i
          · subst e
            rw [hc] at hcj
            cases hcj
            rw [hcx] at hcx'
            injection hcx' with h1
            injection h1 with h1
            have ex' := map_int_inj h1
            subst ex'
            have ly := lo2 y y0 y1
            have := ccs (y - lo).toNat (by omega)
            rw [show lo + ((y - lo).toNat : Int) = y by omega] at this
            exact (this.mono s9.tups).right
          · exact (((cov j c' x' y (by omega) hcj hcx' y0 y1 y2).mono t8.tups).mono s9.tups).left
      · -- plans = more
        rintro σ H6 ⟨s6, t6, mo, bs, y6, y7, rfl, nmo, nmo3, hmo, lbs, tb, cov⟩
        rw [List.length_map] at lbs cov
        refine ⟨.ref mo, rfl, s6, mo, bs, _, _, _, _, _, rfl, nmo, hmo, ?_, tb, fun z bz => ?_⟩
        · rw [Nat.pow_succ]
          exact Nat.le_trans lbs (Nat.mul_le_mul_right 13 las)
        · obtain ⟨x, y, rfl, bx, y0, y1, y2⟩ := bz.inv
          obtain ⟨c, hc, hcx⟩ := told x bx
          obtain ⟨j, hj, hcj⟩ := List.getElem_of_mem hc
          exact cov j c x y hj (by rw [List.getElem?_eq_getElem hj, hcj]) hcx y0 y1 y2
    · -- return plans
      rintro σ H2 ⟨s2, pl, as, y3, y4, y5, y6, y7, rfl, npl, hpl, las, tell, told⟩
      rw [eN] at las tell told
      refine ⟨.ref pl, rfl, q H2 pl as s2 npl hpl (Nat.le_trans las (pow13 _ hl)) (fun c hc => ?_) (fun x p => told x p.beg)⟩
      obtain ⟨x, h1, h2⟩ := tell c hc
      exact ⟨x, h1, PlanL.of_beg h2⟩
theorem lAllPlans (L : Lib K mg) : ∃ f fd, Ok P w K mg base 1 "_law_all_plans" sAllPlans ["_law_demands"] spAllPlans f fd := by
  obtain ⟨f, fd, D⟩ := L.allPlans
  exact ⟨f, fd, D, ok_allPlans D.F L.T⟩
end
end TW

namespace TW
open PySem PySem.Spec PyProof.Rows L2 TK
/-! ### lists of plans as data -/
abbrev dT (x : List Int) : PyData := .tuple (dI x)
theorem data_of {K : PySem.W.Frag} {H : Hp} {T : List Int → Prop} : ∀ as : List Addr, Tell H as T → ∃ ds : List (List Int), DpAll K H (as.map V.ref) (ds.map dT) ∧ ∀ x, Told H as x → x ∈ ds
  | [], _ => ⟨[], .nil, fun x h => by obtain ⟨c, hc, _⟩ := h; cases hc⟩
  | a :: as, h => by
    obtain ⟨ds, h1, h2⟩ := data_of (K := K) (H := H) (T := T) as fun c hc => h c (by simp [hc])
    obtain ⟨x, hx, _⟩ := h a (by simp)
    refine ⟨x :: ds, .cons (.tup (sqt hx) (dpAll_ints x)) h1, fun y hy => ?_⟩
    obtain ⟨c, hc, hcy⟩ := hy
    rcases List.mem_cons.mp hc with e | hc
    · subst e
      rw [hx] at hcy
      injection hcy with e1
      injection e1 with e1
      have e2 := map_int_inj e1
      subst e2
      simp
    · exact List.mem_cons_of_mem _ (h2 y ⟨c, hc, hcy⟩)
theorem canLay_ints : ∀ ns : List Int, PyData.canLayAll0 (dI ns) = true
  | [] => by simp [dI, PyData.canLayAll0]
  | n :: ns => by
    have := canLay_ints ns
    simp [dI, PyData.canLayAll0, PyData.canLay0] at this ⊢
    exact this
theorem shaped_dT (x : List Int) : SeqAt.shaped (dT x) = true := by
  have h1 := canLay_ints x
  have h2 := TK.depthAll_ints x
  refine Bool.and_eq_true_iff.mpr ⟨by simp only [PyData.canLay0, h1], decide_eq_true ?_⟩
  simp only [PyData.depth]
  omega
theorem canLay_list : ∀ ds : List (List Int), PyData.canLayAll0 (ds.map dT) = true
  | [] => by simp [PyData.canLayAll0]
  | x :: ds => by
    have h1 := canLay_list ds
    have h2 := canLay_ints x
    simp only [List.map_cons, PyData.canLayAll0, PyData.canLay0, h1, h2, Bool.and_self]
theorem depth_list : ∀ ds : List (List Int), PyData.depthAll (ds.map dT) ≤ 2
  | [] => by simp [PyData.depthAll]
  | x :: ds => by
    have h1 := depth_list ds
    have h2 := TK.depthAll_ints x
    simp only [List.map_cons, PyData.depthAll, PyData.depth]
    omega
theorem shaped_list (ds : List (List Int)) : SeqAt.shaped (.list (ds.map dT)) = true := by
  have h1 := canLay_list ds
  have h2 := depth_list ds
  refine Bool.and_eq_true_iff.mpr ⟨by simp only [PyData.canLay0, h1], decide_eq_true ?_⟩
  simp only [PyData.depth]
  omega
theorem eqvAll_ints : ∀ ns : List Int, PyData.eqvAll (dI ns) (dI ns) = true
  | [] => by simp [dI, PyData.eqvAll]
  | n :: ns => by
    have := eqvAll_ints ns
    simp [dI, PyData.eqvAll, PyData.eqv] at this ⊢
    exact this
theorem eqv_dT (x : List Int) : PyData.eqv (dT x) (dT x) = true := by
  simp only [PyData.eqv, eqvAll_ints]
theorem any_dT {ds : List (List Int)} {x : List Int} (h : x ∈ ds) : ((ds.map dT).any fun z => PyData.eqv z (dT x)) = true := by
  rw [List.any_eq_true]
  exact ⟨dT x, List.mem_map.mpr ⟨x, h, rfl⟩, eqv_dT x⟩
theorem hu65 {A : Around} {k : Nat} (hr : Room k A) : A.units + 65 < cLine := by
  have := hr.un
  omega
section
variable {X : Cx} {es : List Expr} {t : TA} {pos : Pos}
/-- [..], the new list no object of the written part -/
def tLstK (K : PySem.W.Frag) (t : TA) : TE := fun σ H Q => t σ H fun xs H1 => xs.length ≤ sizeLine ∧ ∀ p, H1 p = none → K.lookup p = none → Q (.ref p) (upd H1 p (.lst xs))
theorem pe_lstK (h : PA X es t) : PE X (.List es pos) (tLstK X.K t) := by
  refine ⟨fun pins s σ H Q I hq => ?_⟩
  refine wpAny_List_spliced (thn (h.run pos pins s σ H _ I hq) fun us s1 ⟨xs, H1, I1, r, z, q⟩ => ⟨by rw [← r.length]; exact z, ?_⟩)
  have hf : H1 s1.heap.objs.size = none := I1.hok.fresh (Nat.le_refl _)
  have hk : X.K.lookup s1.heap.objs.size = none := by
    cases e : X.K.lookup s1.heap.objs.size with
    | none => rfl
    | some o => exact absurd (Heap.lt_size (I1.kIn _ _ e)) (Nat.lt_irrefl _)
  refine ⟨.ref s1.heap.objs.size, upd H1 s1.heap.objs.size (.lst xs), I1.laid (t' := s1.toks) (fun b u e => Heap.get?_push_of_some _ e) (Nat.le_refl _) ?_, rfl, q _ hf hk⟩
  exact ⟨z, us, 0, r, Heap.get?_push_size _ rfl⟩
end
/-- what a least chain tells -/
theorem best_plan {L : Int} {n : Nat} {D S U G : List Int} {c : Int} {p : List Int} (Lp : 0 < L) (ok : POk n D S U G) (b : BS L D S U G n c p) :
    PlanL D p ∧ LM.costTo L (LM.g D) (LM.g S) (LM.g U) (LM.g G) (LM.g p) n = c ∧ LM.isLoaded L D p = true := by
  have C := LM.Chain.sound Lp (LM.g_nonneg ok.d.lo) b.chain
  obtain ⟨h1, h2, h3⟩ := C.run (LM.g p) fun _ _ => rfl
  have en := ok.d.len
  refine ⟨⟨by rw [C.len, en], C.nn, by rw [en]; exact h1⟩, h2, ?_⟩
  obtain ⟨c', e, _⟩ := LM.oddRun_loaded h3 n (Nat.le_refl _)
  unfold LM.isLoaded
  rw [C.len, e]
  rfl
theorem best_least {L : Int} {n : Nat} {D S U G : List Int} {c : Int} {p x : List Int} (Lp : 0 < L) (ok : POk n D S U G) (b : BS L D S U G n c p) (px : PlanL D x) : c ≤ LM.costTo L (LM.g D) (LM.g S) (LM.g U) (LM.g G) (LM.g x) n := by
  have pl := px.plan
  rw [ok.d.len] at pl
  obtain ⟨c', p', h1, h2⟩ := LM.Chain.under (L := L) Lp (s := LM.g S) (u := LM.g U) (h := LM.g G) ⟨LM.g_nonneg ok.d.lo, LM.g_nonneg ok.s.lo, LM.g_nonneg ok.u.lo, LM.g_nonneg ok.g.lo⟩ pl
  have := b.least _ _ h1
  omega
theorem odd_take {L : Int} {X : List Int} {i : Nat} (h : i < X.length) : ((oddL L X).take (i + 1)).map V.bl = ((oddL L X).take i).map V.bl ++ [.bl (!decide (V.int (LM.g X i % L) = V.int 0))] := by
  rw [List.map_take, List.take_add_one, oddL_get h, ← List.map_take]
  rfl
theorem odd_len (L : Int) (X : List Int) : (oddL L X).length = X.length := List.length_map _
/-- making all as demanded is a plan -/
theorem plan_self {D : List Int} (h : ∀ x ∈ D, 0 ≤ x) : PlanL D D := by
  refine ⟨rfl, h, ⟨fun i hi => h _ (g_in hi), fun k hk => ?_, ?_⟩⟩
  · unfold LM.stk; omega
  · unfold LM.stk; omega
section
variable {P : Program} {w : World} {K : PySem.W.Frag} {mg : Str → Option Value} {base : Heap}
theorem scLaw : FnScope ["_law_script", "_law_row_here", "_law_problem_here", "_law_load", "_law_plans", "_law_plan", "_law_due", "_law_found", "_law_good", "_law_amount"] ["_law_script"] (defScope sLaw) := ⟨rfl, rfl, rfl, by decide +kernel, rfl, by decide +kernel, by decide +kernel⟩
def spLaw (K : PySem.W.Frag) : Sp := fun vs H Q _ => ∃ (a : Addr) (ns : List Int), vs = [.ref a] ∧ SqL K H a (ns.map V.int) ∧ ns.length ≤ 63 ∧ ∀ H', Q (.bl true) H'
theorem ok_law {f : Addr} {fd : FuncData} (F : Fun K "law" "law" sLaw f fd) (Lb : Lib K mg) : FnOk P w K mg base CX0 6 f fd ["_law_script"] (spLaw K) := by
  obtain ⟨fS, fdS, DS, GS⟩ := lSmall (P := P) (w := w) (base := base) Lb
  obtain ⟨fT, fdT, DT, GT⟩ := lTaken (P := P) (w := w) (base := base) Lb
  obtain ⟨fA, fdA, DA, GA⟩ := lAllPlans (P := P) (w := w) (base := base) Lb
  obtain ⟨fK, fdK, DK, GK⟩ := lTruck (P := P) (w := w) (base := base) Lb
  obtain ⟨fP, fdP, DP, GP⟩ := lTruckPlan (P := P) (w := w) (base := base) Lb
  obtain ⟨fE, fdE, DE, GE⟩ := lAlike (P := P) (w := w) (base := base) Lb
  obtain ⟨fL, fdL, DL, GL⟩ := lLeast (P := P) (w := w) (base := base) Lb
  obtain ⟨fI, fdI, DI, GI⟩ := lIsLoaded (P := P) (w := w) (base := base) Lb
  obtain ⟨fO, fdO, DO, GO⟩ := lOddOnes (P := P) (w := w) (base := base) Lb
  obtain ⟨fC, fdC, DC, GC⟩ := lPick (P := P) (w := w) (base := base) Lb
  obtain ⟨fB, fdB, DB', GB⟩ := lTruckCost (P := P) (w := w) (base := base) Lb
  refine F.ok scLaw (fun vs H Q E h => ?_) (fun cdv A outer s H vs Q E hr h => ?_)
  · obtain ⟨a, ns, rfl, _⟩ := h
    rfl
  · obtain ⟨a, ns, rfl, hS, hn, k⟩ := h
    refine ⟨_, pss_cons (ps_set (i := 1) scLaw.nd rfl (Or.inl rfl) (pe_lstK (pa_cons (pv 0) (pa_cons pe_int (pa_cons pe_int (pa_cons pe_int pa_nil))))))
      (pss_cons (ps_set (i := 2) scLaw.nd rfl (Or.inr rfl) (pe_call GS (hr.mono (by decide)) (by rfl) DS.g DS.F.kp DS.b .nil pass0 (pa_cons (pv 1) pa_nil)))
      (pss_cons (ps_set (i := 3) scLaw.nd rfl (Or.inr rfl) (pe_op op_add pe_int (pe_call GT (hr.mono (by decide)) (by rfl) DT.g DT.F.kp DT.b .nil pass0 (pa_cons (pv 1) (pa_cons pe_int pa_nil)))))
      (pss_cons (ps_set (i := 4) scLaw.nd rfl (Or.inl rfl) (pe_call GA (hr.mono (by decide)) (by rfl) DA.g DA.F.kp DA.b .nil pass0 (pa_cons (pe_ix (r := rIxT K) ix_tup (pv 2) pe_int (fun _ _ => rfl)) pa_nil)))
      (pss_cons (ps_set (i := 6) scLaw.nd rfl (Or.inl rfl) (pe_callB (r := rMin K) (cr_min rfl) (by rfl) Lb.T.min bt_min (pa_cons (pe_lc (own := [("_law_plan", 5)]) (g := gName 5) (tt := tYes) rfl scLaw.nd (pi_list (pv 4)) (blkOk_by (N := ["_law_script", "_law_row_here", "_law_problem_here", "_law_load", "_law_plans", "_law_plan", "_law_due", "_law_found", "_law_good", "_law_amount"]) (sc := defScope sLaw) (by decide +kernel))
          (fun _ _ _ _ _ => pg_name (i := 5) scLaw.nd rfl (Or.inl rfl)) (fun _ _ _ _ _ => pts_nil) (fun _ _ _ _ _ => pe_call GK (hr.mono (by decide)) (by rfl) DK.g DK.F.kp DK.b .nil pass0 (pa_cons (pv 2) (pa_cons (pv 3) (pa_cons (pv 5) pa_nil))))) pa_nil)))
      (pss_cons (ps_set (i := 7) scLaw.nd rfl (Or.inl rfl) (pe_call GP hr (by rfl) DP.g DP.F.kp DP.b .nil pass0 (pa_cons (pv 2) (pa_cons (pv 3) pa_nil))))
      (pss_cons (ps_if (PW.pt (pw_or (pt_not (pt_val (pe_call GE (hr.mono (by decide)) (by rfl) DE.g DE.F.kp DE.b .nil pass0 (pa_cons (pe_call GL hr (by rfl) DL.g DL.F.kp DL.b .nil pass0 (pa_cons (pv 2) (pa_cons (pv 3) pa_nil))) (pa_cons (pv 6) pa_nil))))) (pw_or1 (pt_cmpR (op_notInD (hu65 hr)) (pv 7) (pv 4) rfl)))) (pss_one (ps_ret pe_bl)) pss_nil)
      (pss_cons (ps_if (PW.pt (pw_or (pt_cmpR op_ne (pe_call GK (hr.mono (by decide)) (by rfl) DK.g DK.F.kp DK.b .nil pass0 (pa_cons (pv 2) (pa_cons (pv 3) (pa_cons (pv 7) pa_nil)))) (pv 6) (nomark _)) (pw_or1 (pt_cmpR op_isnot_bl (pe_call GI hr (by rfl) DI.g DI.F.kp DI.b .nil pass0 (pa_cons (pv 2) (pa_cons (pv 3) (pa_cons (pv 7) pa_nil)))) pe_bl (nomark _))))) (pss_one (ps_ret pe_bl)) pss_nil)
      (pss_cons (ps_if (pt_not (pt_val (pe_call GO (hr.mono (by decide)) (by rfl) DO.g DO.F.kp DO.b .nil pass0 (pa_cons (pe_ix (r := rIxT K) ix_tup (pv 2) pe_int (fun _ _ => rfl)) (pa_cons (pv 7) (pa_cons (pe_lc (own := [("_law_amount", 9)]) (g := gName 9) (tt := tYes) rfl scLaw.nd (pi_tup (pv 7)) (blkOk_by (N := ["_law_script", "_law_row_here", "_law_problem_here", "_law_load", "_law_plans", "_law_plan", "_law_due", "_law_found", "_law_good", "_law_amount"]) (sc := defScope sLaw) (by decide +kernel))
          (fun _ _ _ _ _ => pg_name (i := 9) scLaw.nd rfl (Or.inl rfl)) (fun _ _ _ _ _ => pts_nil) (fun _ _ _ _ _ => pe_cmpR op_ne (pe_op op_mod (pv 9) (pv 3)) pe_int (nomark _))) pa_nil)))))) (pss_one (ps_ret pe_bl)) pss_nil)
      (pss_cons (ps_set (i := 5) scLaw.nd rfl (Or.inl rfl) (pe_call GC (hr.mono (by decide)) (by rfl) DC.g DC.F.kp DC.b .nil pass0 (pa_cons (pv 1) (pa_cons (pv 4) pa_nil))))
      (pss_cons (ps_if (pt_not (pt_val (pe_call GE (hr.mono (by decide)) (by rfl) DE.g DE.F.kp DE.b .nil pass0 (pa_cons (pe_call GB hr (by rfl) DB'.g DB'.F.kp DB'.b .nil pass0 (pa_cons (pv 2) (pa_cons (pv 3) (pa_cons (pv 5) pa_nil)))) (pa_cons (pe_call GK (hr.mono (by decide)) (by rfl) DK.g DK.F.kp DK.b .nil pass0 (pa_cons (pv 2) (pa_cons (pv 3) (pa_cons (pv 5) pa_nil)))) pa_nil))))) (pss_one (ps_ret pe_bl)) pss_nil)
      (pss_cons (ps_set (i := 8) scLaw.nd rfl (Or.inl rfl) (pe_call GO (hr.mono (by decide)) (by rfl) DO.g DO.F.kp DO.b .nil pass0 (pa_cons (pe_ix (r := rIxT K) ix_tup (pv 2) pe_int (fun _ _ => rfl)) (pa_cons (pv 5) (pa_cons (pe_lc (own := [("_law_amount", 9)]) (g := gName 9) (tt := tYes) rfl scLaw.nd (pi_tup (pv 5)) (blkOk_by (N := ["_law_script", "_law_row_here", "_law_problem_here", "_law_load", "_law_plans", "_law_plan", "_law_due", "_law_found", "_law_good", "_law_amount"]) (sc := defScope sLaw) (by decide +kernel))
          (fun _ _ _ _ _ => pg_name (i := 9) scLaw.nd rfl (Or.inl rfl)) (fun _ _ _ _ _ => pts_nil) (fun _ _ _ _ _ => pe_cmpR op_ne (pe_op op_mod (pv 9) (pv 3)) pe_int (nomark _))) pa_nil)))))
      (pss_one (ps_ret (pe_call GE (hr.mono (by decide)) (by rfl) DE.g DE.F.kp DE.b .nil pass0 (pa_cons (pe_call GI hr (by rfl) DI.g DI.F.kp DI.b .nil pass0 (pa_cons (pv 2) (pa_cons (pv 3) (pa_cons (pv 5) pa_nil)))) (pa_cons (pv 8) pa_nil)))))))))))))))), ?_⟩
    -- row
    refine ⟨_, rfl, by show 4 ≤ sizeLine; decide, fun r nr kr => ?_⟩
    have ar : a ≠ r := by
      rcases hS with (h | ⟨o, h⟩) | ⟨o, its, m, h, _⟩
      · exact ne_of_none h nr
      · exact ne_of_none h nr
      · intro e
        subst e
        have h2 := kr.symm.trans h
        cases h2
    have s1 := same_upd (o := .lst [.ref a, .int 0, .int 3347, .int 0]) nr
    have r1 : RowL (upd H r (.lst [.ref a, .int 0, .int 3347, .int 0])) r a := ⟨0, 3347, 0, upd_same, by decide, by decide, by decide⟩
    generalize eH1 : upd H r (.lst [.ref a, .int 0, .int 3347, .int 0]) = H1 at *
    have dr1 : Draw K H1 r a := ⟨r1, ar, ns, s1.seq hS, hn⟩
    -- the problem
    refine ⟨.ref r, rfl, r, a, rfl, dr1, fun H2 q n D S U G e2 r2 hp2 ok n4 d3 => ?_⟩
    have dr2 := dr1.next e2 r2
    -- the load
    refine ⟨.ref r, rfl, r, a, 6, rfl, dr2, by decide, by decide, fun v H3 v0 v1 e3 r3 => ⟨_, _, rfl, rfl, ?_⟩⟩
    have hp3 := hp2.mono (r2.tups e3)
    obtain ⟨d, s', u, g, hq, hd, hs, hu, hg⟩ := id hp3
    have en := ok.d.len
    have l1 : 1 ≤ 1 + v := by omega
    have l2 : 1 + v ≤ 9999 := by omega
    have Lp : 0 < 1 + v := by omega
    -- all plans
    refine ⟨.ref q, rfl, q, _, 0, .ref d, rfl, rfl, sqt hq, atI_nat (j := 0) rfl, d, D, rfl, hd, by omega, fun x hx => ⟨ok.d.lo x hx, d3 x hx⟩, fun H4 pl as s4 npl hpl las tell told => ?_⟩
    have rpl := r3.ne npl
    have hp4 := hp3.mono s4.tups
    have r4 := r3.same s4
    obtain ⟨CT, hCT⟩ : ∃ CT : List Int → Int, ∀ x, LM.costTo (1 + v) (LM.g D) (LM.g S) (LM.g U) (LM.g G) (LM.g x) n = CT x := ⟨_, fun _ => rfl⟩
    have pD : PlanL D D := plan_self ok.d.lo
    -- the due
    refine ⟨.ref pl, rfl, pl, rfl, ⟨_, sql hpl⟩, fun C nC => lc_list (K := K) (a := pl) (xs := as.map V.ref)
      (fun i H' => Same H4 H' ∧ ∃ cs : List Int, H' C = some (.lst (cs.map V.int)) ∧ cs.length = i ∧ ∀ j c x, j < i → as[j]? = some c → H4 c = some (.tup (x.map V.int)) → cs[j]? = some (CT x))
      ⟨same_upd nC, [], upd_same, rfl, fun j _ _ h => by omega⟩ (fun i H' _ h => sql (h.1 _ _ hpl)) ?_ ?_⟩
    · rintro i y H5 hy ⟨s5, cs, hC, lcs, hcs⟩
      have hy' : (as.map V.ref)[i]? = some y := hy
      have hi : i < as.length := by
        have := (List.getElem?_eq_some_iff.mp hy').1
        rwa [List.length_map] at this
      obtain ⟨c, hc⟩ : ∃ c, as[i]? = some c := ⟨_, List.getElem?_eq_getElem hi⟩
      rw [List.getElem?_map, hc] at hy'
      cases hy'
      obtain ⟨x, hx, px⟩ := tell c (List.mem_of_getElem? hc)
      refine ⟨rfl, yesT ?_⟩
      refine ⟨.ref q, rfl, .int (1 + v), rfl, .ref c, rfl, q, c, n, D, S, U, G, x, 1 + v, rfl, hp4.mono s5.tups, ok, l1, l2, s5 _ _ hx, by rw [px.len, en], fun H6 s6 => ?_⟩
      rw [hCT]
      have s56 := s5.trans s6
      refine ⟨_, s6 _ _ hC, ?_, same_list s56 nC, cs ++ [CT x], by rw [upd_same, List.map_append]; rfl, by rw [List.length_append, lcs]; rfl, fun j c' x' hj h1 h2 => ?_⟩
      · rw [List.length_map, lcs, sizeLine_eq]
        omega
      · by_cases e : j = i
        · subst e
          rw [hc] at h1
          cases h1
          rw [hx] at h2
          injection h2 with e1
          injection e1 with e1
          have e2 := map_int_inj e1
          subst e2
          rw [List.getElem?_append_right (by omega), lcs, Nat.sub_self]
          rfl
        · rw [List.getElem?_append_left (by omega)]
          exact hcs j c' x' (by omega) h1 h2
    rintro H5 ⟨s5, cs, hC, lcs, hcs⟩
    rw [List.length_map] at lcs
    have as0 : 0 < as.length := by
      obtain ⟨c, hc, _⟩ := told D pD
      exact List.length_pos_of_mem hc
    rw [List.length_map] at hcs
    refine ⟨C, cs, rfl, sql hC, by omega, fun m hm hle => ?_⟩
    obtain ⟨x0, px0, ex0⟩ : ∃ x0, PlanL D x0 ∧ CT x0 = m := by
      obtain ⟨j, hj⟩ := List.mem_iff_getElem?.mp hm
      have jl : j < as.length := by
        have := (List.getElem?_eq_some_iff.mp hj).1
        omega
      obtain ⟨c, hc⟩ : ∃ c, as[j]? = some c := ⟨_, List.getElem?_eq_getElem jl⟩
      obtain ⟨x, hx, px⟩ := tell c (List.mem_of_getElem? hc)
      have := hcs j c x jl hc hx
      rw [hj] at this
      exact ⟨x, px, (Option.some.inj this).symm⟩
    have all : ∀ x, PlanL D x → m ≤ CT x := by
      intro x px
      obtain ⟨c, hc, hx⟩ := told x px
      obtain ⟨j, hj⟩ := List.mem_iff_getElem?.mp hc
      have jl : j < as.length := (List.getElem?_eq_some_iff.mp hj).1
      exact hle _ (List.mem_of_getElem? (hcs j c x jl hj hx))
    have r5 := r4.same s5
    have hp5 := hp4.mono s5.tups
    have least : ∀ c p, BS (1 + v) D S U G n c p → c = m ∧ PlanL D p ∧ CT p = m ∧ LM.isLoaded (1 + v) D p = true := by
      intro c p b
      obtain ⟨h1, h2, h3⟩ := best_plan Lp ok b
      have h4 := best_least Lp ok b px0
      have h5 := all p h1
      rw [hCT] at h2 h4
      exact ⟨by omega, h1, by omega, h3⟩
    -- found
    refine ⟨.ref q, rfl, .int (1 + v), rfl, q, n, D, S, U, G, 1 + v, rfl, hp5, ok, l1, l2, fun H6 fv c p s6 hfv b => ?_⟩
    obtain ⟨_, pp, ep, lp⟩ := least c p b
    have r6 := r5.same s6
    have hp6 := hp5.mono s6.tups
    -- the least cost is due, and the plan is one
    refine ⟨.ref q, rfl, .int (1 + v), rfl, q, n, D, S, U, G, 1 + v, rfl, hp6, ok, l1, l2, fun H7 c7 p7 s7 b7 => ?_⟩
    obtain ⟨e7, _⟩ := least c7 p7 b7
    subst e7
    refine ⟨_, rfl, .inl ⟨_, _, rfl, fun H8 s8 => ?_⟩⟩
    rw [decide_eq_true (rfl : c7 = c7)]
    refine ⟨true, rfl, iteF ?_⟩
    have s68 := s7.trans s8
    have hfv8 := s68 _ _ hfv
    have hpl6 := s6 _ _ (s5 _ _ hpl)
    have hpl8 := s68 _ _ hpl6
    have tell6 := (tell.mono s5.tups).mono s6.tups
    have told6 : ∀ x, PlanL D x → Told H6 as x := fun x px => ((told x px).mono s5.tups).mono s6.tups
    have hp8 := hp6.mono s68.tups
    have r8 := r6.same s68
    obtain ⟨ds, dd1, dd2⟩ := data_of (K := K) as (tell6.mono s68.tups)
    refine ⟨.ref fv, rfl, .ref pl, rfl, dT p, ds.map dT, .tup (sqt hfv8) (dpAll_ints p), .lst (sql hpl8) dd1, shaped_dT p, shaped_list ds, ?_⟩
    rw [any_dT (dd2 p ((told6 p pp).mono s68.tups))]
    refine ⟨false, rfl, iteF ?_⟩
    -- what the plan costs is due, and it is loaded
    refine ⟨.ref q, rfl, .int (1 + v), rfl, .ref fv, rfl, q, fv, n, D, S, U, G, p, 1 + v, rfl, hp8, ok, l1, l2, hfv8, by rw [pp.len, en], fun H9 s9 => ?_⟩
    rw [hCT, ep]
    refine ⟨_, rfl, rfl, _, rfl, iteNS rfl ?_⟩
    have hfv9 := s9 _ _ hfv8
    have hp9 := hp8.mono s9.tups
    refine ⟨.ref q, rfl, .int (1 + v), rfl, .ref fv, rfl, q, fv, n, D, S, U, G, p, 1 + v, rfl, hp9, ok, l1, l2, hfv9, pp, fun H10 s10 => ?_⟩
    rw [lp]
    refine ⟨true, true, rfl, rfl, _, rfl, iteF ?_⟩
    have hfv10 := s10 _ _ hfv9
    have hp10 := hp9.mono s10.tups
    have s610 := (s68.trans s9).trans s10
    -- the law's own judgement
    obtain ⟨d10, s'10, u10, g10, hq10, hd10, _⟩ := id hp10
    refine ⟨.ref q, rfl, q, _, 0, .ref d10, rfl, rfl, sqt hq10, atI_nat (j := 0) rfl, .ref fv, rfl, ?_⟩
    refine ⟨.ref fv, rfl, fv, rfl, ⟨_, sqt hfv10⟩, fun C10 nC10 => lc_tup (K := K) (a := fv) (xs := p.map V.int)
      (fun i H' => Same H10 H' ∧ H' C10 = some (.lst (((oddL (1 + v) p).take i).map V.bl))) ⟨same_upd nC10, upd_same⟩ (fun i H' _ h => sqt (h.1 _ _ hfv10)) ?_ ?_⟩
    · rintro i y H' hy ⟨t1, hC⟩
      have hi : i < p.length := by
        have := (List.getElem?_eq_some_iff.mp hy).1
        rwa [List.length_map] at this
      obtain rfl : V.int (LM.g p i) = y := Option.some.inj ((geti hi).symm.trans hy)
      have xl := pp.len
      have n2 := ok.n2
      refine ⟨rfl, yesT ?_⟩
      refine ⟨_, rfl, _, rfl, _, _, rfl, rfl, Lp, rfl, _, hC, ?_, same_list t1 nC10, by rw [upd_same, odd_take hi]⟩
      rw [List.length_map, List.length_take, odd_len]
      exact small1000 (by omega)
    rintro H11 ⟨s11, hC11⟩
    rw [List.take_of_length_le (by rw [List.length_map, odd_len]; exact Nat.le_refl _)] at hC11
    refine ⟨d10, fv, C10, D, p, 1 + v, rfl, s11 _ _ hd10, s11 _ _ hfv10, hC11, pp.len.symm, by rw [pp.len, en]; exact ok.n2, fun H12 s12 => ?_⟩
    rw [lp]
    refine ⟨true, rfl, iteF ?_⟩
    have s6b := (s610.trans s11).trans s12
    have hpb := hp10.mono (s11.trans s12).tups
    have dr6 := ((((dr2.next e3 r3).next (s4.ext r) r4).next (s5.ext r) r5).next (s6.ext r) r6).next (s6b.ext r) (r6.same s6b)
    -- one plan drawn
    refine ⟨.ref r, rfl, .ref pl, rfl, r, a, pl, as.map V.ref, rfl, dr6, s6b _ _ hpl6, fun e => rpl e.symm, by rw [List.length_map]; exact as0, by rw [List.length_map]; omega, fun x H13 hx e13 r13 => ?_⟩
    have t13 := dr6.row.tups e13
    obtain ⟨c, hc, rfl⟩ := List.mem_map.mp hx
    obtain ⟨X, hX, pX⟩ := tell6 c hc
    have hc13 := t13 _ _ (s6b _ _ hX)
    have hp13 := hpb.mono t13
    refine ⟨.ref q, rfl, .int (1 + v), rfl, .ref c, rfl, q, c, n, D, S, U, G, X, 1 + v, rfl, hp13, ok, l1, l2, hc13, pX, fun H14 s14 => ?_⟩
    refine ⟨.ref q, rfl, .int (1 + v), rfl, .ref c, rfl, q, c, n, D, S, U, G, X, 1 + v, rfl, hp13.mono s14.tups, ok, l1, l2, s14 _ _ hc13, by rw [pX.len, en], fun H15 s15 => ?_⟩
    refine .inl ⟨_, _, rfl, fun H16 s16 => ?_⟩
    rw [decide_eq_true rfl]
    refine ⟨true, rfl, iteF ?_⟩
    have s36 := (s14.trans s15).trans s16
    have hc16 := s36 _ _ hc13
    have hp16 := hp13.mono s36.tups
    obtain ⟨d16, s'16, u16, g16, hq16, hd16, _⟩ := id hp16
    refine ⟨.ref q, rfl, q, _, 0, .ref d16, rfl, rfl, sqt hq16, atI_nat (j := 0) rfl, .ref c, rfl, ?_⟩
    refine ⟨.ref c, rfl, c, rfl, ⟨_, sqt hc16⟩, fun C16 nC16 => lc_tup (K := K) (a := c) (xs := X.map V.int)
      (fun i H' => Same H16 H' ∧ H' C16 = some (.lst (((oddL (1 + v) X).take i).map V.bl))) ⟨same_upd nC16, upd_same⟩ (fun i H' _ h => sqt (h.1 _ _ hc16)) ?_ ?_⟩
    · rintro i y H' hy ⟨t1, hC⟩
      have hi : i < X.length := by
        have := (List.getElem?_eq_some_iff.mp hy).1
        rwa [List.length_map] at this
      obtain rfl : V.int (LM.g X i) = y := Option.some.inj ((geti hi).symm.trans hy)
      have xl := pX.len
      have n2 := ok.n2
      refine ⟨rfl, yesT ?_⟩
      refine ⟨_, rfl, _, rfl, _, _, rfl, rfl, Lp, rfl, _, hC, ?_, same_list t1 nC16, by rw [upd_same, odd_take hi]⟩
      rw [List.length_map, List.length_take, odd_len]
      exact small1000 (by omega)
    rintro H17 ⟨s17, hC17⟩
    rw [List.take_of_length_le (by rw [List.length_map, odd_len]; exact Nat.le_refl _)] at hC17
    refine ⟨d16, c, C16, D, X, 1 + v, rfl, s17 _ _ hd16, s17 _ _ hc16, hC17, pX.len.symm, by rw [pX.len, en]; exact ok.n2, fun H18 s18 => ?_⟩
    refine ⟨.ref q, rfl, .int (1 + v), rfl, .ref c, rfl, q, c, n, D, S, U, G, X, 1 + v, rfl, hp16.mono (s17.trans s18).tups, ok, l1, l2, (s17.trans s18) _ _ hc16, pX, fun H19 s19 => ?_⟩
    refine ⟨_, rfl, .inr ⟨_, _, rfl, fun H20 s20 => ?_⟩⟩
    rw [decide_eq_true rfl]
    exact k H20
end
end TW

namespace TW
open PySem PySem.Spec PyProof.Rows L2 TK
section
variable {w : World} {K : PySem.W.Frag} {h : Heap} {mg : Str → Option Value}
/-- one def, from what the written part says of it -/
theorem dn_mk (X : K.In h) (G : h.Ns mainGlobals mg) {x : Str} {st : Stmt} {ps : List Str} {f : Addr} {oc : Value} {od an : Option Addr} {osl : Array (Option Value)} {kV doc pm cdv ct : Value}
    (hb : ∀ (kV doc pm : Value) (an : Option Addr) (cdv ct : Value) (us : List Value), us.length = ps.length → bindArgs (PySem.W.fnOf x x (defArgs st) (defBody st) (defScope st) .none kV doc pm an cdv ct) ⟨us, []⟩ = pure (ps.zip us))
    (a : PySem.W.nsIn K mainGlobals x = some (some (.ref f)))
    (l : K.lookup f = some ⟨oc, od, .func (PySem.W.fnOf x x (defArgs st) (defBody st) (defScope st) .none kV doc pm an cdv ct), osl⟩)
    (c : PySem.W.codeIn K cdv x = true) (k : PySem.W.keepIn K (.ref f) = true) : ∃ f fd, Dn K mg x st ps f fd := by
  have F := fun_mk (st := st) l c k
  exact ⟨f, _, F, F.binds (ps := ps) hb, PySem.W.mg_of X G a⟩
theorem law_mk {l : PySem.W.OpenLaw} (X : K.In h) (G : h.Ns mainGlobals mg) (Lb : Lib K mg) {f fa : Addr} (hfa : mg "law" = some (.ref fa)) {oc : Value} {od an : Option Addr} {osl : Array (Option Value)} {kV doc pm cdv ct : Value}
    (a : PySem.W.nsIn K mainGlobals "law" = some (some (.ref f)))
    (lk : K.lookup f = some ⟨oc, od, .func (PySem.W.fnOf "law" "law" (defArgs sLaw) (defBody sLaw) (defScope sLaw) .none kV doc pm an cdv ct), osl⟩)
    (c : PySem.W.codeIn K cdv "law" = true) (k : PySem.W.keepIn K (.ref f) = true) :
    ∃ fd : FuncData, (∀ (s : Shared) (v : Value), BindsTo s fd ⟨[v], []⟩ [("_law_script", v)]) ∧ ∀ base : Heap, K.In base → base.Ns mainGlobals mg → FnOk l.prog w K mg base CX0 6 fa fd ["_law_script"] (spLaw K) := by
  have e := hfa.symm.trans (PySem.W.mg_of X G a)
  cases e
  exact ⟨PySem.W.fnOf "law" "law" (defArgs sLaw) (defBody sLaw) (defScope sLaw) .none kV doc pm an cdv ct, fun s v => .of_eq rfl, fun base _ _ => ok_law (fun_mk (st := sLaw) lk c k) Lb⟩
end
end TW
open PySem PySem.W PyProof.Rows in
set_option maxRecDepth 100000 in
set_option maxHeartbeats 0 in
theorem PySem.Challenge.cw_lotplans_k47_whole_trucks_holds : PySem.Challenge.rw_lotplans_k47_whole_trucks.Holds := by
  w_on; o_law; k_head; (case hw => w_witness2)
  k_fill
  refine L2.walk_of (l := PySem.Challenge.rw_lotplans_k47_whole_trucks) (n := 63) (k := 6) (x := "_law_script") (CX := fun _ => L2.CX0) (sp := fun w => TW.spLaw _) rfl (by decide) rfl ⟨rfl, by decide, by decide⟩ (fun w h Y => PySem.W.kIn_of Y) ?F (fun _ _ a ns hl _ hS => ⟨a, ns, rfl, hS, hl, fun _ => rfl⟩) (fun _ _ _ _ _ h => h)
  case F =>
    intro w mg fa h KX G hmg
    have z_isinstance : mg "isinstance" = none := PySem.W.mg_none_of KX G (by k_is)
    have z_int : mg "int" = none := PySem.W.mg_none_of KX G (by k_is)
    have z_bool : mg "bool" = none := PySem.W.mg_none_of KX G (by k_is)
    have z_tuple : mg "tuple" = none := PySem.W.mg_none_of KX G (by k_is)
    have z_list : mg "list" = none := PySem.W.mg_none_of KX G (by k_is)
    have z_str : mg "str" = none := PySem.W.mg_none_of KX G (by k_is)
    have z_len : mg "len" = none := PySem.W.mg_none_of KX G (by k_is)
    have z_all : mg "all" = none := PySem.W.mg_none_of KX G (by k_is)
    have z_any : mg "any" = none := PySem.W.mg_none_of KX G (by k_is)
    have z_enumerate : mg "enumerate" = none := PySem.W.mg_none_of KX G (by k_is)
    have z_zip : mg "zip" = none := PySem.W.mg_none_of KX G (by k_is)
    have z_sum : mg "sum" = none := PySem.W.mg_none_of KX G (by k_is)
    have z_range : mg "range" = none := PySem.W.mg_none_of KX G (by k_is)
    have z_min : mg "min" = none := PySem.W.mg_none_of KX G (by k_is)
    have z_max : mg "max" = none := PySem.W.mg_none_of KX G (by k_is)
    have i_0 := He.int_ok KX G (x := "MOST_PERIODS") (i := 12) (by kernel_rfl)
    have i_1 := He.int_ok KX G (x := "MOST_ENTRY") (i := 999) (by kernel_rfl)
    have i_2 := He.int_ok KX G (x := "MOST_LOAD") (i := 9999) (by kernel_rfl)
    have T : TW.Tb mg := ⟨z_isinstance, z_int, z_bool, z_tuple, z_list, z_str, z_len, z_all, z_any, z_enumerate, z_zip, z_sum, z_range, z_min, z_max, .inr i_0, i_1, i_2⟩
    have d_isInt := TW.dn_mk KX G (x := "is_int") (st := TW.sIsInt) (ps := ["value"]) (fun _ _ _ _ _ _ us hl => match us, hl with | [_], _ => rfl) (by k_is) (by k_is) (by k_is) (by k_is)
    have d_isIn := TW.dn_mk KX G (x := "is_in") (st := TW.sIsIn) (ps := ["value", "least", "most"]) (fun _ _ _ _ _ _ us hl => match us, hl with | [_, _, _], _ => rfl) (by k_is) (by k_is) (by k_is) (by k_is)
    have d_needProblem := TW.dn_mk KX G (x := "need_problem") (st := TW.sNeedProblem) (ps := ["value"]) (fun _ _ _ _ _ _ us hl => match us, hl with | [_], _ => rfl) (by k_is) (by k_is) (by k_is) (by k_is)
    have d_periods := TW.dn_mk KX G (x := "periods_of") (st := TW.sPeriods) (ps := ["problem"]) (fun _ _ _ _ _ _ us hl => match us, hl with | [_], _ => rfl) (by k_is) (by k_is) (by k_is) (by k_is)
    have d_stock := TW.dn_mk KX G (x := "stock_row") (st := TW.sStock) (ps := ["demands", "amounts"]) (fun _ _ _ _ _ _ us hl => match us, hl with | [_, _], _ => rfl) (by k_is) (by k_is) (by k_is) (by k_is)
    have d_needPlan := TW.dn_mk KX G (x := "need_plan") (st := TW.sNeedPlan) (ps := ["problem", "value"]) (fun _ _ _ _ _ _ us hl => match us, hl with | [_, _], _ => rfl) (by k_is) (by k_is) (by k_is) (by k_is)
    have d_needLoad := TW.dn_mk KX G (x := "need_load") (st := TW.sNeedLoad) (ps := ["problem", "load"]) (fun _ _ _ _ _ _ us hl => match us, hl with | [_, _], _ => rfl) (by k_is) (by k_is) (by k_is) (by k_is)
    have d_loads := TW.dn_mk KX G (x := "loads") (st := TW.sLoads) (ps := ["amount", "load"]) (fun _ _ _ _ _ _ us hl => match us, hl with | [_, _], _ => rfl) (by k_is) (by k_is) (by k_is) (by k_is)
    have d_truckCost := TW.dn_mk KX G (x := "truck_cost") (st := TW.sTruckCost) (ps := ["problem", "load", "plan"]) (fun _ _ _ _ _ _ us hl => match us, hl with | [_, _, _], _ => rfl) (by k_is) (by k_is) (by k_is) (by k_is)
    have d_run := TW.dn_mk KX G (x := "run") (st := TW.sRun) (ps := ["problem", "load", "start", "end"]) (fun _ _ _ _ _ _ us hl => match us, hl with | [_, _, _, _], _ => rfl) (by k_is) (by k_is) (by k_is) (by k_is)
    have d_trucked := TW.dn_mk KX G (x := "trucked") (st := TW.sTrucked) (ps := ["problem", "load"]) (fun _ _ _ _ _ _ us hl => match us, hl with | [_, _], _ => rfl) (by k_is) (by k_is) (by k_is) (by k_is)
    have d_least := TW.dn_mk KX G (x := "least_truck_cost") (st := TW.sLeast) (ps := ["problem", "load"]) (fun _ _ _ _ _ _ us hl => match us, hl with | [_, _], _ => rfl) (by k_is) (by k_is) (by k_is) (by k_is)
    have d_truckPlan := TW.dn_mk KX G (x := "truck_plan") (st := TW.sTruckPlan) (ps := ["problem", "load"]) (fun _ _ _ _ _ _ us hl => match us, hl with | [_, _], _ => rfl) (by k_is) (by k_is) (by k_is) (by k_is)
    have d_isLoaded := TW.dn_mk KX G (x := "is_loaded") (st := TW.sIsLoaded) (ps := ["problem", "load", "plan"]) (fun _ _ _ _ _ _ us hl => match us, hl with | [_, _, _], _ => rfl) (by k_is) (by k_is) (by k_is) (by k_is)
    have d_taken := TW.dn_mk KX G (x := "_law_taken") (st := TW.sTaken) (ps := ["_law_row_here", "_law_many"]) (fun _ _ _ _ _ _ us hl => match us, hl with | [_, _], _ => rfl) (by k_is) (by k_is) (by k_is) (by k_is)
    have d_pick := TW.dn_mk KX G (x := "_law_pick") (st := TW.sPick) (ps := ["_law_row_here", "_law_things"]) (fun _ _ _ _ _ _ us hl => match us, hl with | [_, _], _ => rfl) (by k_is) (by k_is) (by k_is) (by k_is)
    have d_alike := TW.dn_mk KX G (x := "_law_alike") (st := TW.sAlike) (ps := ["_law_found", "_law_due"]) (fun _ _ _ _ _ _ us hl => match us, hl with | [_, _], _ => rfl) (by k_is) (by k_is) (by k_is) (by k_is)
    have d_entries := TW.dn_mk KX G (x := "_law_entries") (st := TW.sEntries) (ps := ["_law_row_here", "_law_many", "_law_most"]) (fun _ _ _ _ _ _ us hl => match us, hl with | [_, _, _], _ => rfl) (by k_is) (by k_is) (by k_is) (by k_is)
    have d_steps := TW.dn_mk KX G (x := "_law_steps") (st := TW.sSteps) (ps := ["_law_row_here", "_law_many", "_law_most"]) (fun _ _ _ _ _ _ us hl => match us, hl with | [_, _, _], _ => rfl) (by k_is) (by k_is) (by k_is) (by k_is)
    have d_problem := TW.dn_mk KX G (x := "_law_problem") (st := TW.sProblem) (ps := ["_law_row_here", "_law_many"]) (fun _ _ _ _ _ _ us hl => match us, hl with | [_, _], _ => rfl) (by k_is) (by k_is) (by k_is) (by k_is)
    have d_row := TW.dn_mk KX G (x := "_law_row") (st := TW.sRow) (ps := ["_law_demands", "_law_plan"]) (fun _ _ _ _ _ _ us hl => match us, hl with | [_, _], _ => rfl) (by k_is) (by k_is) (by k_is) (by k_is)
    have d_allPlans := TW.dn_mk KX G (x := "_law_all_plans") (st := TW.sAllPlans) (ps := ["_law_demands"]) (fun _ _ _ _ _ _ us hl => match us, hl with | [_], _ => rfl) (by k_is) (by k_is) (by k_is) (by k_is)
    have d_small := TW.dn_mk KX G (x := "_law_small") (st := TW.sSmall) (ps := ["_law_row_here"]) (fun _ _ _ _ _ _ us hl => match us, hl with | [_], _ => rfl) (by k_is) (by k_is) (by k_is) (by k_is)
    have d_oddOnes := TW.dn_mk KX G (x := "_law_odd_ones") (st := TW.sOddOnes) (ps := ["_law_demands", "_law_plan", "_law_is_odd"]) (fun _ _ _ _ _ _ us hl => match us, hl with | [_, _, _], _ => rfl) (by k_is) (by k_is) (by k_is) (by k_is)
    have d_truck := TW.dn_mk KX G (x := "_law_truck") (st := TW.sTruck) (ps := ["_law_problem_here", "_law_load", "_law_plan"]) (fun _ _ _ _ _ _ us hl => match us, hl with | [_, _, _], _ => rfl) (by k_is) (by k_is) (by k_is) (by k_is)
    refine' TW.law_mk KX G ⟨T, d_isInt, d_isIn, d_needProblem, d_periods, d_stock, d_needPlan, d_needLoad, d_loads, d_truckCost, d_run, d_trucked, d_least, d_truckPlan, d_isLoaded, d_taken, d_pick, d_alike, d_entries, d_steps, d_problem, d_row, d_allPlans, d_small, d_oddOnes, d_truck⟩ hmg ?a ?l ?c ?k
    (case a => k_is)
    (case l => k_is)
    (case c => k_is)
    (case k => k_is)
