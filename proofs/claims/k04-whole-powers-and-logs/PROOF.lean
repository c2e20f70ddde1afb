import PyProof.Rows.All
import HandS.ForMost
import HandS.Exc
import HandS.TryMany
import HandS.ExcInit
import HandS.ExcField
import HandS.IsInst
import HandS.OwnEq
import HandS.Lambda
import HandS.Gcd
import HandS.Wide
import HandS.Zip
import HandS.ClsMeth
import HandS.HotCalls
import HandS.HeadNt
import HandS.Defaults
import HandS.Flow
import KE.KExcIs
import PySem.Challenge.RW_creepclocks_k04_whole_powers_and_logs_of
import HandS.Head0
import HandS.Head1
import HandS.Head2
import HandS.HeadHook4
import HandS.HeadWalk
import HandS.HeadHook1
import HandS.HeadHook2
import HandS.Head3
import Wide.All
import OpenK.AllK
import Wide.FinOn
import KE.KStateDown
import HandS.Walk
section
/-! Formal series over Rat: powers, logs, reciprocals, their laws. No program in sight. -/
namespace K04

@[ext] structure Ser where
  c : Nat → Rat

namespace Ser
theorem ext' {f g : Ser} (h : ∀ n, f.c n = g.c n) : f = g := by
  cases f; cases g; congr; funext n; exact h n

def tl (f : Ser) : Ser := ⟨fun n => f.c (n + 1)⟩
def add (f g : Ser) : Ser := ⟨fun n => f.c n + g.c n⟩
def neg (f : Ser) : Ser := ⟨fun n => - f.c n⟩
def con (a : Rat) : Ser := ⟨fun n => if n = 0 then a else 0⟩
def mulC : Nat → Ser → Ser → Rat
  | 0, f, g => f.c 0 * g.c 0
  | n + 1, f, g => f.c 0 * g.c (n + 1) + mulC n f.tl g
def mul (f g : Ser) : Ser := ⟨fun n => mulC n f g⟩
def smul (a : Rat) (f : Ser) : Ser := ⟨fun n => a * f.c n⟩
/-- n times the number at n -/
def th (f : Ser) : Ser := ⟨fun n => (n : Rat) * f.c n⟩

@[simp] theorem tl_c (f : Ser) (n : Nat) : f.tl.c n = f.c (n + 1) := rfl
@[simp] theorem add_c (f g : Ser) (n : Nat) : (add f g).c n = f.c n + g.c n := rfl
@[simp] theorem neg_c (f : Ser) (n : Nat) : (neg f).c n = - f.c n := rfl
@[simp] theorem smul_c (a : Rat) (f : Ser) (n : Nat) : (smul a f).c n = a * f.c n := rfl
@[simp] theorem th_c (f : Ser) (n : Nat) : (th f).c n = (n : Rat) * f.c n := rfl
@[simp] theorem con_c0 (a : Rat) : (con a).c 0 = a := rfl
@[simp] theorem con_cs (a : Rat) (n : Nat) : (con a).c (n + 1) = 0 := rfl
theorem mul_c (f g : Ser) (n : Nat) : (mul f g).c n = mulC n f g := rfl

theorem mulC_addL (n : Nat) : ∀ f f' g : Ser, mulC n (add f f') g = mulC n f g + mulC n f' g := by
  induction n with
  | zero => intro f f' g; simp only [mulC, add_c]; grind
  | succ n ih =>
    intro f f' g
    have e : (add f f').tl = add f.tl f'.tl := rfl
    simp only [mulC, add_c, e, ih]; grind
theorem mulC_smulL (n : Nat) : ∀ (a : Rat) (f g : Ser), mulC n (smul a f) g = a * mulC n f g := by
  induction n with
  | zero => intro a f g; simp only [mulC, smul_c]; grind
  | succ n ih =>
    intro a f g
    have e : (smul a f).tl = smul a f.tl := rfl
    simp only [mulC, smul_c, e, ih]; grind
theorem mulC_right (n : Nat) : ∀ f g : Ser, mulC (n + 1) f g = mulC n f g.tl + f.c (n + 1) * g.c 0 := by
  induction n with
  | zero => intro f g; simp only [mulC, tl_c]
  | succ n ih =>
    intro f g
    have h := ih f.tl g
    rw [mulC, h]
    simp only [mulC, tl_c]; grind
theorem mulC_comm (n : Nat) : ∀ f g : Ser, mulC n f g = mulC n g f := by
  induction n with
  | zero => intro f g; simp only [mulC]; grind
  | succ n ih =>
    intro f g
    rw [mulC_right n g f, mulC, ih f.tl g]; grind
theorem tl_mul (f g : Ser) : (mul f g).tl = add (smul (f.c 0) g.tl) (mul f.tl g) := by
  apply ext'; intro n; rfl
theorem mulC_assoc (n : Nat) : ∀ f g h : Ser, mulC n (mul f g) h = mulC n f (mul g h) := by
  induction n with
  | zero => intro f g h; simp only [mulC, mul_c]; grind
  | succ n ih =>
    intro f g h
    have e : mulC (n + 1) (mul f g) h = (mul f g).c 0 * h.c (n + 1) + mulC n (mul f g).tl h := rfl
    rw [e, tl_mul, mulC_addL, mulC_smulL, ih]
    have e2 : mulC (n + 1) f (mul g h) = f.c 0 * mulC (n + 1) g h + mulC n f.tl (mul g h) := rfl
    rw [e2]
    simp only [mulC, mul_c]; grind
theorem mulC_th (n : Nat) : ∀ f g : Ser, mulC n (th f) g + mulC n f (th g) = (n : Rat) * mulC n f g := by
  induction n with
  | zero => intro f g; simp only [mulC, th_c]; grind
  | succ n ih =>
    intro f g
    have e : (th f).tl = add (th f.tl) f.tl := by
      apply ext'; intro k
      simp only [tl_c, th_c, add_c]
      have : ((k + 1 : Nat) : Rat) = (k : Rat) + 1 := by simp
      rw [this]; grind
    have h := ih f.tl g
    simp only [mulC, e, mulC_addL, th_c]
    have : ((n + 1 : Nat) : Rat) = (n : Rat) + 1 := by simp
    rw [this]; grind

/-! ### a commutative ring -/
instance : Add Ser := ⟨add⟩
instance : Mul Ser := ⟨mul⟩
instance : Neg Ser := ⟨neg⟩
instance : Sub Ser := ⟨fun f g => add f (neg g)⟩
instance : NatCast Ser := ⟨fun n => con (n : Rat)⟩
instance : IntCast Ser := ⟨fun n => con (n : Rat)⟩
instance instOf (n : Nat) : OfNat Ser n := ⟨con (n : Rat)⟩
instance : SMul Nat Ser := ⟨fun n f => con (n : Rat) * f⟩
instance : SMul Int Ser := ⟨fun n f => con (n : Rat) * f⟩
def npow (f : Ser) : Nat → Ser
  | 0 => 1
  | n + 1 => npow f n * f
instance : HPow Ser Nat Ser := ⟨npow⟩
theorem addC (f g : Ser) (n : Nat) : (f + g).c n = f.c n + g.c n := rfl
theorem negC (f : Ser) (n : Nat) : (-f).c n = -f.c n := rfl
theorem subC (f g : Ser) (n : Nat) : (f - g).c n = f.c n + -g.c n := rfl
theorem mulCC (f g : Ser) (n : Nat) : (f * g).c n = mulC n f g := rfl
theorem mulC_con (n : Nat) (a : Rat) (f : Ser) : mulC n (con a) f = a * f.c n := by
  have key : ∀ (n : Nat) (f : Ser), mulC n (con a).tl f = 0 := by
    intro n
    induction n with
    | zero => intro f; simp only [mulC, tl_c, con_cs]; grind
    | succ n ih =>
      intro f
      have e : (con a).tl.tl = (con a).tl := by apply ext'; intro k; rfl
      simp only [mulC, e, ih, tl_c, con_cs]; grind
  cases n with
  | zero => simp only [mulC, con_c0]
  | succ n => simp only [mulC, con_c0, key]; grind
theorem con_mul (a : Rat) (f : Ser) : con a * f = smul a f := by
  apply ext'; intro n
  rw [mulCC, mulC_con]; rfl
theorem mul_comm' (f g : Ser) : f * g = g * f := by apply ext'; intro n; exact mulC_comm n f g
theorem con_add (a b : Rat) : con (a + b) = con a + con b := by
  apply ext'; intro n
  cases n with
  | zero => rfl
  | succ n => simp only [addC, con_cs]; grind
theorem con_neg (a : Rat) : con (-a) = -con a := by
  apply ext'; intro n
  cases n with
  | zero => rfl
  | succ n => simp only [negC, con_cs]; grind
theorem con_con (a b : Rat) : con (a * b) = con a * con b := by
  rw [con_mul]; apply ext'; intro n
  cases n with
  | zero => rfl
  | succ n => simp only [smul_c, con_cs]; grind
theorem one_def : (1 : Ser) = con 1 := by show con ((1 : Nat) : Rat) = con 1; simp
theorem zero_def : (0 : Ser) = con 0 := by show con ((0 : Nat) : Rat) = con 0; simp
theorem zeroC (n : Nat) : (0 : Ser).c n = 0 := by
  rw [zero_def]; cases n <;> rfl
theorem one_mul' (f : Ser) : (1 : Ser) * f = f := by
  rw [one_def, con_mul]; apply ext'; intro n; simp only [smul_c]; grind
theorem zero_mul' (f : Ser) : (0 : Ser) * f = 0 := by
  rw [zero_def, con_mul]; apply ext'; intro n
  cases n with
  | zero => simp only [smul_c, con_c0]; grind
  | succ n => simp only [smul_c, con_cs]; grind
theorem right_distrib' (f g h : Ser) : (f + g) * h = f * h + g * h := by
  apply ext'; intro n; exact mulC_addL n f g h
instance : Lean.Grind.CommRing Ser where
  add_zero f := by apply ext'; intro n; rw [addC, zeroC]; grind
  add_comm f g := by apply ext'; intro n; simp only [addC]; grind
  add_assoc f g h := by apply ext'; intro n; simp only [addC]; grind
  mul_assoc f g h := by apply ext'; intro n; exact mulC_assoc n f g h
  mul_one f := by rw [mul_comm', one_mul']
  one_mul := one_mul'
  left_distrib f g h := by rw [mul_comm', right_distrib', mul_comm' g, mul_comm' h]
  right_distrib := right_distrib'
  zero_mul := zero_mul'
  mul_zero f := by rw [mul_comm', zero_mul']
  mul_comm := mul_comm'
  pow_zero _ := rfl
  pow_succ _ _ := rfl
  ofNat_succ n := by
    show con ((n + 1 : Nat) : Rat) = con (n : Rat) + 1
    rw [one_def, ← con_add]; congr 1; simp
  ofNat_eq_natCast _ := rfl
  nsmul_eq_natCast_mul _ _ := rfl
  neg_add_cancel f := by apply ext'; intro n; rw [addC, negC, zeroC]; grind
  sub_eq_add_neg _ _ := rfl
  neg_zsmul i f := by
    show con ((-i : Int) : Rat) * f = -(con (i : Rat) * f)
    rw [con_mul, con_mul]; apply ext'; intro n
    simp only [smul_c, negC]
    have : ((-i : Int) : Rat) = -(i : Rat) := by simp
    rw [this]; grind
  zsmul_natCast_eq_nsmul n f := by
    show con (((n : Int)) : Rat) * f = con (n : Rat) * f
    rfl
  intCast_ofNat n := by
    show con (((OfNat.ofNat n : Int)) : Rat) = con (n : Rat)
    congr 1
  intCast_neg i := by
    show con ((-i : Int) : Rat) = -con (i : Rat)
    rw [← con_neg]; congr 1
example (f g h : Ser) : (f + g) * h - h * g = f * h := by grind
theorem th_add (f g : Ser) : th (f + g) = th f + th g := by
  apply ext'; intro n; simp only [th_c, addC]; grind
theorem th_mul (f g : Ser) : th (f * g) = th f * g + f * th g := by
  apply ext'; intro n
  rw [th_c, mulCC, addC, mulCC, mulCC, mulC_th]
theorem th_con (a : Rat) : th (con a) = 0 := by
  apply ext'; intro n
  rw [zeroC]
  cases n with
  | zero => rw [th_c]; simp
  | succ n => rw [th_c, con_cs]; grind
theorem th_one : th (1 : Ser) = 0 := by rw [one_def]; exact th_con 1
theorem th_cmul (a : Rat) (f : Ser) : th (con a * f) = con a * th f := by
  rw [th_mul, th_con]; grind
theorem mul_c0 (f g : Ser) : (f * g).c 0 = f.c 0 * g.c 0 := rfl
/-- a series whose first number is not 0 may be cancelled -/
theorem cancel {u f g : Ser} (h0 : u.c 0 ≠ 0) (h : u * f = u * g) : f = g := by
  have key : ∀ n, ∀ k, k ≤ n → f.c k = g.c k := by
    intro n
    induction n with
    | zero =>
      intro k hk
      obtain rfl : k = 0 := by omega
      have e : (u * f).c 0 = (u * g).c 0 := by rw [h]
      rw [mul_c0, mul_c0] at e; grind
    | succ n ih =>
      intro k hk
      by_cases hk' : k ≤ n
      · exact ih k hk'
      · obtain rfl : k = n + 1 := by omega
        have low : ∀ (m : Nat) (v a b : Ser), (∀ k, k ≤ m → a.c k = b.c k) → mulC m v a = mulC m v b := by
          intro m
          induction m with
          | zero => intro v a b hab; simp only [mulC]; rw [hab 0 (Nat.le_refl 0)]
          | succ m ihm =>
            intro v a b hab
            simp only [mulC]
            rw [hab (m + 1) (Nat.le_refl _), ihm v.tl a b fun k hk => hab k (by omega)]
        have e : (u * f).c (n + 1) = (u * g).c (n + 1) := by rw [h]
        rw [mulCC, mulCC] at e
        simp only [mulC] at e
        rw [low n u.tl f g ih] at e
        grind
  apply ext'; intro n; exact key n n (Nat.le_refl n)
theorem th_inj {f g : Ser} (h0 : f.c 0 = g.c 0) (h : th f = th g) : f = g := by
  apply ext'; intro n
  cases n with
  | zero => exact h0
  | succ n =>
    have e : (th f).c (n + 1) = (th g).c (n + 1) := by rw [h]
    rw [th_c, th_c] at e
    have : ((n + 1 : Nat) : Rat) ≠ 0 := by exact_mod_cast Nat.succ_ne_zero n
    grind
end Ser
end K04
end
section
/-! Powers, logs, reciprocals of formal series: the recursions, their laws. -/
namespace K04

def sumN : Nat → (Nat → Rat) → Rat
  | 0, _ => 0
  | k + 1, f => sumN k f + f k
theorem sumN_congr {k : Nat} {f g : Nat → Rat} (h : ∀ j, j < k → f j = g j) : sumN k f = sumN k g := by
  induction k with
  | zero => rfl
  | succ k ih => simp only [sumN]; rw [ih fun j hj => h j (by omega), h k (by omega)]
theorem sumN_add (k : Nat) (f g : Nat → Rat) : sumN k (fun j => f j + g j) = sumN k f + sumN k g := by
  induction k with
  | zero => simp only [sumN]; grind
  | succ k ih => simp only [sumN, ih]; grind
theorem sumN_mul (k : Nat) (a : Rat) (f : Nat → Rat) : sumN k (fun j => a * f j) = a * sumN k f := by
  induction k with
  | zero => simp only [sumN]; grind
  | succ k ih => simp only [sumN, ih]; grind
theorem sumN_neg (k : Nat) (f : Nat → Rat) : sumN k (fun j => -f j) = -sumN k f := by
  induction k with
  | zero => simp only [sumN]; grind
  | succ k ih => simp only [sumN, ih]; grind
/-- the first one apart -/
theorem sumN_first (k : Nat) (f : Nat → Rat) : sumN (k + 1) f = f 0 + sumN k (fun j => f (j + 1)) := by
  induction k with
  | zero => simp only [sumN]; grind
  | succ k ih =>
    have e : sumN (k + 1 + 1) f = sumN (k + 1) f + f (k + 1) := rfl
    rw [e, ih]; simp only [sumN]; grind
theorem mulC_sum (n : Nat) : ∀ f g : Ser, Ser.mulC n f g = sumN (n + 1) (fun j => f.c j * g.c (n - j)) := by
  induction n with
  | zero => intro f g; simp only [Ser.mulC, sumN]; grind
  | succ n ih =>
    intro f g
    have e : Ser.mulC (n + 1) f g = f.c 0 * g.c (n + 1) + Ser.mulC n f.tl g := rfl
    rw [e, ih, sumN_first (n + 1)]
    congr 1
    refine sumN_congr fun j hj => ?_
    have e2 : n + 1 - (j + 1) = n - j := by omega
    rw [e2]; rfl

/-! ### a sequence by its earlier numbers -/
def solveL (st : Nat → (Nat → Rat) → Rat) : Nat → List Rat
  | 0 => []
  | n + 1 => solveL st n ++ [st n fun i => (solveL st n).getD i 0]
def solve (st : Nat → (Nat → Rat) → Rat) (n : Nat) : Rat := st n fun i => (solveL st n).getD i 0
theorem solveL_len (st : Nat → (Nat → Rat) → Rat) (n : Nat) : (solveL st n).length = n := by
  induction n with
  | zero => rfl
  | succ n ih => simp [solveL, ih]
theorem solveL_at (st : Nat → (Nat → Rat) → Rat) {n i : Nat} (h : i < n) : (solveL st n).getD i 0 = solve st i := by
  induction n with
  | zero => omega
  | succ n ih =>
    by_cases hi : i < n
    · simp only [solveL]
      rw [List.getD_eq_getElem?_getD, List.getElem?_append_left (by rw [solveL_len]; exact hi), ← List.getD_eq_getElem?_getD]
      exact ih hi
    · obtain rfl : i = n := by omega
      simp only [solveL]
      rw [List.getD_eq_getElem?_getD, List.getElem?_append_right (by rw [solveL_len]; exact Nat.le_refl _), solveL_len, Nat.sub_self]
      rfl
/-- st n looks only below n -/
def Low (st : Nat → (Nat → Rat) → Rat) : Prop := ∀ (n : Nat) (f g : Nat → Rat), (∀ i, i < n → f i = g i) → st n f = st n g
theorem solve_eq {st : Nat → (Nat → Rat) → Rat} (l : Low st) (n : Nat) : solve st n = st n (solve st) := l n _ _ fun _ hi => solveL_at st hi
theorem solve_uniq {st : Nat → (Nat → Rat) → Rat} (l : Low st) {f : Nat → Rat} (h : ∀ n, f n = st n f) (n : Nat) : f n = solve st n := by
  have key : ∀ m n, n ≤ m → f n = solve st n := by
    intro m
    induction m with
    | zero =>
      intro n hn
      obtain rfl : n = 0 := by omega
      rw [h, solve_eq l]
      exact l 0 _ _ fun i hi => by omega
    | succ m ih =>
      intro n hn
      rw [h, solve_eq l]
      exact l n _ _ fun i hi => ih i (by omega)
  exact key n n (Nat.le_refl n)
/-- two rules that agree up to N -/
theorem solve_congr {st st' : Nat → (Nat → Rat) → Rat} {N : Nat} (h : ∀ (n : Nat) (f g : Nat → Rat), n < N → (∀ i, i < n → f i = g i) → st n f = st' n g) : ∀ n, n < N → solve st n = solve st' n := by
  have key : ∀ m n, n ≤ m → n < N → solve st n = solve st' n := by
    intro m
    induction m with
    | zero =>
      intro n hn hN
      obtain rfl : n = 0 := by omega
      exact h 0 _ _ hN fun i hi => by omega
    | succ m ih =>
      intro n hn hN
      exact h n _ _ hN fun i hi => by
        rw [solveL_at st hi, solveL_at st' hi]
        exact ih i (by omega) (by omega)
  exact fun n => key n n (Nat.le_refl n)

/-! ### the three rules -/
def powTerm (t : Rat) (u p : Nat → Rat) (n i : Nat) : Rat := (t * ((i + 1 : Nat) : Rat) + (((i + 1 : Nat) : Rat) - (n : Rat))) * (u (i + 1) * p (n - (i + 1)))
def powSt (t : Rat) (u : Nat → Rat) (n : Nat) (p : Nat → Rat) : Rat := if n = 0 then 1 else sumN n (powTerm t u p n) / (n : Rat)
def logTerm (u w : Nat → Rat) (n i : Nat) : Rat := (-((i + 1 : Nat) : Rat) * w (i + 1)) * u (n - (i + 1))
def logSt (u : Nat → Rat) (n : Nat) (w : Nat → Rat) : Rat := if n = 0 then 0 else (u n * (n : Rat) + sumN (n - 1) (logTerm u w n)) / (n : Rat)
def recTerm (u r : Nat → Rat) (n i : Nat) : Rat := u (i + 1) * r (n - (i + 1))
def recSt (u : Nat → Rat) (n : Nat) (r : Nat → Rat) : Rat := if n = 0 then 1 / u 0 else (-sumN n (recTerm u r n)) / u 0
theorem powSt_congr {t : Rat} {u v : Nat → Rat} {N : Nat} (huv : ∀ i, i < N → u i = v i) (n : Nat) (f g : Nat → Rat) (hn : n < N) (h : ∀ i, i < n → f i = g i) : powSt t u n f = powSt t v n g := by
  unfold powSt
  split
  · rfl
  · congr 1
    refine sumN_congr fun j hj => ?_
    unfold powTerm
    rw [huv (j + 1) (by omega), h (n - (j + 1)) (by omega)]
theorem logSt_congr {u v : Nat → Rat} {N : Nat} (huv : ∀ i, i < N → u i = v i) (n : Nat) (f g : Nat → Rat) (hn : n < N) (h : ∀ i, i < n → f i = g i) : logSt u n f = logSt v n g := by
  unfold logSt
  split
  · rfl
  · rw [huv n hn]
    congr 2
    refine sumN_congr fun j hj => ?_
    unfold logTerm
    rw [huv (n - (j + 1)) (by omega), h (j + 1) (by omega)]
theorem recSt_congr {u v : Nat → Rat} {N : Nat} (huv : ∀ i, i < N → u i = v i) (n : Nat) (f g : Nat → Rat) (hn : n < N) (h : ∀ i, i < n → f i = g i) : recSt u n f = recSt v n g := by
  unfold recSt
  rw [huv 0 (by omega)]
  split
  · rfl
  · congr 2
    refine sumN_congr fun j hj => ?_
    unfold recTerm
    rw [huv (j + 1) (by omega), h (n - (j + 1)) (by omega)]
theorem powSt_low (t : Rat) (u : Nat → Rat) : Low (powSt t u) := fun n f g h => powSt_congr (N := n + 1) (fun _ _ => rfl) n f g (Nat.lt_succ_self n) h
theorem logSt_low (u : Nat → Rat) : Low (logSt u) := fun n f g h => logSt_congr (N := n + 1) (fun _ _ => rfl) n f g (Nat.lt_succ_self n) h
theorem recSt_low (u : Nat → Rat) : Low (recSt u) := fun n f g h => recSt_congr (N := n + 1) (fun _ _ => rfl) n f g (Nat.lt_succ_self n) h
namespace Ser
def pw (t : Rat) (u : Ser) : Ser := ⟨solve (powSt t u.c)⟩
def lg (u : Ser) : Ser := ⟨solve (logSt u.c)⟩
def rc (u : Ser) : Ser := ⟨solve (recSt u.c)⟩
theorem pw_eq (t : Rat) (u : Ser) (n : Nat) : (pw t u).c n = powSt t u.c n (pw t u).c := solve_eq (powSt_low t u.c) n
theorem lg_eq (u : Ser) (n : Nat) : (lg u).c n = logSt u.c n (lg u).c := solve_eq (logSt_low u.c) n
theorem rc_eq (u : Ser) (n : Nat) : (rc u).c n = recSt u.c n (rc u).c := solve_eq (recSt_low u.c) n
/-- agree below N -/
def Eqv (N : Nat) (f g : Ser) : Prop := ∀ i, i < N → f.c i = g.c i
theorem Eqv.rfl' {N : Nat} {f : Ser} : Eqv N f f := fun _ _ => rfl
theorem Eqv.symm {N : Nat} {f g : Ser} (h : Eqv N f g) : Eqv N g f := fun i hi => (h i hi).symm
theorem Eqv.trans {N : Nat} {f g k : Ser} (h : Eqv N f g) (h' : Eqv N g k) : Eqv N f k := fun i hi => (h i hi).trans (h' i hi)
theorem Eqv.mono {N M : Nat} {f g : Ser} (h : Eqv N f g) (hm : M ≤ N) : Eqv M f g := fun i hi => h i (by omega)
theorem Eqv.of {N : Nat} {f g : Ser} (h : f = g) : Eqv N f g := fun _ _ => by rw [h]
theorem Eqv.mul {N : Nat} {f f' g g' : Ser} (h : Eqv N f f') (k : Eqv N g g') : Eqv N (f * g) (f' * g') := fun i hi => by
  rw [mulCC, mulCC, mulC_sum, mulC_sum]
  exact sumN_congr fun j hj => by rw [h j (by omega), k (i - j) (by omega)]
theorem Eqv.add {N : Nat} {f f' g g' : Ser} (h : Eqv N f f') (k : Eqv N g g') : Eqv N (f + g) (f' + g') := fun i hi => by
  rw [addC, addC, h i hi, k i hi]
theorem Eqv.th {N : Nat} {f g : Ser} (h : Eqv N f g) : Eqv N f.th g.th := fun i hi => by
  rw [th_c, th_c, h i hi]
theorem Eqv.tl {N : Nat} {f g : Ser} (h : Eqv (N + 1) f g) : Eqv N f.tl g.tl := fun i hi => h (i + 1) (by omega)
theorem Eqv.pw {N : Nat} {f g : Ser} (t : Rat) (h : Eqv N f g) : Eqv N (pw t f) (pw t g) := solve_congr (N := N) fun n a b hn hab => powSt_congr h n a b hn hab
theorem Eqv.lg {N : Nat} {f g : Ser} (h : Eqv N f g) : Eqv N (lg f) (lg g) := solve_congr (N := N) fun n a b hn hab => logSt_congr h n a b hn hab
theorem Eqv.rc {N : Nat} {f g : Ser} (h : Eqv N f g) : Eqv N (rc f) (rc g) := solve_congr (N := N) fun n a b hn hab => recSt_congr h n a b hn hab

/-! ### what they are -/
structure IsPow (t : Rat) (u p : Ser) : Prop where
  one : p.c 0 = 1
  eq : u * th p = con t * (th u * p)
structure IsLog (u w : Ser) : Prop where
  zero : w.c 0 = 0
  eq : u * th w = th u
theorem natNe (n : Nat) (h : n ≠ 0) : (n : Rat) ≠ 0 := by
  intro e
  exact h (by exact_mod_cast e)
theorem pw_is {t : Rat} {u : Ser} (h0 : u.c 0 = 1) : IsPow t u (pw t u) := by
  refine ⟨by rw [pw_eq]; rfl, ext' fun n => ?_⟩
  rw [con_mul, smul_c, mulCC, mulCC, mulC_sum, mulC_sum, ← sumN_mul]
  cases n with
  | zero => simp only [sumN, th_c]; simp
  | succ n =>
    have e : (pw t u).c (n + 1) * ((n + 1 : Nat) : Rat) = sumN (n + 1) (powTerm t u.c (pw t u).c (n + 1)) := by
      rw [pw_eq]
      unfold powSt
      rw [if_neg (by omega)]
      have := natNe (n + 1) (by omega)
      grind
    rw [sumN_first (n + 1), sumN_first (n + 1)]
    have e1 : u.c 0 * (th (pw t u)).c (n + 1 - 0) = (pw t u).c (n + 1) * ((n + 1 : Nat) : Rat) := by
      rw [h0, th_c, Nat.sub_zero]; grind
    have e2 : t * ((th u).c 0 * (pw t u).c (n + 1 - 0)) = 0 := by
      rw [th_c]; simp
    rw [e1, e, e2, ← sumN_add]
    have e3 : (fun j => powTerm t u.c (pw t u).c (n + 1) j + u.c (j + 1) * (th (pw t u)).c (n + 1 - (j + 1))) = fun j => powTerm t u.c (pw t u).c (n + 1) j + u.c (j + 1) * (th (pw t u)).c (n + 1 - (j + 1)) := rfl
    have e4 : sumN (n + 1) (fun j => powTerm t u.c (pw t u).c (n + 1) j + u.c (j + 1) * (th (pw t u)).c (n + 1 - (j + 1))) = sumN (n + 1) (fun j => t * ((th u).c (j + 1) * (pw t u).c (n + 1 - (j + 1)))) := by
      refine sumN_congr fun j hj => ?_
      unfold powTerm
      rw [th_c, th_c]
      have e5 : ((n + 1 - (j + 1) : Nat) : Rat) = ((n + 1 : Nat) : Rat) - ((j + 1 : Nat) : Rat) := by
        have e6 : ((n + 1 - (j + 1) : Nat) : Rat) + ((j + 1 : Nat) : Rat) = ((n + 1 : Nat) : Rat) := by
          rw [← Rat.natCast_add]; congr 1; omega
        grind
      rw [e5]; grind
    rw [e4]; grind
theorem pow_uniq {t : Rat} {u p : Ser} (h0 : u.c 0 = 1) (h : IsPow t u p) : p = pw t u := by
  refine ext' fun n => solve_uniq (powSt_low t u.c) (f := p.c) (fun n => ?_) n
  unfold powSt
  cases n with
  | zero => rw [if_pos rfl, h.one]
  | succ n =>
    rw [if_neg (by omega)]
    have e : (u * th p).c (n + 1) = (con t * (th u * p)).c (n + 1) := by rw [h.eq]
    rw [con_mul, smul_c, mulCC, mulCC, mulC_sum, mulC_sum, ← sumN_mul, sumN_first (n + 1), sumN_first (n + 1)] at e
    have e1 : u.c 0 * (th p).c (n + 1 - 0) = p.c (n + 1) * ((n + 1 : Nat) : Rat) := by
      rw [h0, th_c, Nat.sub_zero]; grind
    have e2 : t * ((th u).c 0 * p.c (n + 1 - 0)) = 0 := by
      rw [th_c]; simp
    rw [e1, e2] at e
    have e4 : sumN (n + 1) (powTerm t u.c p.c (n + 1)) + sumN (n + 1) (fun j => u.c (j + 1) * (th p).c (n + 1 - (j + 1))) = sumN (n + 1) (fun j => t * ((th u).c (j + 1) * p.c (n + 1 - (j + 1)))) := by
      rw [← sumN_add]
      refine sumN_congr fun j hj => ?_
      unfold powTerm
      rw [th_c, th_c]
      have e5 : ((n + 1 - (j + 1) : Nat) : Rat) = ((n + 1 : Nat) : Rat) - ((j + 1 : Nat) : Rat) := by
        have e6 : ((n + 1 - (j + 1) : Nat) : Rat) + ((j + 1 : Nat) : Rat) = ((n + 1 : Nat) : Rat) := by
          rw [← Rat.natCast_add]; congr 1; omega
        grind
      rw [e5]; grind
    have := natNe (n + 1) (by omega)
    grind
theorem lg_is {u : Ser} (h0 : u.c 0 = 1) : IsLog u (lg u) := by
  refine ⟨by rw [lg_eq]; rfl, ext' fun n => ?_⟩
  rw [mulCC, mulC_sum]
  cases n with
  | zero => simp only [sumN, th_c]; simp; grind
  | succ n =>
    have e : (lg u).c (n + 1) * ((n + 1 : Nat) : Rat) = u.c (n + 1) * ((n + 1 : Nat) : Rat) + sumN n (logTerm u.c (lg u).c (n + 1)) := by
      rw [lg_eq]
      unfold logSt
      rw [if_neg (by omega)]
      have := natNe (n + 1) (by omega)
      show _ = u.c (n + 1) * ((n + 1 : Nat) : Rat) + sumN (n + 1 - 1) (logTerm u.c (lg u).c (n + 1))
      grind
    have c1 : sumN (n + 1 + 1) (fun j => u.c j * (th (lg u)).c (n + 1 - j)) = sumN (n + 1 + 1) (fun j => (th (lg u)).c j * u.c (n + 1 - j)) := by
      rw [← mulC_sum, ← mulC_sum, mulC_comm]
    rw [c1, sumN_first]
    have c2 : (th (lg u)).c 0 * u.c (n + 1 - 0) = 0 := by rw [th_c]; simp
    rw [c2]
    simp only [sumN]
    have c3 : (th (lg u)).c (n + 1) * u.c (n + 1 - (n + 1)) = (lg u).c (n + 1) * ((n + 1 : Nat) : Rat) := by
      rw [Nat.sub_self, h0, th_c]; grind
    rw [c3, e]
    have c4 : sumN n (fun j => (th (lg u)).c (j + 1) * u.c (n + 1 - (j + 1))) = -sumN n (logTerm u.c (lg u).c (n + 1)) := by
      rw [← sumN_neg]
      refine sumN_congr fun j hj => ?_
      unfold logTerm
      rw [th_c]; grind
    rw [c4, th_c]; grind
theorem log_uniq {u w w' : Ser} (h0 : u.c 0 = 1) (h : IsLog u w) (h' : IsLog u w') : w = w' := by
  refine th_inj (by rw [h.zero, h'.zero]) (cancel (u := u) (by rw [h0]; decide) (by rw [h.eq, h'.eq]))
theorem rc_is {u : Ser} (h0 : u.c 0 ≠ 0) : u * rc u = 1 := by
  refine ext' fun n => ?_
  rw [mulCC, mulC_sum, one_def]
  cases n with
  | zero =>
    have e : (rc u).c 0 = 1 / u.c 0 := by rw [rc_eq]; rfl
    simp only [sumN, Nat.sub_zero, e, con_c0]; grind
  | succ n =>
    have e : (rc u).c (n + 1) = (-sumN (n + 1) (recTerm u.c (rc u).c (n + 1))) / u.c 0 := by
      rw [rc_eq]
      unfold recSt
      rw [if_neg (by omega)]
    rw [sumN_first, con_cs, Nat.sub_zero, e]
    have e2 : sumN (n + 1) (fun j => u.c (j + 1) * (rc u).c (n + 1 - (j + 1))) = sumN (n + 1) (recTerm u.c (rc u).c (n + 1)) := rfl
    rw [e2]; grind
theorem rc_uniq {u r : Ser} (h0 : u.c 0 ≠ 0) (h : u * r = 1) : r = rc u := cancel h0 (by rw [h, rc_is h0])

/-! ### the laws -/
theorem IsPow.mul {t : Rat} {u w p q : Ser} (h : IsPow t u p) (k : IsPow t w q) : IsPow t (u * w) (p * q) := by
  refine ⟨by rw [mul_c0, h.one, k.one]; grind, ?_⟩
  rw [th_mul, th_mul]
  have a := h.eq
  have b := k.eq
  calc u * w * (th p * q + p * th q) = (u * th p) * (w * q) + (w * th q) * (u * p) := by grind
    _ = (con t * (th u * p)) * (w * q) + (con t * (th w * q)) * (u * p) := by rw [a, b]
    _ = con t * ((th u * w + u * th w) * (p * q)) := by grind
theorem IsPow.add {s t : Rat} {u p q : Ser} (h : IsPow s u p) (k : IsPow t u q) : IsPow (s + t) u (p * q) := by
  refine ⟨by rw [mul_c0, h.one, k.one]; grind, ?_⟩
  rw [th_mul, con_add]
  have a := h.eq
  have b := k.eq
  calc u * (th p * q + p * th q) = (u * th p) * q + (u * th q) * p := by grind
    _ = (con s * (th u * p)) * q + (con t * (th u * q)) * p := by rw [a, b]
    _ = (con s + con t) * (th u * (p * q)) := by grind
theorem IsPow.pow {s t : Rat} {u p q : Ser} (h : IsPow s u p) (k : IsPow t p q) : IsPow (s * t) u q := by
  refine ⟨k.one, cancel (u := p) (by rw [h.one]; decide) ?_⟩
  rw [con_con]
  have a := h.eq
  have b := k.eq
  calc p * (u * th q) = u * (p * th q) := by grind
    _ = u * (con t * (th p * q)) := by rw [b]
    _ = (u * th p) * (con t * q) := by grind
    _ = (con s * (th u * p)) * (con t * q) := by rw [a]
    _ = p * (con s * con t * (th u * q)) := by grind
theorem IsLog.pow {t : Rat} {u p w : Ser} (h0 : u.c 0 = 1) (h : IsPow t u p) (k : IsLog u w) : IsLog p (con t * w) := by
  refine ⟨by rw [mul_c0, k.zero]; grind, cancel (u := u) (by rw [h0]; decide) ?_⟩
  rw [th_cmul]
  have a := h.eq
  have b := k.eq
  calc u * (p * (con t * th w)) = (u * th w) * (con t * p) := by grind
    _ = th u * (con t * p) := by rw [b]
    _ = con t * (th u * p) := by grind
    _ = u * th p := by rw [a]
theorem IsLog.mul {u w a b : Ser} (h : IsLog u a) (k : IsLog w b) : IsLog (u * w) (a + b) := by
  refine ⟨by rw [addC, h.zero, k.zero]; grind, ?_⟩
  rw [th_add, th_mul]
  have c := h.eq
  have d := k.eq
  calc u * w * (th a + th b) = (u * th a) * w + u * (w * th b) := by grind
    _ = th u * w + u * th w := by rw [c, d]
theorem isPow_zero (u : Ser) : IsPow 0 u 1 := by
  refine ⟨by rw [one_def]; rfl, ?_⟩
  rw [th_one, ← zero_def]; grind
theorem isPow_one {u : Ser} (h0 : u.c 0 = 1) : IsPow 1 u u := by
  refine ⟨h0, ?_⟩
  rw [← one_def]; grind
theorem isPow_neg {u r : Ser} (h0 : u.c 0 = 1) (h : u * r = 1) : IsPow (-1) u r := by
  have hr : r.c 0 = 1 := by
    have e : (u * r).c 0 = (1 : Ser).c 0 := by rw [h]
    rw [mul_c0, h0, one_def, con_c0] at e; grind
  refine ⟨hr, ?_⟩
  have e : th (u * r) = 0 := by rw [h, th_one]
  rw [th_mul] at e
  rw [con_neg, ← one_def]; grind
/-- the slope's place i is the place i + 1 of th -/
theorem slope_mul (f g : Ser) (i : Nat) : (f * th g).c (i + 1) = mulC i f (th g).tl := by
  rw [mulCC, mulC_right, th_c]; simp; grind
theorem slope_mul' (f g : Ser) (i : Nat) : (th f * g).c (i + 1) = mulC i (th f).tl g := by
  rw [mulCC, mulC, th_c]; simp; grind
end Ser
end K04
end
section
/-! Rows: lists of rationals; the series' laws told of rows; sizes. -/
namespace K04
open Ser
def ser (l : List Rat) : Ser := ⟨fun n => l.getD n 0⟩
def toL (n : Nat) (f : Ser) : List Rat := (List.range n).map f.c
@[simp] theorem toL_len (n : Nat) (f : Ser) : (toL n f).length = n := by simp [toL]
theorem toL_get {n i : Nat} {f : Ser} (h : i < n) : (toL n f)[i]? = some (f.c i) := by
  simp [toL, List.getElem?_range h]
theorem ser_toL {n : Nat} {f : Ser} : Eqv n (ser (toL n f)) f := fun i hi => by
  show (toL n f).getD i 0 = f.c i
  rw [List.getD_eq_getElem?_getD, toL_get hi]; rfl
theorem toL_eq {n : Nat} {f g : Ser} (h : Eqv n f g) : toL n f = toL n g := by
  unfold toL
  refine List.map_congr_left fun i hi => h i (List.mem_range.mp hi)
theorem toL_ser (l : List Rat) : toL l.length (ser l) = l := by
  refine List.ext_getElem? fun i => ?_
  by_cases hi : i < l.length
  · rw [toL_get hi]
    show some (l.getD i 0) = _
    rw [List.getD_eq_getElem?_getD, List.getElem?_eq_getElem hi]; rfl
  · rw [List.getElem?_eq_none (by simp; omega), List.getElem?_eq_none (by omega)]
theorem ser_take {l : List Rat} {n : Nat} : Eqv n (ser (l.take n)) (ser l) := fun i hi => by
  show (l.take n).getD i 0 = l.getD i 0
  rw [List.getD_eq_getElem?_getD, List.getElem?_take, if_pos hi, ← List.getD_eq_getElem?_getD]
def mulL (l m : List Rat) : List Rat := toL l.length (ser l * ser m)
def addL (l m : List Rat) : List Rat := toL l.length (ser l + ser m)
def sclL (t : Rat) (l : List Rat) : List Rat := l.map fun q => q * t
def powL (t : Rat) (l : List Rat) : List Rat := toL l.length (pw t (ser l))
def logL (l : List Rat) : List Rat := toL l.length (lg (ser l))
def recL (l : List Rat) : List Rat := toL l.length (rc (ser l))
def slopeL (l : List Rat) : List Rat := toL (l.length - 1) (th (ser l)).tl
def oneL (n : Nat) : List Rat := toL n 1
@[simp] theorem mulL_len (l m : List Rat) : (mulL l m).length = l.length := by simp [mulL]
@[simp] theorem addL_len (l m : List Rat) : (addL l m).length = l.length := by simp [addL]
@[simp] theorem sclL_len (t : Rat) (l : List Rat) : (sclL t l).length = l.length := by simp [sclL]
@[simp] theorem powL_len (t : Rat) (l : List Rat) : (powL t l).length = l.length := by simp [powL]
@[simp] theorem logL_len (l : List Rat) : (logL l).length = l.length := by simp [logL]
@[simp] theorem recL_len (l : List Rat) : (recL l).length = l.length := by simp [recL]
@[simp] theorem slopeL_len (l : List Rat) : (slopeL l).length = l.length - 1 := by simp [slopeL]
@[simp] theorem oneL_len (n : Nat) : (oneL n).length = n := by simp [oneL]
theorem ser_scl (t : Rat) (l : List Rat) : ser (sclL t l) = con t * ser l := by
  refine ext' fun n => ?_
  rw [con_mul, smul_c]
  show (l.map fun q => q * t).getD n 0 = t * l.getD n 0
  rw [List.getD_eq_getElem?_getD, List.getD_eq_getElem?_getD, List.getElem?_map]
  cases l[n]? with
  | none => show (0 : Rat) = t * 0; grind
  | some q => show q * t = t * q; grind
theorem list_eq {l m : List Rat} {n : Nat} (h1 : l.length = n) (h2 : m.length = n) (h : Eqv n (ser l) (ser m)) : l = m := by
  rw [← toL_ser l, ← toL_ser m, h1, h2]; exact toL_eq h
section
variable {l m : List Rat} {n : Nat} {s t c : Rat}
theorem sc_mul (hn : l.length = n) : Eqv n (ser (mulL l m)) (ser l * ser m) := by rw [← hn]; exact ser_toL
theorem sc_add (hn : l.length = n) : Eqv n (ser (addL l m)) (ser l + ser m) := by rw [← hn]; exact ser_toL
theorem sc_pow (hn : l.length = n) : Eqv n (ser (powL t l)) (pw t (ser l)) := by rw [← hn]; exact ser_toL
theorem sc_log (hn : l.length = n) : Eqv n (ser (logL l)) (lg (ser l)) := by rw [← hn]; exact ser_toL
theorem sc_rec (hn : l.length = n) : Eqv n (ser (recL l)) (rc (ser l)) := by rw [← hn]; exact ser_toL
theorem sc_slope (hn : l.length = n + 1) : Eqv n (ser (slopeL l)) (th (ser l)).tl := by
  have e : n = l.length - 1 := by omega
  rw [e]; exact ser_toL
theorem c0_pow (h1 : 0 < l.length) (h0 : (ser l).c 0 = 1) : (ser (powL t l)).c 0 = 1 := by
  rw [sc_pow rfl 0 h1]; exact (pw_is h0).one
theorem c0_mul (h1 : 0 < l.length) (h0 : (ser l).c 0 = 1) (h0' : (ser m).c 0 = 1) : (ser (mulL l m)).c 0 = 1 := by
  rw [sc_mul rfl 0 h1, mul_c0, h0, h0']; grind
theorem c0_log (h1 : 0 < l.length) (h0 : (ser l).c 0 = 1) : (ser (logL l)).c 0 = 0 := by
  rw [sc_log rfl 0 h1]; exact (lg_is h0).zero
/-! ### the law's checks -/
theorem pow_so (hn : l.length = n + 1) (h0 : (ser l).c 0 = 1) : mulL (l.take n) (slopeL (powL t l)) = sclL t (mulL (slopeL l) ((powL t l).take n)) := by
  refine list_eq (n := n) (by simp [hn]) (by simp [hn]) ?_
  rw [ser_scl]
  have hp := sc_pow (t := t) hn
  have e1 : Eqv n (ser (mulL (l.take n) (slopeL (powL t l)))) (ser l * (th (pw t (ser l))).tl) :=
    (sc_mul (by simp [hn])).trans (.mul ser_take ((sc_slope (by simp [hn])).trans hp.th.tl))
  have e2 : Eqv n (con t * ser (mulL (slopeL l) ((powL t l).take n))) (con t * ((th (ser l)).tl * pw t (ser l))) :=
    .mul .rfl' ((sc_mul (by simp [hn])).trans (.mul (sc_slope hn) (ser_take.trans (hp.mono (Nat.le_succ n)))))
  refine e1.trans (Eqv.trans ?_ e2.symm)
  intro i hi
  have q := congrArg (fun f => f.c (i + 1)) (pw_is (t := t) h0).eq
  have q2 : (ser l * th (pw t (ser l))).c (i + 1) = (con t * (th (ser l) * pw t (ser l))).c (i + 1) := q
  rw [slope_mul, con_mul, smul_c, slope_mul'] at q2
  rw [con_mul, smul_c]
  exact q2
theorem log_so (hn : l.length = n + 1) (h0 : (ser l).c 0 = 1) : mulL (l.take n) (slopeL (logL l)) = slopeL l := by
  refine list_eq (n := n) (by simp [hn]) (by simp [hn]) ?_
  have hp := sc_log hn
  have e1 : Eqv n (ser (mulL (l.take n) (slopeL (logL l)))) (ser l * (th (lg (ser l))).tl) :=
    (sc_mul (by simp [hn])).trans (.mul ser_take ((sc_slope (by simp [hn])).trans hp.th.tl))
  refine e1.trans (Eqv.trans ?_ (sc_slope hn).symm)
  intro i hi
  have q2 : (ser l * th (lg (ser l))).c (i + 1) = (th (ser l)).c (i + 1) := by rw [(lg_is h0).eq]
  rw [slope_mul] at q2
  exact q2
theorem log_pow (h1 : 0 < l.length) (h0 : (ser l).c 0 = 1) : sclL c (logL l) = logL (powL c l) := by
  refine list_eq (n := l.length) (by simp) (by simp) ?_
  rw [ser_scl]
  have e : con c * lg (ser l) = lg (pw c (ser l)) := log_uniq (pw_is h0).one (IsLog.pow h0 (pw_is h0) (lg_is h0)) (lg_is (pw_is h0).one)
  have e1 : Eqv l.length (con c * ser (logL l)) (con c * lg (ser l)) := .mul .rfl' (sc_log rfl)
  have e2 : Eqv l.length (ser (logL (powL c l))) (lg (pw c (ser l))) := (sc_log (by simp)).trans (sc_pow rfl).lg
  exact e1.trans ((Eqv.of e).trans e2.symm)
theorem log_mul (hm : m.length = l.length) (h0 : (ser l).c 0 = 1) (h0' : (ser m).c 0 = 1) : logL (mulL l m) = addL (logL l) (logL m) := by
  refine list_eq (n := l.length) (by simp) (by simp) ?_
  have hc : (ser l * ser m).c 0 = 1 := by rw [mul_c0, h0, h0']; grind
  have e : lg (ser l * ser m) = lg (ser l) + lg (ser m) := log_uniq hc (lg_is hc) (.mul (lg_is h0) (lg_is h0'))
  have e1 : Eqv l.length (ser (logL (mulL l m))) (lg (ser l * ser m)) := (sc_log (by simp)).trans (sc_mul rfl).lg
  have e2 : Eqv l.length (ser (addL (logL l) (logL m))) (lg (ser l) + lg (ser m)) := (sc_add (by simp)).trans (.add (sc_log rfl) (by rw [← hm]; exact sc_log rfl))
  exact e1.trans ((Eqv.of e).trans e2.symm)
theorem pow_mulL (hm : m.length = l.length) (h0 : (ser l).c 0 = 1) (h0' : (ser m).c 0 = 1) : powL s (mulL l m) = mulL (powL s l) (powL s m) := by
  refine list_eq (n := l.length) (by simp) (by simp) ?_
  have hc : (ser l * ser m).c 0 = 1 := by rw [mul_c0, h0, h0']; grind
  have e : pw s (ser l) * pw s (ser m) = pw s (ser l * ser m) := pow_uniq hc (.mul (pw_is h0) (pw_is h0'))
  have e1 : Eqv l.length (ser (powL s (mulL l m))) (pw s (ser l * ser m)) := (sc_pow (by simp)).trans ((sc_mul rfl).pw s)
  have e2 : Eqv l.length (ser (mulL (powL s l) (powL s m))) (pw s (ser l) * pw s (ser m)) := (sc_mul (by simp)).trans (.mul (sc_pow rfl) (by rw [← hm]; exact sc_pow rfl))
  exact e1.trans ((Eqv.of e.symm).trans e2.symm)
theorem pow_addL (h0 : (ser l).c 0 = 1) : mulL (powL s l) (powL c l) = powL (s + c) l := by
  refine list_eq (n := l.length) (by simp) (by simp) ?_
  have e : pw s (ser l) * pw c (ser l) = pw (s + c) (ser l) := pow_uniq h0 (.add (pw_is h0) (pw_is h0))
  have e2 : Eqv l.length (ser (mulL (powL s l) (powL c l))) (pw s (ser l) * pw c (ser l)) := (sc_mul (by simp)).trans (.mul (sc_pow rfl) (sc_pow rfl))
  exact e2.trans ((Eqv.of e).trans (sc_pow rfl).symm)
theorem pow_powL (h0 : (ser l).c 0 = 1) : powL c (powL s l) = powL (s * c) l := by
  refine list_eq (n := l.length) (by simp) (by simp) ?_
  have e : pw c (pw s (ser l)) = pw (s * c) (ser l) := pow_uniq h0 (.pow (pw_is h0) (pw_is (pw_is h0).one))
  have e2 : Eqv l.length (ser (powL c (powL s l))) (pw c (pw s (ser l))) := (sc_pow (by simp)).trans ((sc_pow rfl).pw c)
  exact e2.trans ((Eqv.of e).trans (sc_pow rfl).symm)
theorem rec_mul (h0 : (ser l).c 0 ≠ 0) : mulL l (recL l) = oneL l.length := by
  refine list_eq (n := l.length) (by simp) (by simp) ?_
  have e2 : Eqv l.length (ser (mulL l (recL l))) (ser l * rc (ser l)) := (sc_mul rfl).trans (.mul .rfl' (sc_rec rfl))
  exact e2.trans ((Eqv.of (rc_is h0)).trans ser_toL.symm)
theorem rc_c0 {u : Ser} (h0 : u.c 0 ≠ 0) : (rc u).c 0 ≠ 0 := by
  intro e
  have h : (u * rc u).c 0 = (1 : Ser).c 0 := by rw [rc_is h0]
  rw [mul_c0, e, one_def, con_c0] at h
  grind
theorem rec_c0 (h1 : 0 < l.length) (h0 : (ser l).c 0 ≠ 0) : (ser (recL l)).c 0 ≠ 0 := by
  rw [sc_rec rfl 0 h1]; exact rc_c0 h0
theorem rec_rec (h0 : (ser l).c 0 ≠ 0) : recL (recL l) = l := by
  refine list_eq (n := l.length) (by simp) (by simp) ?_
  have e : ser l = rc (rc (ser l)) := rc_uniq (rc_c0 h0) (by rw [mul_comm']; exact rc_is h0)
  have e2 : Eqv l.length (ser (recL (recL l))) (rc (rc (ser l))) := (sc_rec (by simp)).trans (sc_rec rfl).rc
  exact e2.trans (Eqv.of e.symm)
/-- j products by m -/
def timesL (m : List Rat) (n : Nat) : Nat → List Rat
  | 0 => oneL n
  | j + 1 => mulL (timesL m n j) m
@[simp] theorem timesL_len (m : List Rat) (n j : Nat) : (timesL m n j).length = n := by
  induction j with
  | zero => simp [timesL]
  | succ j ih => simp [timesL, ih]
theorem times_gen {a : Rat} {u p : Ser} (h0 : u.c 0 = 1) (hp : IsPow a u p) (hm : Eqv n (ser m) p) (j : Nat) : ∃ q, IsPow ((j : Rat) * a) u q ∧ Eqv n (ser (timesL m n j)) q := by
  induction j with
  | zero => exact ⟨1, by have := isPow_zero u; simpa using this, ser_toL⟩
  | succ j ih =>
    obtain ⟨q, h1, h2⟩ := ih
    refine ⟨q * p, ?_, (sc_mul (by simp)).trans (.mul h2 hm)⟩
    have h3 := h1.add hp
    have e : ((j + 1 : Nat) : Rat) * a = (j : Rat) * a + a := by rw [Rat.natCast_add]; grind
    rw [e]; exact h3
theorem times_pos (h0 : (ser l).c 0 = 1) (j : Nat) : timesL l l.length j = powL (j : Rat) l := by
  obtain ⟨q, h1, h2⟩ := times_gen (n := l.length) h0 (isPow_one h0) .rfl' j
  refine list_eq (n := l.length) (by simp) (by simp) (h2.trans ?_)
  have e : (j : Rat) * 1 = (j : Rat) := by grind
  rw [e] at h1
  rw [pow_uniq h0 h1]
  exact (sc_pow rfl).symm
theorem times_neg (h0 : (ser l).c 0 = 1) (j : Nat) : timesL (recL l) l.length j = powL (-(j : Rat)) l := by
  have h0' : (ser l).c 0 ≠ 0 := by rw [h0]; decide
  obtain ⟨q, h1, h2⟩ := times_gen (n := l.length) h0 (isPow_neg h0 (rc_is h0')) (sc_rec rfl) j
  refine list_eq (n := l.length) (by simp) (by simp) (h2.trans ?_)
  have e : (j : Rat) * -1 = -(j : Rat) := by grind
  rw [e] at h1
  rw [pow_uniq h0 h1]
  exact (sc_pow rfl).symm
end
end K04
end
section
/-! Sizes: common denominators of rows. -/
namespace K04
open Ser
/-- x is z / D with |z| <= B -/
def Bz (D B : Nat) (x : Rat) : Prop := ∃ z : Int, x * (D : Rat) = (z : Rat) ∧ z.natAbs ≤ B
section
variable {D E B C : Nat} {x y : Rat}
theorem Bz.mono (h : Bz D B x) (hB : B ≤ C) : Bz D C x := by
  obtain ⟨z, e, l⟩ := h
  exact ⟨z, e, Nat.le_trans l hB⟩
theorem Bz.mul (h : Bz D B x) (k : Bz E C y) : Bz (D * E) (B * C) (x * y) := by
  obtain ⟨z, e, l⟩ := h
  obtain ⟨v, f, m⟩ := k
  refine ⟨z * v, ?_, by rw [Int.natAbs_mul]; exact Nat.mul_le_mul l m⟩
  rw [Rat.natCast_mul, Rat.intCast_mul, ← e, ← f]; grind
theorem Bz.add (h : Bz D B x) (k : Bz D C y) : Bz D (B + C) (x + y) := by
  obtain ⟨z, e, l⟩ := h
  obtain ⟨v, f, m⟩ := k
  refine ⟨z + v, ?_, Nat.le_trans (Int.natAbs_add_le z v) (by omega)⟩
  rw [Rat.intCast_add, ← e, ← f]; grind
theorem Bz.neg (h : Bz D B x) : Bz D B (-x) := by
  obtain ⟨z, e, l⟩ := h
  refine ⟨-z, ?_, by omega⟩
  rw [Rat.intCast_neg, ← e]; grind
theorem Bz.up (E : Nat) (h : Bz D B x) : Bz (D * E) (B * E) x := by
  obtain ⟨z, e, l⟩ := h
  refine ⟨z * (E : Int), ?_, by rw [Int.natAbs_mul, Int.natAbs_natCast]; exact Nat.mul_le_mul l (Nat.le_refl E)⟩
  rw [Rat.natCast_mul, Rat.intCast_mul, ← e, Rat.intCast_natCast]; grind
theorem Bz.int (z : Int) : Bz 1 z.natAbs (z : Rat) := ⟨z, by simp, Nat.le_refl _⟩
theorem Bz.nat (n : Nat) : Bz 1 n (n : Rat) := ⟨(n : Int), by rw [Rat.intCast_natCast]; simp, by simp⟩
theorem mulDen (q : Rat) : q * (q.den : Rat) = (q.num : Rat) := by
  have h : (q.den : Rat) ≠ 0 := natNe q.den q.den_nz
  have e := Rat.num_divInt_den q
  rw [Rat.divInt_eq_div, Rat.intCast_natCast] at e
  have e2 : q = (q.num : Rat) / (q.den : Rat) := e.symm
  grind
theorem Bz.self (q : Rat) : Bz q.den q.num.natAbs q := ⟨q.num, mulDen q, Nat.le_refl _⟩
theorem Bz.zero : Bz D B 0 := ⟨0, by simp, by simp⟩
theorem Bz.div {n : Nat} (hn : 0 < n) (h : Bz D B x) : Bz (D * n) B (x / (n : Rat)) := by
  obtain ⟨z, e, l⟩ := h
  refine ⟨z, ?_, l⟩
  have := natNe n (by omega)
  rw [Rat.natCast_mul, ← e]; grind
theorem Bz.sum {k : Nat} {f : Nat → Rat} (h : ∀ j, j < k → Bz D B (f j)) : Bz D (k * B) (sumN k f) := by
  induction k with
  | zero => exact .zero
  | succ k ih =>
    have a := (ih fun j hj => h j (by omega)).add (h k (by omega))
    exact a.mono (by rw [Nat.succ_mul]; exact Nat.le_refl _)
theorem Bz.size (hD : 0 < D) (h : Bz D B x) : x.den ≤ D ∧ x.num.natAbs ≤ B := by
  obtain ⟨z, e, l⟩ := h
  have hD' : (D : Rat) ≠ 0 := natNe D (by omega)
  have e2 : x = Rat.divInt z D := by
    rw [Rat.divInt_eq_div, Rat.intCast_natCast, ← e]; grind
  have hd : x.den ∣ D := by
    have a := mulDen x
    have q : x.num * (D : Int) = z * (x.den : Int) := by
      have a2 : (x.num : Rat) * (D : Rat) = (z : Rat) * (x.den : Rat) := by rw [← e, ← a]; grind
      exact_mod_cast a2
    have c := x.reduced
    have d1 : x.den ∣ x.num.natAbs * D := by
      have d2 := congrArg Int.natAbs q
      rw [Int.natAbs_mul, Int.natAbs_mul, Int.natAbs_natCast, Int.natAbs_natCast] at d2
      exact ⟨z.natAbs, by rw [d2, Nat.mul_comm]⟩
    exact Nat.Coprime.dvd_of_dvd_mul_left c.symm d1
  have hden := Nat.le_of_dvd hD hd
  refine ⟨hden, Nat.le_trans ?_ l⟩
  have a := mulDen x
  obtain ⟨k, hk⟩ := hd
  have hk0 : 0 < k := Nat.pos_of_ne_zero fun z => by rw [z] at hk; omega
  have q : x.num * (k : Int) = z := by
    have a2 : (x.num : Rat) * (k : Rat) = (z : Rat) := by
      rw [← e, ← a, hk, Rat.natCast_mul]; grind
    exact_mod_cast a2
  rw [← q, Int.natAbs_mul, Int.natAbs_natCast]
  exact Nat.le_mul_of_pos_right _ hk0
end

/-- f's first n numbers over one denominator -/
def Bd (a b : Nat) (f : Nat → Rat) (n : Nat) : Prop := ∃ D : Nat, 0 < D ∧ D ≤ 2 ^ a ∧ ∀ j, j < n → Bz D (2 ^ b) (f j)
/-- sizes of one number -/
def Sq (a b : Nat) (q : Rat) : Prop := q.den ≤ 2 ^ a ∧ q.num.natAbs ≤ 2 ^ b
section
variable {a b a' b' n m : Nat} {f g : Nat → Rat} {t : Rat}
theorem pp (n : Nat) : 0 < 2 ^ n := Nat.pow_pos (by decide)
theorem pl {n m : Nat} (h : n ≤ m) : 2 ^ n ≤ 2 ^ m := Nat.pow_le_pow_right (by decide) h
theorem Bd.at (h : Bd a b f n) {j : Nat} (hj : j < n) : Sq a b (f j) := by
  obtain ⟨D, h1, h2, h3⟩ := h
  obtain ⟨p, q⟩ := (h3 j hj).size h1
  exact ⟨Nat.le_trans p h2, q⟩
theorem Sq.mono (h : Sq a b t) (ha : a ≤ a') (hb : b ≤ b') : Sq a' b' t := ⟨Nat.le_trans h.1 (pl ha), Nat.le_trans h.2 (pl hb)⟩
theorem Bd.mono (h : Bd a b f n) (ha : a ≤ a') (hb : b ≤ b') (hm : m ≤ n) : Bd a' b' f m := by
  obtain ⟨D, h1, h2, h3⟩ := h
  exact ⟨D, h1, Nat.le_trans h2 (pl ha), fun j hj => (h3 j (by omega)).mono (pl hb)⟩
theorem Bd.congr (h : Bd a b f n) (e : ∀ i, i < n → g i = f i) : Bd a b g n := by
  obtain ⟨D, h1, h2, h3⟩ := h
  exact ⟨D, h1, h2, fun j hj => by rw [e j hj]; exact h3 j hj⟩
theorem mle {a b c d : Nat} (h : a ≤ 2 ^ c) (k : b ≤ 2 ^ d) : a * b ≤ 2 ^ (c + d) := by
  rw [Nat.pow_add]; exact Nat.mul_le_mul h k
theorem ale {a b c : Nat} (h : a ≤ 2 ^ c) (k : b ≤ 2 ^ c) : a + b ≤ 2 ^ (c + 1) := by
  rw [Nat.pow_succ]; omega
/-- a sum of products, in part -/
theorem Bd.psum (h : Bd a b f n) (k : Bd a' b' g n) {i p : Nat} (hi : i < n) (hp : p ≤ i + 1) (hn : n ≤ 16) : ∃ D, 0 < D ∧ D ≤ 2 ^ (a + a') ∧ Bz D (2 ^ (b + b' + 4)) (sumN p fun j => f j * g (i - j)) := by
  obtain ⟨D, h1, h2, h3⟩ := h
  obtain ⟨E, k1, k2, k3⟩ := k
  refine ⟨D * E, Nat.mul_pos h1 k1, mle h2 k2, (Bz.sum fun j hj => (h3 j (by omega)).mul (k3 (i - j) (by omega))).mono ?_⟩
  rw [← Nat.pow_add, Nat.mul_comm]
  have e : p ≤ 2 ^ 4 := by
    have : (2 : Nat) ^ 4 = 16 := rfl
    omega
  exact mle (Nat.le_refl _) e
theorem Bd.mul {u w : Ser} (h : Bd a b u.c n) (k : Bd a' b' w.c n) (hn : n ≤ 16) : Bd (a + a') (b + b' + 4) (u * w).c n := by
  obtain ⟨D, h1, h2, h3⟩ := h
  obtain ⟨E, k1, k2, k3⟩ := k
  refine ⟨D * E, Nat.mul_pos h1 k1, mle h2 k2, fun i hi => ?_⟩
  rw [mulCC, mulC_sum]
  refine (Bz.sum fun j hj => (h3 j (by omega)).mul (k3 (i - j) (by omega))).mono ?_
  rw [← Nat.pow_add, Nat.mul_comm]
  have e : i + 1 ≤ 2 ^ 4 := by
    have : (2 : Nat) ^ 4 = 16 := rfl
    omega
  exact mle (Nat.le_refl _) e
theorem Bd.add {u w : Ser} (h : Bd a b u.c n) (k : Bd a' b' w.c n) : Bd (a + a') (a + b + a' + b' + 1) (u + w).c n := by
  obtain ⟨D, h1, h2, h3⟩ := h
  obtain ⟨E, k1, k2, k3⟩ := k
  refine ⟨D * E, Nat.mul_pos h1 k1, mle h2 k2, fun i hi => ?_⟩
  rw [addC]
  have p := (h3 i hi).up E
  have q := (k3 i hi).up D
  rw [Nat.mul_comm E D] at q
  refine (p.add q).mono (ale (c := a + b + a' + b') ?_ ?_)
  · exact Nat.le_trans (mle (Nat.le_refl _) k2) (pl (by omega))
  · exact Nat.le_trans (mle (Nat.le_refl _) h2) (pl (by omega))
theorem Bd.scl {c d : Nat} {u : Ser} (h : Bd a b u.c n) (ht : Sq c d t) : Bd (c + a) (d + b) (con t * u).c n := by
  obtain ⟨D, h1, h2, h3⟩ := h
  refine ⟨t.den * D, Nat.mul_pos t.den_pos h1, mle ht.1 h2, fun i hi => ?_⟩
  rw [con_mul, smul_c]
  exact ((Bz.self t).mul (h3 i hi)).mono (mle ht.2 (Nat.le_refl _))
theorem Bd.th {u : Ser} (h : Bd a b u.c n) (hn : n ≤ 16) : Bd a (b + 4) (th u).c n := by
  obtain ⟨D, h1, h2, h3⟩ := h
  refine ⟨D, h1, h2, fun i hi => ?_⟩
  rw [th_c]
  have e := (Bz.nat i).mul (h3 i hi)
  rw [Nat.one_mul] at e
  refine e.mono ?_
  rw [Nat.mul_comm]
  exact mle (Nat.le_refl _) (by have : (2 : Nat) ^ 4 = 16 := rfl; omega)
theorem Bd.tl {u : Ser} (h : Bd a b u.c (n + 1)) : Bd a b u.tl.c n := by
  obtain ⟨D, h1, h2, h3⟩ := h
  exact ⟨D, h1, h2, fun i hi => h3 (i + 1) (by omega)⟩
/-- a step of a recursion over one denominator -/
theorem bd_step {D E B M : Nat} {k : Nat} (hB : ∀ j, j < k → Bz D B (f j)) (hM : E ≤ M) (hk : Bz (D * E) (B * M) (f k)) : ∀ j, j < k + 1 → Bz (D * E) (B * M) (f j) := by
  intro j hj
  by_cases q : j < k
  · exact ((hB j q).up E).mono (Nat.mul_le_mul (Nat.le_refl _) hM)
  · obtain rfl : j = k := by omega
    exact hk
theorem Bd.pw {c d : Nat} {u : Ser} (ht : Sq c d t) (h : Bd a b u.c n) (hn : n ≤ 16) (k : Nat) (hk : k < n) :
    ∃ D, 0 < D ∧ D ≤ 2 ^ ((c + a + 4) * k) ∧ ∀ j, j < k + 1 → Bz D (2 ^ ((a + b + c + d + 10) * k)) ((pw t u).c j) := by
  obtain ⟨Du, h1, h2, h3⟩ := h
  induction k with
  | zero =>
    refine ⟨1, by decide, by simp, fun j hj => ?_⟩
    obtain rfl : j = 0 := by omega
    have e : (Ser.pw t u).c 0 = ((1 : Nat) : Rat) := by rw [pw_eq]; simp [powSt]
    rw [e]
    exact (Bz.nat 1).mono (by simp)
  | succ k ih =>
    obtain ⟨D, d1, d2, d3⟩ := ih (by omega)
    have sixteen : (2 : Nat) ^ 4 = 16 := rfl
    have hk4 : k + 1 ≤ 2 ^ 4 := by omega
    have ek1 : (c + a + 4) * (k + 1) = (c + a + 4) * k + (c + a + 4) := Nat.mul_succ _ _
    have ek2 : (a + b + c + d + 10) * (k + 1) = (a + b + c + d + 10) * k + (a + b + c + d + 10) := Nat.mul_succ _ _
    refine ⟨D * (t.den * Du * (k + 1)), Nat.mul_pos d1 (Nat.mul_pos (Nat.mul_pos t.den_pos h1) (by omega)), ?_, ?_⟩
    · rw [ek1, Nat.pow_add]
      exact Nat.mul_le_mul d2 (mle (mle ht.1 h2) hk4)
    · rw [ek2, Nat.pow_add]
      refine bd_step d3 (Nat.le_trans (mle (mle ht.1 h2) hk4) (pl (by omega))) ?_
      have e : (Ser.pw t u).c (k + 1) = sumN (k + 1) (powTerm t u.c (Ser.pw t u).c (k + 1)) / ((k + 1 : Nat) : Rat) := by
        rw [pw_eq]; unfold powSt; rw [if_neg (by omega)]
      rw [e]
      have q : Bz (t.den * (Du * D)) ((k + 1) * (((t.num.natAbs * (k + 1)) + (k + 1) * t.den) * (2 ^ b * 2 ^ ((a + b + c + d + 10) * k)))) (sumN (k + 1) (powTerm t u.c (Ser.pw t u).c (k + 1))) := by
        refine Bz.sum fun j hj => ?_
        unfold powTerm
        refine Bz.mul ?_ ((h3 (j + 1) (by omega)).mul (d3 (k + 1 - (j + 1)) (by omega)))
        refine Bz.add ?_ ?_
        · have z := (Bz.self t).mul (Bz.nat (j + 1))
          rw [Nat.mul_one] at z
          exact z.mono (Nat.mul_le_mul (Nat.le_refl _) (by omega))
        · have z := (Bz.int (((j + 1 : Nat) : Int) - ((k + 1 : Nat) : Int))).up t.den
          rw [Nat.one_mul, Rat.intCast_sub, Rat.intCast_natCast, Rat.intCast_natCast] at z
          exact z.mono (Nat.mul_le_mul (by omega) (Nat.le_refl _))
      have z := q.div (n := k + 1) (by omega)
      have eD : t.den * (Du * D) * (k + 1) = D * (t.den * Du * (k + 1)) := by
        rw [Nat.mul_comm Du D, ← Nat.mul_assoc, Nat.mul_comm t.den D, Nat.mul_assoc D, Nat.mul_assoc D]
      rw [eD] at z
      refine z.mono ?_
      have g1 : t.num.natAbs * (k + 1) + (k + 1) * t.den ≤ 2 ^ (c + d + 4 + 1) := ale (Nat.le_trans (mle ht.2 hk4) (pl (by omega))) (Nat.le_trans (mle hk4 ht.1) (pl (by omega)))
      have g2 := mle hk4 (mle g1 (mle (Nat.le_refl (2 ^ b)) (Nat.le_refl (2 ^ ((a + b + c + d + 10) * k)))))
      refine Nat.le_trans g2 ?_
      rw [← Nat.pow_add]
      exact pl (by omega)
theorem Bd.pow {c d : Nat} {u : Ser} (ht : Sq c d t) (h : Bd a b u.c n) (hn : n ≤ 16) : Bd ((c + a + 4) * (n - 1)) ((a + b + c + d + 10) * (n - 1)) (Ser.pw t u).c n := by
  cases n with
  | zero => exact ⟨1, by decide, pp _, fun j hj => by omega⟩
  | succ n => exact Bd.pw ht h hn n (by omega)
theorem Bd.lg' {u : Ser} (h : Bd a b u.c n) (hn : n ≤ 16) (k : Nat) (hk : k < n) :
    ∃ D, 0 < D ∧ D ≤ 2 ^ ((a + 4) * k) ∧ ∀ j, j < k + 1 → Bz D (2 ^ ((a + b + 10) * k)) ((lg u).c j) := by
  obtain ⟨Du, h1, h2, h3⟩ := h
  induction k with
  | zero =>
    refine ⟨1, by decide, by simp, fun j hj => ?_⟩
    obtain rfl : j = 0 := by omega
    have e : (Ser.lg u).c 0 = 0 := by rw [lg_eq]; rfl
    rw [e]
    exact .zero
  | succ k ih =>
    obtain ⟨D, d1, d2, d3⟩ := ih (by omega)
    have sixteen : (2 : Nat) ^ 4 = 16 := rfl
    have hk4 : k + 1 ≤ 2 ^ 4 := by omega
    have ek1 : (a + 4) * (k + 1) = (a + 4) * k + (a + 4) := Nat.mul_succ _ _
    have ek2 : (a + b + 10) * (k + 1) = (a + b + 10) * k + (a + b + 10) := Nat.mul_succ _ _
    refine ⟨D * (Du * (k + 1)), Nat.mul_pos d1 (Nat.mul_pos h1 (by omega)), ?_, ?_⟩
    · rw [ek1, Nat.pow_add]
      exact Nat.mul_le_mul d2 (mle h2 hk4)
    · rw [ek2, Nat.pow_add]
      refine bd_step d3 (Nat.le_trans (mle h2 hk4) (pl (by omega))) ?_
      have e : (Ser.lg u).c (k + 1) = (u.c (k + 1) * ((k + 1 : Nat) : Rat) + sumN k (logTerm u.c (Ser.lg u).c (k + 1))) / ((k + 1 : Nat) : Rat) := by
        rw [lg_eq]; unfold logSt; rw [if_neg (by omega)]; rfl
      rw [e]
      have q1 : Bz (Du * D) (2 ^ b * (k + 1) * D) (u.c (k + 1) * ((k + 1 : Nat) : Rat)) := by
        have z := ((h3 (k + 1) (by omega)).mul (Bz.nat (k + 1))).up D
        rw [Nat.mul_one] at z
        exact z
      have q2 : Bz (Du * D) (k * ((k + 1) * 2 ^ ((a + b + 10) * k) * 2 ^ b)) (sumN k (logTerm u.c (Ser.lg u).c (k + 1))) := by
        refine Bz.sum fun j hj => ?_
        unfold logTerm
        have z := (((Bz.nat (j + 1)).neg.mul (d3 (j + 1) (by omega))).mul (h3 (k + 1 - (j + 1)) (by omega)))
        rw [Nat.one_mul, Nat.mul_comm D Du] at z
        exact z.mono (Nat.mul_le_mul (Nat.mul_le_mul (by omega) (Nat.le_refl _)) (Nat.le_refl _))
      have z := (q1.add q2).div (n := k + 1) (by omega)
      have eD : Du * D * (k + 1) = D * (Du * (k + 1)) := by
        rw [Nat.mul_comm Du D, Nat.mul_assoc]
      rw [eD] at z
      refine z.mono ?_
      have g0 : k ≤ 2 ^ 4 := by omega
      have g3 : (a + 4) * k ≤ (a + b + 10) * k := Nat.mul_le_mul (by omega) (Nat.le_refl _)
      have g1 := mle (mle (Nat.le_refl (2 ^ b)) hk4) d2
      have g2 := mle g0 (mle (mle hk4 (Nat.le_refl (2 ^ ((a + b + 10) * k)))) (Nat.le_refl (2 ^ b)))
      have g4 := ale (c := (a + b + 10) * k + b + 8) (Nat.le_trans g1 (pl (by omega))) (Nat.le_trans g2 (pl (by omega)))
      refine Nat.le_trans g4 ?_
      rw [← Nat.pow_add]
      exact pl (by omega)
theorem Bd.log {u : Ser} (h : Bd a b u.c n) (hn : n ≤ 16) : Bd ((a + 4) * (n - 1)) ((a + b + 10) * (n - 1)) (Ser.lg u).c n := by
  cases n with
  | zero => exact ⟨1, by decide, pp _, fun j hj => by omega⟩
  | succ n => exact Bd.lg' h hn n (by omega)
theorem Bd.rc' {u : Ser} (h : Bd a b u.c n) (h0 : u.c 0 ≠ 0) (hn : n ≤ 16) (k : Nat) (hk : k < n) :
    ∃ D, 0 < D ∧ D ≤ 2 ^ (b * (k + 1)) ∧ ∀ j, j < k + 1 → Bz D (2 ^ (a + (b + 4) * k)) ((rc u).c j) := by
  obtain ⟨Du, h1, h2, h3⟩ := h
  obtain ⟨z0, e0, l0⟩ := h3 0 (by omega)
  have hDu : (Du : Rat) ≠ 0 := natNe Du (by omega)
  have hz : z0 ≠ 0 := fun q => by
    rw [q] at e0
    have : u.c 0 * (Du : Rat) ≠ 0 := by grind
    simp at e0
    grind
  have hz1 : 0 < z0.natAbs := by omega
  -- the sign
  obtain ⟨s, hs, hs2⟩ : ∃ s : Int, s.natAbs = 1 ∧ ((z0.natAbs : Nat) : Rat) = (s : Rat) * (z0 : Rat) := by
    by_cases q : 0 ≤ z0
    · refine ⟨1, rfl, ?_⟩
      have : ((z0.natAbs : Nat) : Int) = 1 * z0 := by omega
      rw [← Rat.intCast_mul, ← this, Rat.intCast_natCast]
    · refine ⟨-1, rfl, ?_⟩
      have : ((z0.natAbs : Nat) : Int) = -1 * z0 := by omega
      rw [← Rat.intCast_mul, ← this, Rat.intCast_natCast]
  induction k with
  | zero =>
    refine ⟨z0.natAbs, hz1, Nat.le_trans l0 (pl (by omega)), fun j hj => ?_⟩
    obtain rfl : j = 0 := by omega
    have e : (Ser.rc u).c 0 = 1 / u.c 0 := by rw [rc_eq]; rfl
    refine ⟨s * (Du : Int), ?_, by rw [Int.natAbs_mul, hs, Int.natAbs_natCast, Nat.one_mul]; exact Nat.le_trans h2 (pl (by omega))⟩
    rw [e, hs2, ← e0, Rat.intCast_mul, Rat.intCast_natCast]; grind
  | succ k ih =>
    obtain ⟨D, d1, d2, d3⟩ := ih (by omega)
    refine ⟨D * z0.natAbs, Nat.mul_pos d1 hz1, ?_, ?_⟩
    · rw [Nat.mul_succ, Nat.pow_add]
      exact Nat.mul_le_mul d2 l0
    · have e3 : a + (b + 4) * (k + 1) = (a + (b + 4) * k) + (b + 4) := by rw [Nat.mul_succ]; omega
      rw [e3, Nat.pow_add 2 (a + (b + 4) * k)]
      refine bd_step d3 (Nat.le_trans l0 (pl (by omega))) ?_
      have e : (Ser.rc u).c (k + 1) = (-sumN (k + 1) (recTerm u.c (Ser.rc u).c (k + 1))) / u.c 0 := by
        rw [rc_eq]; unfold recSt; rw [if_neg (by omega)]
      have q : Bz (Du * D) ((k + 1) * (2 ^ b * 2 ^ (a + (b + 4) * k))) (sumN (k + 1) (recTerm u.c (Ser.rc u).c (k + 1))) :=
        Bz.sum fun j hj => (h3 (j + 1) (by omega)).mul (d3 (k + 1 - (j + 1)) (by omega))
      obtain ⟨v, ev, lv⟩ := q
      refine ⟨-s * v, ?_, ?_⟩
      · rw [e, Rat.natCast_mul, hs2, ← e0, Rat.intCast_mul, Rat.intCast_neg, ← ev, Rat.natCast_mul]; grind
      · rw [Int.natAbs_mul, Int.natAbs_neg, hs, Nat.one_mul]
        refine Nat.le_trans lv ?_
        have hk4 : k + 1 ≤ 2 ^ 4 := by
          have : (2 : Nat) ^ 4 = 16 := rfl
          omega
        refine Nat.le_trans (mle hk4 (mle (Nat.le_refl (2 ^ b)) (Nat.le_refl (2 ^ (a + (b + 4) * k))))) ?_
        rw [← Nat.pow_add]
        exact pl (by omega)
theorem Bd.rec {u : Ser} (h : Bd a b u.c n) (h0 : u.c 0 ≠ 0) (hn : n ≤ 16) : Bd (b * n) (a + (b + 4) * (n - 1)) (Ser.rc u).c n := by
  cases n with
  | zero => exact ⟨1, by decide, pp _, fun j hj => by omega⟩
  | succ n => exact Bd.rc' h h0 hn n (by omega)
end
end K04
end
section
set_option Elab.async false
set_option linter.all false
set_option maxRecDepth 100000
set_option maxHeartbeats 4000000
/-! Own rules: operators of an own class, a staticmethod off its class, calls by keywords alone. -/
namespace K4
open PySem PySem.Spec PyProof.Rows L2

theorem back_of {v : V} {u : Value} {Q : Value → Shared → Prop} {s : Shared} (r : RelV v u) (h : Q u s) : PySem.W.CmpBack Q u s := by
  cases v
  case non => obtain rfl : u = Value.none := r; exact h
  case bl b => obtain rfl : u = Value.bool b := r; exact h
  case int i => obtain ⟨t, rfl⟩ := r; exact h
  case str x => obtain ⟨t, rfl⟩ := r; exact h
  case byt b => obtain ⟨t, rfl⟩ := r; exact h
  case flt b => obtain ⟨t, rfl⟩ := r; exact h
  case ref a => obtain rfl : u = Value.ref a := r; exact h
  case ty n => obtain rfl : u = Value.type n := r; exact h

section
variable {X : Cx} {CX : CXT} {k : Nat} {C f : Addr} {fd : FuncData} {ps : List Str} {sp : Sp} {E : XK}

/-- x op y, both instances of the class at C, which defines op by the def at f -/
def rOwn (C : Addr) (sp : Sp) (E : XK) : R2 := fun x y H Q => ∃ a b dx fs dy gs, x = .ref a ∧ y = .ref b ∧ H a = some (.ins C dx fs) ∧ H b = some (.ins C dy gs) ∧ sp [.ref a, .ref b] H Q E
theorem op_own {op : Operator} (hc : PySem.W.selfFirst X.K C = true) (hs : PySem.W.findIn X.K (.ref C) (PySem.dunder op.info.2) = some (some (.ref f))) (hf : PySem.W.isFn X.K (.ref f) = true)
    (F : FnOk X.prog X.w X.K X.mg X.base CX k f fd ps sp) (hr : Room k X.A) (hb : Binds X.K fd ps []) (hx : Passes CX X E) : OpR X (binaryOp op) (rOwn C sp E) := by
  intro pins s σ H x y v u Q I rx ry h
  obtain ⟨a, b, dx, fs, dy, gs, rfl, rfl, ha, hb2, q⟩ := h
  obtain rfl : v = Value.ref a := rx
  obtain rfl : u = Value.ref b := ry
  obtain ⟨_, ja, _⟩ := ins_get I.hok ha
  obtain ⟨_, jb, _⟩ := ins_get I.hok hb2
  obtain ⟨_, ja, _⟩ := ja.look
  obtain ⟨_, jb, _⟩ := jb.look
  obtain ⟨m, fr⟩ := I.fr
  refine PySem.W.binop_K fr I.mod.kin ja jb.type hc hs hf ?_
  refine thn (run_fn (vs := [.ref a, .ref b]) (us := [Value.ref a, Value.ref b]) F hr hb .nil hx I (.cons rfl (.cons rfl .nil)) q) fun r s2 z => ?_
  obtain ⟨x, H2, I2, rr, q2⟩ := z
  exact back_of rr ⟨x, H2, I2, rr, q2⟩

/-- C.m is a staticmethod: its record at p, its def at g -/
structure SMet (K : PySem.W.Frag) (C : Addr) (m : Str) (p g : Addr) : Prop where
  rd : ClX.CRead K C (.type "type")
  find : PySem.W.findCls K (.ref C) (.type "type") m = some (.get (.builtin "staticmethod.__get__") (.ref p) .none (.ref C))
  rc : ∃ more, PySem.W.recIn K p "staticmethod" = some (.ref g :: more)
  kp : PySem.W.keepIn K (.ref g) = true
/-- C.m(e ..), C a class of the top, m a staticmethod -/
def tSMet (C : Addr) (sp : Sp) (E : XK) (ta : TE) (t : TA) : TE := fun σ H Q => ta σ H fun x H1 => x = .ref C ∧ t σ H1 fun vs H2 => sp vs H2 Q E
theorem pe_smet {m : Str} {p g : Addr} {o e : Expr} {es : List Expr} {pos apos : Pos} {ta : TE} {t : TA} {pl : Sem Bool} (ho : PE X o ta) (S : SMet X.K C m p g) (F : FnOk X.prog X.w X.K X.mg X.base CX k g fd ps sp) (hr : Room k X.A) (hb : Binds X.K fd ps []) (hx : Passes CX X E) (ha : PA X (e :: es) t)
    (hst : starEach (e :: es) X.env = (false, eval e X.env) :: starEach es X.env := by rfl) (hpl : (backTo pos (starEach es X.env)).any (·.1) = false := by rfl)
    (ht : eval (.Call (.Attribute o m apos) (e :: es) [] pos) X.env = (do
      let ov ← eval o X.env
      standAt apos.atName
      let (f, first) ← holding [ov] (getMethod ov m pl)
      callWith pos f first (backTo pos (starEach (e :: es) X.env)) (backToKw pos (keywordEach [] X.env))) := by rfl) :
    PE X (.Call (.Attribute o m apos) (e :: es) [] pos) (tSMet C sp E ta t) := by
  refine ⟨fun pins s σ H Q I h => PySem.W.methodCall_KW (pl := pl) (thn (ho.run pins s σ H _ I h) fun u s1 z => ?_) ht⟩
  obtain ⟨x, H1, I1, rx, ex, q⟩ := z
  subst ex
  obtain rfl : u = Value.ref C := rx
  obtain ⟨more, hrc⟩ := S.rc
  refine PySem.W.method_cls I1.kIn S.rd.ga (PySem.W.cls_bind I1.kIn S.rd.rd S.find (wpAny_call ?_))
  have I2 := I1.tok (s1.toks + 1)
  refine PySem.W.sm_get I2.kIn hrc (PySem.W.handed_on rfl ?_)
  refine PySem.W.callWith_K (h₀ := X.base) I.ok.mod.kin S.kp (thn (ha.run pos pins _ σ H1 _ I2 q) fun us s3 w => ?_) hst hpl
  obtain ⟨vs, H3, I3, rv, q3⟩ := w
  refine ⟨I3.kIn, run_fn F hr hb .nil hx I3 rv ?_⟩
  rw [List.append_nil]
  exact q3

/-- f(k = v, ..) -/
def tKw (sp : Sp) (gV : List V → List V → List V) (E : XK) (tk : TA) : TE := fun σ H Q => tk σ H fun zs H2 => sp (gV [] zs) H2 Q E
theorem pe_kw {x : Str} {p pos : Pos} {ks : List Str} {kws : List Keyword} {tk : TA} {g : List Value → List Value → List Value} {gV : List V → List V → List V} (F : FnOk X.prog X.w X.K X.mg X.base CX k f fd ps sp) (hr : Room k X.A) (hg : Gl X x) (hm : X.mg x = some (.ref f))
    (hk : PySem.W.keepIn X.K (.ref f) = true) (hb : KBinds X.K fd ps ks g gV) (hx : Passes CX X E) (hkw : PK X kws tk) (hall : (backToKw pos (keywordEach kws X.env)).all (·.1.isSome) = true := by rfl)
    (hks : (backToKw pos (keywordEach kws X.env)).filterMap (·.1) = ks := by rfl) (hpl : ((backTo pos (starEach [] X.env)).any (·.1) || (backToKw pos (keywordEach kws X.env)).any (·.1.isNone)) = false := by rfl) (hdb : (x == ("__debug__" : Str)) = false := by decide) :
    PE X (.Call (.Name x p) [] kws pos) (tKw sp gV E tk) := by
  refine ⟨fun pins s σ H Q I h => wpAny_Call_Name_kw (ld_glob I hg hm ?_ hdb)⟩
  refine PySem.W.callWith_KW0 (h₀ := X.base) I.ok.mod.kin hk hall (thn (hkw.run pos pins s σ H _ I h) fun ws s2 z => ?_) hpl
  obtain ⟨zs, H2, I2, rz, q⟩ := z
  rw [hks]
  exact ⟨I2.kIn, run_fnk (us := []) (vs := []) F hr hb hx I2 .nil rz q⟩
/-- two parameters, both by keywords, the second one first -/
def swapG {α : Type} : List α → List α → List α
  | [], [a, b] => [b, a]
  | _, _ => []
def oneG {α : Type} : List α → List α → List α
  | [], [a] => [a]
  | _, _ => []
theorem kb_swap {K : PySem.W.Frag} {a b : Str} (h : ∀ u v : Value, bindArgs fd ⟨[], [b, a].zip [v, u]⟩ = pure ([a, b].zip [u, v])) : KBinds K fd [a, b] [b, a] swapG swapG := by
  refine ⟨fun s us ws _ hl => ?_, fun {vs us zs ws} r rz => ?_⟩
  · match us, ws, hl with
    | [], [v, u], _ => exact .of_eq (h u v)
  · cases r with
    | cons _ _ => exact .nil
    | nil =>
      cases rz with
      | nil => exact .nil
      | cons r1 rz =>
        cases rz with
        | nil => exact .nil
        | cons r2 rz =>
          cases rz with
          | nil => exact .cons r2 (.cons r1 .nil)
          | cons _ _ => exact .nil
theorem kb_one {K : PySem.W.Frag} {a : Str} (h : ∀ u : Value, bindArgs fd ⟨[], [a].zip [u]⟩ = pure ([a].zip [u])) : KBinds K fd [a] [a] oneG oneG := by
  refine ⟨fun s us ws _ hl => ?_, fun {vs us zs ws} r rz => ?_⟩
  · match us, ws, hl with
    | [], [u], _ => exact .of_eq (h u)
  · cases r with
    | cons _ _ => exact .nil
    | nil =>
      cases rz with
      | nil => exact .nil
      | cons r1 rz =>
        cases rz with
        | nil => exact .cons r1 .nil
        | cons _ _ => exact .nil
end
end K4
end
section
set_option Elab.async false
set_option linter.all false
set_option maxRecDepth 100000
set_option maxHeartbeats 4000000
/-! Own rules: errors of own classes over ArithmeticError. -/
namespace K4
open PySem PySem.Spec PyProof.Rows L2

abbrev aeTail : List Value := [.type "ArithmeticError", .type "Exception", .type "BaseException", .type "object"]
/-- what the written part says of such a class -/
structure AeC (K : PySem.W.Frag) (C : Addr) : Prop where
  made : PySem.W.excInitIn K C aeTail "ArithmeticError.__new__" = true
  over : PySem.W.excOver K C aeTail = true
  dct : PySem.W.hasDictIn K C = true
  sa : PySem.W.findIn K (.ref C) "__setattr__" = some (some (.builtin "object.__setattr__"))
  exC : PySem.W.subIn K (.ref C) (.type "BaseException") = some true
  tyC : PySem.W.typeIn K (.ref C) = some (.type "type")
  kC : PySem.W.keepIn K (.ref C) = true

section
variable {prog : Program} {w : World} {A : Around} {E : Value → Shared → Prop} {s : Shared} {K : PySem.W.Frag} {x C t : Addr} {name : Str} {v : Value} {Q : Unit → Shared → Prop}
theorem ae_store (T : AeC K C) (X : K.In s.heap) (hx : s.heap.get? x = some (PySem.W.excObj C t none .none)) (ht : PySem.W.takerIn K C name = some none)
    (hq : ∀ h' tk' dx, (∀ b o, b ≠ x → s.heap.get? b = some o → h'.get? b = some o) → s.heap.objs.size ≤ dx → dx ≠ x → h'.get? x = some (PySem.W.excObj C t (some dx) .none) →
      h'.Ns1 dx (fun y => if y = name then some v else none) → Q () { s with heap := h', toks := tk' }) : wpAny (model prog w) A (setAttr (.ref x) name v) Q E s := by
  have hxs : x ≠ s.heap.objs.size := Nat.ne_of_lt (Heap.lt_size hx)
  refine PySem.W.set_plain (od := none) X ⟨hx, rfl, rfl, trivial⟩ T.sa ?_
  refine PySem.W.osa_openX (s := { s with toks := s.toks + 1 }) PySem.F.store_ArithmeticError (od := none) X ⟨hx, rfl, rfl, trivial⟩ T.over ht fun b => ?_
  obtain ⟨cd, hc, hd⟩ := PySem.W.any_some T.dct
  refine wpAny_bind (wpAny_pure (wpAny_bind (PySem.W.instanceDict_exc (s := { s with toks := s.toks + 1 }) hx (PySem.W.looks_clsIn X hc) hd ?_)))
  show wpAny _ _ (Builtin.ObjectAttr.storeInDict s.heap.objs.size _ name v) _ _ _
  have at1 : ((s.heap.push (PySem.W.dictOf [] 0)).update x fun o => { o with dict := some s.heap.objs.size }).get? s.heap.objs.size = some (PySem.W.dictOf [] 0) :=
    (Heap.get?_update_ne _ _ _ _ hxs.symm).trans (Heap.get?_push_at rfl rfl)
  have at2 : ((s.heap.push (PySem.W.dictOf [] 0)).update x fun o => { o with dict := some s.heap.objs.size }).get? x = some (PySem.W.excObj C t (some s.heap.objs.size) .none) :=
    Heap.get?_update_self _ (Heap.get?_push_of_some _ hx) rfl
  refine PySem.PX.store_in_new ⟨_, #[], _, at1, rfl, fun e he => absurd he (by simp), fun _ => rfl⟩ fun h' tk' hn sb => ?_
  refine hq h' tk' s.heap.objs.size (fun b o hb ho => ?_) (Nat.le_refl _) hxs.symm ((sb.2 x hxs).trans at2) hn
  exact (sb.2 b (Nat.ne_of_lt (Heap.lt_size ho))).trans ((Heap.get?_update_ne _ _ _ _ hb).trans (Heap.get?_push_of_some _ ho))
end
section
variable {X : Cx} {pins : List (Addr × Obj)} {σ : L2.St} {H : Hp} {s : Shared} {a C : Addr} {f : Str} {y : V} {u : Value} {Q : Unit → Shared → Prop} {E : Value → Shared → Prop} {A : Around}
theorem ae_new (T : AeC X.K C) (I : Inv X pins σ H s) (e : H a = some (exo a C none)) (ht : PySem.W.takerIn X.K C f = some none) (ry : RelV y u)
    (h : ∀ dx s', H dx = none → dx ≠ a → Inv X pins σ (upd (upd H dx (exd dx [(f, y)])) a (exo a C (some dx))) s' → Q () s') : wpAny (model X.prog X.w) A (setAttr (.ref a) f u) Q E s := by
  obtain ⟨t1, ho⟩ := exo_at I.hok e
  refine ae_store T I.kIn ho ht fun h' tk' dx k dn dne hx hn => ?_
  have dfree : H dx = none := I.hok.fresh dn
  have back : ∀ b, b ≠ a → (h'.update a fun _ => PySem.W.excObj C t1 none .none).get? b = h'.get? b := fun b hb => Heap.get?_update_ne _ _ _ _ hb
  have olda : (h'.update a fun _ => PySem.W.excObj C t1 none .none).get? a = some (PySem.W.excObj C t1 none .none) := Heap.get?_update_self _ hx rfl
  have hd1 : ObjOk X.prog X.w (upd H dx (exd dx [(f, y)])) (h'.update a fun _ => PySem.W.excObj C t1 none .none) dx (exd dx [(f, y)]) :=
    exd_ok (hn.at fun o q => (back dx dne).trans q) (relO_put (fs := []) ry fun _ => True.intro)
  have J := I.laid (t' := tk') (fun b o q => by
    by_cases hb : b = a
    · rw [hb] at q ⊢
      rw [ho] at q
      rw [olda]
      exact q
    · rw [back b hb]
      exact k b o hb q) dn hd1
  have ea : upd H dx (exd dx [(f, y)]) a = some (exo a C none) := by rw [upd_ne dne.symm]; exact e
  have J2 := J.write (t' := tk') (h' := h') (x := a) (e := a) (o := exo a C (some dx)) (by rw [ea]; exact True.intro) (.inl rfl) (fun b o hb q => (back b hb).symm.trans q) ⟨_, hx⟩ (exo_ok hx)
  exact h dx _ dfree dne J2
/-- self.f = e in such a class's __init__, the first store -/
def tAeo (K : PySem.W.Frag) (f : Str) (to te : TE) : TS := fun D σ H => te σ H fun y H1 => to σ H1 fun x H2 => ∃ a C : Addr, x = .ref a ∧ AeC K C ∧ PySem.W.takerIn K C f = some none ∧ H2 a = some (exo a C none) ∧
  ∀ dx, H2 dx = none → dx ≠ a → D.nx σ (upd (upd H2 dx (exd dx [(f, y)])) a (exo a C (some dx)))
theorem ps_aeo {o e : Expr} {to te : TE} {p' pos : Pos} (ho : PE X o to) (he : PE X e te) (hs : swapsWith e (some (.Attribute o f p')) pos.line X.env = pure false := by rfl) : PS X (.Assign [.Attribute o f p'] e pos) (tAeo X.K f to te) := by
  refine ⟨fun pins s σ H D I h => plainObj_wpAny_Assign_Attribute (thn (he.run pins s σ H _ I h) fun v s1 z => ?_) hs⟩
  obtain ⟨y, H1, I1, r1, q1⟩ := z
  refine thn (ho.run pins s1 σ H1 _ I1 q1) fun u s2 z2 => ?_
  obtain ⟨x, H2, I2, r2, a, C, ex, T, ht, ea, q⟩ := z2
  subst ex
  obtain rfl : u = Value.ref a := r2
  exact ae_new T I2 ea ht r1 fun dx s' n ne J => ⟨σ, _, J, q dx n ne⟩
/-- C(), C's own __init__ keeping sp -/
def tMkA (C : Addr) (sp : Sp) : L2.St → Hp → XK → Prop := fun σ H Q => ∀ a, H a = none → sp [.ref a] (upd H a (exo a C none))
  (fun v H2 => v = .non ∧ ∃ (d : Addr) (fs : List (Str × V)), H2 a = some (exo a C (some d)) ∧ H2 d = some (exd d fs) ∧ H d = none ∧ Q (.ref C) (some d) (upd (del H2 a) d (.xd fs))) (fun _ _ _ => False)
theorem pmk_ae {CX : CXT} {x : Str} {fI : Addr} {k : Nat} {fd : FuncData} {ps : List Str} {sp : Sp} {p pos : Pos} (T : AeC X.K C) (iC : PySem.W.findIn X.K (.ref C) "__init__" = some (some (.ref fI))) (tI : PySem.W.typeIn X.K (.ref fI) = some (.type "function"))
    (F : FnOk X.prog X.w X.K X.mg X.base CX k fI fd ps sp) (hr : Room (k + 1) X.A) (hb : Binds X.K fd ps []) (hx : Passes CX X (fun _ _ _ => False)) (hg : Gl X x) (hm : X.mg x = some (.ref C)) (hdb : (x == ("__debug__" : Str)) = false := by decide) :
    PMk X (.Call (.Name x p) [] [] pos) (tMkA C sp) := by
  intro pins s σ H Q I h
  obtain ⟨nm, N, qn, bs, bm, hdct, sn, sub, ab, col, dd, k0, k1, k2, k3, k5, hC, hT⟩ := PySem.W.excInit_of I.kIn T.made
  refine wpAny_Call_Name_kw (ld_glob I hg hm ?_ hdb)
  refine PySem.W.callWith_K0 I.kIn T.kC ?_
  show wpAny _ _ (call (.ref C) []) _ _ _
  have kIn := I.kIn
  obtain ⟨hp, g, dr, tk, os⟩ := s
  have hsz : hp.objs.size ≤ hp.objs.size + 1 := Nat.le_succ _
  have hq := h (hp.objs.size + 1) (I.hok.fresh hsz)
  have old : ∀ b o, hp.get? b = some o → ((hp.push (PySem.W.kdv_tup [])).push (PySem.PX.excO C hp.objs.size)).get? b = some o := fun b o e => Heap.get?_push_of_some _ (Heap.get?_push_of_some _ e)
  have here : ((hp.push (PySem.W.kdv_tup [])).push (PySem.PX.excO C hp.objs.size)).get? (hp.objs.size + 1) = some (PySem.PX.excO C hp.objs.size) := by heap_get
  have I2 : Inv X pins σ (upd H (hp.objs.size + 1) (exo (hp.objs.size + 1) C none)) ⟨(hp.push (PySem.W.kdv_tup [])).push (PySem.PX.excO C hp.objs.size), g, dr, tk, os⟩ :=
    I.laid (t' := tk) (o := exo (hp.objs.size + 1) C none) old hsz (exo_ok here)
  have r2 : Vals [V.ref (hp.objs.size + 1)] [Value.ref (hp.objs.size + 1)] := .cons rfl .nil
  have hl : [Value.ref (hp.objs.size + 1)].length = ps.length := (F.len _ _ _ _ hq).symm ▸ rfl
  have bb := hb _ [Value.ref (hp.objs.size + 1)] I2.kIn hl
  refine wpAny_call (PySem.PX.call_own PySem.F.excBase_ArithmeticError hT hC (PySem.W.looks_findIn kIn iC) (fun self => PySem.W.bind_fn kIn self tI) (Nat.zero_le _)
    (codeAny_mono (F.run _ X.stack _ _ ⟨[Value.ref (hp.objs.size + 1)], []⟩ [Value.ref (hp.objs.size + 1)] _ _ (fun _ _ _ => False) (hr.make C [] []) (I2.env0.make C [] []) bb r2 hq) fun r s' z => ?_))
  cases r with
  | error er => exact hx pins σ _ _ er s' I2 z
  | ok fl =>
    cases fl with
    | ret u =>
      obtain ⟨v, H2, os2, bare2, un2, hok2, rv, ev, d, fs, ea, ed, hd1, q2⟩ := z
      subst ev
      obtain ⟨h2, g2, d2, t2, os'⟩ := s'
      exact ⟨rv, mk_end (raises_own T.exC T.tyC) I hsz old un2 hok2 os2 bare2 ea ed hd1 q2⟩
    | next => exact z.elim
    | brk => exact z.elim
    | cont => exact z.elim
end
end K4
end
section
set_option Elab.async false
set_option linter.all false
set_option maxRecDepth 100000
set_option maxHeartbeats 4000000
/-! Own rules: try with several clauses that name the error. -/
namespace K4
open PySem PySem.Spec PyProof.Rows L2

/-- a clause's class and its suite's reading -/
abbrev Clause : Type := Value × (Addr → Value → Option Addr → TS)
/-- behind a suite the name's slot is empty -/
def offEnds (i : Nat) (D : Ends) : Ends := { nx := fun σ H => D.nx (σ.set i none) H, rt := D.rt, bk := fun σ H => D.bk (σ.set i none) H, ct := fun σ H => D.ct (σ.set i none) H }
/-- what the clauses wish, one after the other -/
def wNamed (K : PySem.W.Frag) (i m : Nat) (D : Ends) : List Clause → WX
  | [] => fun _ _ _ _ => False
  | p :: more => fun cls d σ H => ∃ b, PySem.W.exmOne K cls p.1 = some b ∧ (b = true → ∀ a, H a = none → σ.length = m → p.2 a cls d (offEnds i D) (σ.set i (some (.ref a))) H) ∧ (b = false → wNamed K i m D more cls d σ H)
/-- the clauses, each «except x as n» -/
inductive Clauses (X : Cx) (n : Str) : List ExceptHandler → List Clause → Prop
  | none : Clauses X n [] []
  | more {x : Str} {p : Clause} {b0 : Stmt} {suite : List Stmt} {np pos' : Pos} {hds : List ExceptHandler} {l : List Clause} (hc : Names X x p.1)
      (hsu : ∀ (a : Addr) (oe : Obj) (cls : Value) (d : Option Addr) (pn : List (Addr × Obj)), Zc cls d oe → (∃ vs, oe.data = .fields vs) → PSs (X.suite a ((a, oe) :: pn)) (b0 :: suite) (p.2 a cls d)) (r : Clauses X n hds l) :
      Clauses X n (.ExceptHandler (some (.Name x np)) (some n) (b0 :: suite) pos' :: hds) (p :: l)
section
variable {X : Cx} {n : Str} {i : Nat} {body : List Stmt} {h0 : ExceptHandler} {hds : List ExceptHandler} {l : List Clause} {pos : Pos} {tb : WX → TS}
/-- where the error has come to this frame's clauses -/
structure Come (X : Cx) (pins : List (Addr × Obj)) (σ : L2.St) (H : Hp) (cls : Value) (d : Option Addr) (B : Heap) (a : Addr) (sI s : Shared) : Prop where
  inv : Inv X pins σ H sI
  nb : ∀ b o, sI.heap.get? b = some o → b ∉ frs X.stack → B.get? b = some o
  up : sI.heap.UpToSlots s.heap
  fly : HandSPX.FlyingZ B (X.env :: X.outer) a (Zc cls d) s.heap
  new : H a = none
  os : s.os = sI.os
  bare : AllBare s.gens
theorem Come.here {pins : List (Addr × Obj)} {σ : L2.St} {H : Hp} {cls : Value} {d : Option Addr} {B : Heap} {a : Addr} {sI s : Shared} (c : Come X pins σ H cls d B a sI s) : Inv X pins σ H s := c.inv.landed c.nb c.fly.1 c.up c.os c.bare
theorem Come.on {pins : List (Addr × Obj)} {σ : L2.St} {H : Hp} {cls : Value} {d : Option Addr} {B : Heap} {a : Addr} {sI s : Shared} {h' : Heap} (c : Come X pins σ H cls d B a sI s) (fl : HandSPX.FlyingZ B (X.env :: X.outer) a (Zc cls d) h') (up : s.heap.UpToSlots h') :
    Come X pins σ H cls d B a sI { s with heap := h' } := ⟨c.inv, c.nb, c.up.trans up, fl, c.new, c.os, c.bare⟩
/-- the state as the clauses see it, the error's object pinned -/
theorem Come.suite {pins : List (Addr × Obj)} {σ : L2.St} {H : Hp} {cls : Value} {d : Option Addr} {B : Heap} {a : Addr} {sI s : Shared} (c : Come X pins σ H cls d B a sI s) (hf : X.env.frame = some X.env.locals) :
    ∃ oe vs, s.heap.get? a = some oe ∧ Zc cls d oe ∧ oe.data = .fields vs ∧ Inv (X.suite a ((a, oe) :: (X.pn ++ pins))) [] σ H s := by
  obtain ⟨oe, vs, he, hz, hd⟩ := c.fly.there
  have off : a ∉ frs (X.env :: X.outer) := fun hm => by
    obtain ⟨_, o, e, q⟩ := c.fly.2.2.1.mem hm
    rw [he] at e
    exact q vs (Option.some.inj e ▸ hd)
  refine ⟨oe, vs, he, hz, hd, c.here.suite he hd c.new (fun z => off ?_) fun hm => off ?_⟩
  · exact List.mem_filterMap.mpr ⟨X.env, List.mem_cons_self, by rw [hf, z]⟩
  · obtain ⟨e, h1, h2⟩ := List.mem_filterMap.mp hm
    exact List.mem_filterMap.mpr ⟨e, List.mem_cons_of_mem _ h1, h2⟩
theorem clauses_go (hf : X.env.frame = some X.env.locals) (hN : X.N.Nodup) (hi : X.N[i]? = some n) (hln : X.env.kindOf n = some .local) {pins : List (Addr × Obj)} {σ : L2.St} {H : Hp} {cls : Value} {d : Option Addr} {B : Heap} {a : Addr} {sI s : Shared} {D : Ends}
    (c : Come X pins σ H cls d B a sI s) (hk : Clauses X n hds l) : wNamed X.K i X.N.length D l cls d σ H → wpAny (model X.prog X.w) X.A (handleBy (.ref a) X.env hds) (SP X pins D) X.xe s := by
  have ok := c.inv.ok
  induction hk with
  | none => exact fun w => w.elim
  | @more x p b0 suite np pos' hds2 l2 hc hsu r ih =>
    rintro ⟨b, hb, hyes, hno⟩
    obtain ⟨oe, vs, he, hz, hd, S⟩ := c.suite hf
    refine wpAny_handleBy_cons (codeAny_handlers_test ?_) (fun q => nomatch q)
    have LT : PySem.W.Looks (model X.prog X.w) s.heap (typeOf (.ref a)) cls := fun A Q E s2 k q => wpAny_typeOf_ref (k _ _ he) (by rw [hz.1]; exact q)
    have LM := PySem.W.exm_one (M := model X.prog X.w) c.here.kIn LT hb
    have test : ∀ {Q E : Value → Shared → Prop}, Q p.1 s → wpAny (model X.prog X.w) (X.A.mark (some (.ref a))) (eval (.Name x np) X.env) Q E s := fun {Q E} q => by
      obtain ⟨hg, hdb, hm | ⟨hm, hv, hn⟩⟩ := hc
      · exact ld_glob S hg hm q hdb
      · exact ld_blt S hg hm hv q hn hdb
    refine test (LM.here ?_)
    cases b
    case false => exact ih (hno rfl)
    case true =>
      refine codeAny_handlers_suite_as (HandSPX.lands_againZ c.fly fun h4 fl4 up4 => ?_)
      obtain ⟨oe4, vs4, he4, hz4, hd4, S4⟩ := (c.on fl4 up4).suite hf
      refine store_ok (X := X.suite a ((a, oe4) :: (X.pn ++ pins))) S4 hN hi (.inl hln) (v := .ref a) rfl (fun s5 S5 => ?_) (.inr hln)
      refine wpAny_mono ((hsu a oe4 cls d (X.pn ++ pins) hz4 ⟨_, hd4⟩).run [] s5 _ H _ S5 (hyes rfl a c.new c.inv.len)) (fun f s6 hsp => ?_) (fun _ _ z => z.elim)
      have off : ∀ {σ6 : L2.St} {H6 : Hp} {Q : Shared → Prop}, Inv (X.suite a ((a, oe4) :: (X.pn ++ pins))) [] σ6 H6 s6 → (∀ s7, Inv X pins (σ6.set i none) H6 s7 → Q s7) →
          wpAny (model X.prog X.w) X.A (do bindName X.env n .none; unbindBehindTheSuite X.env n pos') (fun _ s7 => Q s7) X.xe s6 := fun S6 hq => gone_ok (S6.unsuite ok) hN hi hln hq
      match f, hsp with
      | .next, ⟨σ6, H6, S6, q6⟩ => exact off S6 fun s7 J7 => ⟨_, _, J7, q6⟩
      | .brk, ⟨σ6, H6, S6, q6⟩ => exact off S6 fun s7 J7 => ⟨_, _, J7, q6⟩
      | .cont, ⟨σ6, H6, S6, q6⟩ => exact off S6 fun s7 J7 => ⟨_, _, J7, q6⟩
      | .ret u, ⟨v6, σ6, H6, S6, r6, q6⟩ => exact off S6 fun s7 J7 => ⟨v6, _, _, J7, r6, q6⟩
theorem ps_try_named (hs : X.stack = X.env :: X.outer) (hf : X.env.frame = some X.env.locals) (hN : X.N.Nodup) (hi : X.N[i]? = some n) (hln : X.env.kindOf n = some .local)
    (hb : ∀ (W : WX) (pn : List (Addr × Obj)) (xe : Value → Shared → Prop), Takes (X.tr pn xe) W → PassesOwn (model X.prog X.w) X.A X.env xe → PSs (X.tr pn xe) body (tb W)) (hh : Clauses X n (h0 :: hds) l) :
    PS X (.Try body (h0 :: hds) [] [] pos) (fun D σ H => tb (wNamed X.K i X.N.length D l) D σ H) := by
  refine ⟨fun pins s σ H D I h => ?_⟩
  have ok := I.ok
  have hfr : X.A.frames = some (X.env :: X.outer) := by rw [ok.frames, hs]
  refine wpAny_Try_except (wpAny_mono ((hb (wNamed X.K i X.N.length D l) (X.pn ++ pins) (fun e s1 => wpAny (model X.prog X.w) X.A (noteFrame e X.env) (fun _ s2 => wpAny (model X.prog X.w) X.A (setFlight e none)
    (fun _ s3 => wpAny (model X.prog X.w) X.A (handleBy e X.env (h0 :: hds)) (SP X pins D) X.xe s3) X.xe s2) X.xe s1) (fun u s' air => ?_) PassesOwn.looking).run [] s σ H D (I.toTry _) h) (fun f s1 hsp => ?_) fun _ _ he => he)
  · obtain ⟨a, B, sI, pins', σ', H', cls, d, rfl, J', nb, up, sky, na, os, ag, w⟩ := air
    have sky' : Sky B (X.env :: X.outer) a (Zc cls d) X.env.locals s'.heap := hs ▸ sky
    exact Sky.land Zc.steady hfr hf sky' fun h3 fl3 up3 => clauses_go hf hN hi hln (Come.mk (J'.ofTry ok) nb (up.trans up3) fl3 na os ag) hh w
  · match f, hsp with
    | .next, ⟨σ', H', J', q⟩ => exact wpAny_execs_nil ⟨σ', H', J'.ofTry ok, q⟩
    | .brk, ⟨σ', H', J', q⟩ => exact ⟨σ', H', J'.ofTry ok, q⟩
    | .cont, ⟨σ', H', J', q⟩ => exact ⟨σ', H', J'.ofTry ok, q⟩
    | .ret u, ⟨v, σ', H', J', r, q⟩ => exact ⟨v, σ', H', J'.ofTry ok, r, q⟩
end
end K4
end
section
set_option Elab.async false
set_option linter.all false
set_option maxRecDepth 100000
set_option maxHeartbeats 4000000
/-! Own rules: a def called in an except suite with the caught error as its argument; what it asks of the error. -/
namespace K4
open PySem PySem.Spec PyProof.Rows L2

/-- what a def promises that is called with the error p (pinned) -/
structure FnQ (P : Program) (w : World) (K : PySem.W.Frag) (mg : Str → Option Value) (base : Heap) (CX : CXT) (k : Nat) (f : Addr) (fd : FuncData) (ps : List Str) (sp : Addr × Obj → Sp) : Prop where
  len : ∀ p vs H Q E, sp p vs H Q E → vs.length = ps.length
  run : ∀ (A : Around) (outer : List Env) (s : Shared) (H : Hp) (args : Args) (us : List Value) (vs : List V) (Q : VK) (E : XK) (p : Addr × Obj), L2H.RoomH k A → L2H.PinOk outer H s p → Env0 P w K mg base A outer s H →
    BindsTo s fd args (ps.zip us) → Vals vs us → sp p vs H Q E → codeAny (model P w) A (.call (.ref f) args) (CR CX outer P w H s Q E) s
theorem fnq_of {CX : CXT} {P : Program} {w : World} {K : PySem.W.Frag} {mg : Str → Option Value} {base : Heap} {k : Nat} {f : Addr} {name qual : Str} {params : Arguments} {body : List Stmt} {scope : Scope} {dV kV doc pm cdv ct oc : Value} {an od : Option Addr}
    {osl : Array (Option Value)} {N ps : List Str} {sp : Addr × Obj → Sp} (lk : K.lookup f = some ⟨oc, od, .func (PySem.W.fnOf name qual params body scope dV kV doc pm an cdv ct), osl⟩) (hcd : PySem.W.codeIn K cdv qual = true) (S : FnScope N ps scope)
    (len : ∀ p vs H Q E, sp p vs H Q E → vs.length = ps.length)
    (hbody : ∀ (A : Around) (outer : List Env) (s : Shared) (H : Hp) (vs : List V) (Q : VK) (E : XK) (p : Addr × Obj), L2H.RoomH k (A.deeper (envOfC qual scope s.heap.objs.size f cdv)) → sp p vs H Q E →
      ∃ t, PSs (L2H.cxH CX P w K mg base N qual scope f cdv A outer s H E p) body t ∧ t { nx := fun _ H' => Q .non H', rt := Q } (L2.start N vs) H) :
    FnQ P w K mg base CX (k + 1) f (PySem.W.fnOf name qual params body scope dV kV doc pm an cdv ct) ps sp := by
  refine ⟨len, fun A outer s H args us vs Q E p hr hpin e0 hb r hsp => ?_⟩
  have kin : K.In s.heap := e0.mod.kin.keeps fun b o e => (e0.bs b o e).1
  have lim : s.heap.NoLimit := e0.mod.nolimit.keeps fun b o e => (e0.bs b o e).1
  refine codeAny_call_function hr.depth (kin _ _ lk) rfl S.co S.gen rfl (PySem.W.codeRec_of kin hcd) (hb _ _ _ _ (wpAny_newFunctionEnv_cells S.kind (fun y hy => ?_) fun env he s1 x => ?_))
  · obtain ⟨n, v⟩ := y
    have hm := (List.of_mem_zip hy).1
    match S.par n hm with
    | .inl q => exact .inl q
    | .inr q => exact .inr ⟨q, PySem.W.cellsFrom_some _ _ _ (.inl q)⟩
  · subst he
    obtain ⟨t, ht, hq⟩ := hbody A outer s H vs Q E p (hr.deeper _) hsp
    have I := L2H.inv_startH (CX := CX) (E := E) S hpin e0 (len _ _ _ _ _ hsp) r x
    refine ⟨lim.keeps x.toInCall.keep, codeAny_func (wpAny_mono (ht.run [] s1 (L2.start N vs) H _ I hq) (fun fl s' hs => ?_) fun _ _ hs => hs)⟩
    match fl, hs with
    | .ret u, ⟨v, σ', H', J, rv, q⟩ => exact ⟨v, H', J.os, J.bare, J.base, J.hok, rv, q⟩
    | .next, ⟨σ', H', J, q⟩ => exact ⟨V.non, H', J.os, J.bare, J.base, J.hok, rfl, q⟩
    | .brk, ⟨_, _, _, q⟩ => exact q.elim
    | .cont, ⟨_, _, _, q⟩ => exact q.elim
section
variable {X : Cx} {CX : CXT} {k : Nat} {f C : Addr} {fd : FuncData} {ps : List Str} {sp : Addr × Obj → Sp} {E : XK} {x n : Str} {q pos : Pos} {e : Expr} {es : List Expr} {te : TE} {t : TA} {p : Addr × Obj}
/-- f(e ..) where the error p is pinned -/
def tCallQ (p : Addr × Obj) (sp : Addr × Obj → Sp) (E : XK) (t : TA) : TE := fun σ H Q => t σ H fun vs H1 => sp p vs H1 Q E
theorem pe_callQ (hp : p ∈ X.pn) (F : FnQ X.prog X.w X.K X.mg X.base CX k f fd ps sp) (hr : L2H.RoomH k X.A) (hg : Gl X x) (hm : X.mg x = some (.ref f)) (hk : PySem.W.keepIn X.K (.ref f) = true) (hb : Binds X.K fd ps []) (hx : Passes CX X E) (ha : PA X (e :: es) t)
    (hdb : (x == ("__debug__" : Str)) = false := by decide) (he : starEach (e :: es) X.env = (false, eval e X.env) :: starEach es X.env := by rfl) (hpl : (backTo pos (starEach es X.env)).any (·.1) = false := by rfl) :
    PE X (.Call (.Name x q) (e :: es) [] pos) (tCallQ p sp E t) := by
  refine ⟨fun pins s σ H Q I h => wpAny_Call_Name_kw (ld_glob I hg hm ?_ hdb)⟩
  refine PySem.W.callWith_K (h₀ := X.base) I.ok.mod.kin hk (thn (ha.run pos pins s σ H _ I h) fun us s1 z => ?_) he hpl
  obtain ⟨vs, H1, I1, r, hsp⟩ := z
  refine ⟨I1.kIn, ?_⟩
  have hl : us.length = ps.length := by rw [← r.length]; exact F.len _ _ _ _ _ hsp
  have b := hb s1 us I1.kIn (by rw [List.append_nil]; exact hl)
  rw [List.append_nil] at b
  have P1 := I1.pin p (List.mem_append_left _ hp)
  have pin : L2H.PinOk X.stack H1 s1 p := ⟨P1.1, P1.2.1, fun hm => (List.mem_cons.mp (I1.stkSub p.1 hm)).elim P1.2.2.1 P1.2.2.2.1, P1.2.2.2.2⟩
  refine wpAny_call (codeAny_mono (F.run X.A X.stack s1 H1 ⟨us, []⟩ us vs Q E p hr pin I1.env0 b r hsp) fun rr s' hq => ?_)
  match rr, hq with
  | .error e, hq => exact hx pins σ H1 s1 e s' I1 hq
  | .ok (.ret u), hq => exact I1.after hq
  | .ok .next, hq => exact hq.elim
  | .ok .brk, hq => exact hq.elim
  | .ok .cont, hq => exact hq.elim
/-- the pinned error's object: of the class at C, its fields in the dict at d -/
structure ErrAt (H : Hp) (p : Addr × Obj) (C d : Addr) (fs : List (Str × V)) : Prop where
  cls : p.2.cls = .ref C
  dct : p.2.dict = some d
  rec_ : ∃ vs, p.2.data = .fields vs
  flds : H d = some (.xd fs)
theorem ErrAt.inst {pins : List (Addr × Obj)} {s : Shared} {σ : L2.St} {H : Hp} {d : Addr} {fs : List (Str × V)} (h : ErrAt H p C d fs) (I : Inv X pins σ H s) (hp : p ∈ X.pn) :
    ∃ (od : Obj) (mA : Str → Option Value), PySem.W.InstAt s.heap p.1 p.2 C (some od) ∧ (∀ n, RelO (fs.lookup n) (mA n)) ∧ ∀ n, PySem.W.lookIn n od = some (mA n) := by
  obtain ⟨vs, hd⟩ := h.rec_
  have ok : ObjOk X.prog X.w H s.heap d (.xd fs) := I.hok d _ h.flds
  obtain ⟨mA, hns, hr⟩ := ok
  obtain ⟨od, ho, hl⟩ := lookIn_ns hns
  exact ⟨od, mA, ⟨(I.pin p (List.mem_append_left _ hp)).1, h.cls, by unfold PySem.W.notCls; rw [hd] <;> rfl, by rw [h.dct]; exact ho⟩, hr, hl⟩
/-- err.n, err the pinned error -/
def tErrF (p : Addr × Obj) (K : PySem.W.Frag) (n : Str) (te : TE) : TE := fun σ H Q => te σ H fun x H1 => x = .ref p.1 ∧ ∃ C d fs v, ErrAt H1 p C d fs ∧ XfC K C ∧ PySem.W.findIn K (.ref C) n = some none ∧ fs.lookup n = some v ∧ Q v H1
theorem pe_errF (hp : p ∈ X.pn) (he : PE X e te) (hb : attributeBase e n X.env (eval e X.env) = eval e X.env := by rfl) : PE X (.Attribute e n pos) (tErrF p X.K n te) := by
  refine ⟨fun pins s σ H Q I h => attr_of hb (thn (he.run pins s σ H _ I h) fun u s1 z => ?_)⟩
  obtain ⟨x, H1, I1, rx, ex, C, d, fs, v, A1, T, hno, l, hq⟩ := z
  subst ex
  obtain rfl : u = Value.ref p.1 := rx
  obtain ⟨od, mA, J, hr, hl⟩ := A1.inst I1 hp
  have hv := hr n
  rw [l] at hv
  obtain ⟨u, hu, ru⟩ := RelO.some_of hv
  exact HandSPX.exc_get I1.kIn J T.ga T.gg T.exC (PySem.W.findObj_own T.hdC hno rfl (by rw [hl, hu])) (handed_of ru) ⟨v, H1, I1.tok _, ru, hq⟩
/-- isinstance(err, c) -/
structure ErrC (K : PySem.W.Frag) (C : Addr) : Prop where
  cl : (PySem.W.clsIn K C).isSome = true
  ga : PySem.W.findIn K (.ref C) "__getattribute__" = some (some (.builtin "BaseException.__getattribute__"))
  gg : PySem.W.findIn K (.ref C) "__getattr__" = some none
  sub : PySem.W.subIn K (.ref C) (.type "BaseException") = some true
  ca : PySem.W.findIn K (.ref C) "__class__" = some (some (.builtin "object.__class__"))
  cg : PySem.W.specialIn K (.builtin "object.__class__") "__get__" = some (some (.builtin "getset_descriptor.__get__"))
  ct : PySem.W.takesIn K (.builtin "object.__class__") = some true
  ob : PySem.W.mroIn K C (.type "object") = some true
def rIsErr (p : Addr × Obj) (K : PySem.W.Frag) : List V → Hp → VK → Prop := fun xs H Q => ∃ D C d fs b, xs = [.ref p.1, .ref D] ∧ ErrAt H p C d fs ∧ ErrC K C ∧ PySem.W.kitOne K (.ref C) (.ref D) = some b ∧ Q (.bl b) H
theorem call_isErr (hp : p ∈ X.pn) : CallR X (.builtin "isinstance") (rIsErr p X.K) := by
  intro pins s σ H xs us Q I r h
  obtain ⟨D, C, d, fs, b, rfl, A1, T, e, hq⟩ := h
  obtain ⟨u1, u2, rfl, r1, r2⟩ := vals2 r
  obtain rfl : u1 = Value.ref p.1 := r1
  obtain rfl : u2 = Value.ref D := r2
  obtain ⟨od, mA, J, _, _⟩ := A1.inst I hp
  exact PySem.W.kia_one (PySem.W.kitx_exc T.cl T.ga T.gg T.sub T.ca T.cg T.ct T.ob) I.kIn J e (fun z => nomatch z) fun tk => ⟨.bl b, H, I.tok tk, rfl, hq⟩
end
end K4
end
section
set_option Elab.async false
set_option linter.all false
set_option maxRecDepth 100000
set_option maxHeartbeats 4000000
/-! Own rules: a lambda with one parameter that has a default, handed to a def that calls it with nothing. -/
namespace K4
open PySem PySem.Spec PyProof.Rows L2 LamX

abbrev dFn (q : Str) (params : Arguments) (body : Expr) (scope : Scope) (cl : List (Str × Addr)) (pm cdv ct : Value) (T : Addr) : FuncData := { PySem.W.kla_fn "<lambda>" q params body scope cl pm cdv ct with defaults := .ref T }
abbrev dOb (q : Str) (params : Arguments) (body : Expr) (scope : Scope) (cl : List (Str × Addr)) (pm : Value) (c' : Addr) (ctv : Value) (T : Addr) : Obj := { cls := .type "function", data := .func (dFn q params body scope cl pm (.ref c') ctv T) }
section
variable {M : Model} {A : Around} {E : Value → Shared → Prop} {s : Shared} {q : Str} {params : Arguments} {body : Expr} {scope : Scope} {env : Env} {c P T : Addr} {ps : Array Value} {pos : Pos} {firstLine : Nat} {mg : Str → Option Value} {clos : List (Str × Addr)} {Q : Value → Shared → Prop}
theorem tail_new (hcl : closureFor scope env = pure clos) (hglob : env.globals = mainGlobals) (hns : s.heap.Ns mainGlobals mg) (hcode : env.code = .ref c) (C : PySem.W.CodeHd s.heap c P) (hP : s.heap.get? P = some (PySem.W.tabObj ps)) (ht : TriplesOk ps.toList)
    (hf : codeAmong pos ps.toList = none) (gP : mainGlobals ≠ P) (hb : s.heap.BuiltinsAt mg P)
    (h : ∀ c' ctv h' tk, Heap.ExtBut P s.heap h' → s.heap.objs.size ≤ c' → c' < h'.objs.size → h'.CodeRec (.ref c') q → h'.get? P = some (PySem.W.tabObj (ps ++ #[rawInt pos.line, rawInt pos.col, .ref c'])) →
      Q (.ref h'.objs.size) { s with heap := h'.push (dOb q params body scope clos ((mg "__name__").getD .none) c' ctv T), toks := tk }) :
    wpAny M A (makeTail "<lambda>" q params (.expr body) scope env (.ref T) .none none pos firstLine) Q E s := by
  obtain ⟨bm, ob, hbm, n0, _, nP, hbo, hcls, hdict, hdata⟩ := hb
  have rest : ∀ (ctv : Value) (h0 : Heap) (tk0 : Nat), (∀ b o, s.heap.get? b = some o → h0.get? b = some o) → s.heap.objs.size ≤ h0.objs.size →
      wpAny M A (functionCode env pos firstLine "<lambda>" q params scope (.expr body)) (fun cv s2 => wpAny M A (builtinsFor mainGlobals env.builtins) (fun b s3 => wpAny M A (nsGet mainGlobals "__name__") (fun pm s4 =>
        wpAny M A (newObj (.type "function") (.func { PySem.W.kla_fn "<lambda>" q params body scope clos (pm.getD .none) cv ctv with defaults := .ref T, builtins := b })) Q E s4) E s3) E s2) E { s with heap := h0, toks := tk0 } := by
    intro ctv h0 tk0 k0 z0
    have hP0 := k0 _ _ hP
    have C0 := C.keeps k0
    refine wpAny_functionCodeX hcode (C0.code hP0 ht) (C0.tab hP0) hf fun c' h' tk hx hge hlt _ hrec htb _ => ?_
    have hns' : h'.Ns mainGlobals mg := (hns.keeps k0).extBut hx gP
    refine wpAny_builtinsFor hns' hbm n0 (hx _ _ nP (k0 _ _ hbo)) hcls hdict hdata ?_
    exact wpAny_nsGet hns' (wpAny_newObj_type (h c' ctv h' tk (fun b o nb e => hx b o nb (k0 b o e)) (Nat.le_trans z0 hge) hlt hrec htb.2) (by size_fits))
  unfold makeTail
  rw [hcl, hglob]
  refine wpAny_bind (wpAny_pure ?_)
  cases clos
  case nil =>
    simp only [List.isEmpty_nil, if_true]
    refine wpAny_bind (wpAny_pure (wpAny_bind (wpAny_mono (rest .none s.heap s.toks (fun _ _ e => e) (Nat.le_refl _)) (fun cv s2 z => ?_) fun _ _ e => e)))
    exact wpAny_bind (wpAny_mono z (fun b s3 z => wpAny_bind (wpAny_mono z (fun pm s4 z => wpAny_bind (wpAny_pure z)) fun _ _ e => e)) fun _ _ e => e)
  case cons p r =>
    simp only [List.isEmpty_cons, Bool.false_eq_true, if_false]
    refine wpAny_bind (wpAny_newTextTuple (wpAny_bind (wpAny_mono (rest (.ref s.heap.objs.size) _ s.toks (fun b o e => Heap.get?_push_of_some _ e) (by rw [Heap.size_push]; omega)) (fun cv s2 z => ?_) fun _ _ e => e)))
    exact wpAny_bind (wpAny_mono z (fun b s3 z => wpAny_bind (wpAny_mono z (fun pm s4 z => wpAny_bind (wpAny_pure z)) fun _ _ e => e)) fun _ _ e => e)
theorem tail_hit {cv : Value} (hcl : closureFor scope env = pure clos) (hglob : env.globals = mainGlobals) (hns : s.heap.Ns mainGlobals mg) (hcode : env.code = .ref c) (C : PySem.W.CodeHd s.heap c P) (hP : s.heap.get? P = some (PySem.W.tabObj ps)) (ht : TriplesOk ps.toList)
    (hf : codeAmong pos ps.toList = some cv) (hb : s.heap.BuiltinsAt mg P)
    (h : ∀ (ctv : Value) (h' : Heap) (tk : Tok), (∀ b o, s.heap.get? b = some o → h'.get? b = some o) → s.heap.objs.size ≤ h'.objs.size →
      Q (.ref h'.objs.size) { s with heap := h'.push { cls := .type "function", data := .func (dFn q params body scope clos ((mg "__name__").getD .none) cv ctv T) }, toks := tk }) :
    wpAny M A (makeTail "<lambda>" q params (.expr body) scope env (.ref T) .none none pos firstLine) Q E s := by
  obtain ⟨bm, ob, hbm, n0, _, nP, hbo, hcls, hdict, hdata⟩ := hb
  have rest : ∀ (ctv : Value) (h0 : Heap) (tk0 : Nat), (∀ b o, s.heap.get? b = some o → h0.get? b = some o) → s.heap.objs.size ≤ h0.objs.size →
      wpAny M A (functionCode env pos firstLine "<lambda>" q params scope (.expr body)) (fun cv s2 => wpAny M A (builtinsFor mainGlobals env.builtins) (fun b s3 => wpAny M A (nsGet mainGlobals "__name__") (fun pm s4 =>
        wpAny M A (newObj (.type "function") (.func { PySem.W.kla_fn "<lambda>" q params body scope clos (pm.getD .none) cv ctv with defaults := .ref T, builtins := b })) Q E s4) E s3) E s2) E { s with heap := h0, toks := tk0 } := by
    intro ctv h0 tk0 k0 z0
    refine wpAny_functionCode_hit hcode ((C.keeps k0).code (k0 _ _ hP) ht) hf ?_
    refine wpAny_builtinsFor (hns.keeps k0) hbm n0 (k0 _ _ hbo) hcls hdict hdata ?_
    exact wpAny_nsGet (hns.keeps k0) (wpAny_newObj_type (h ctv h0 tk0 k0 z0) (by size_fits))
  unfold makeTail
  rw [hcl, hglob]
  refine wpAny_bind (wpAny_pure ?_)
  cases clos
  case nil =>
    simp only [List.isEmpty_nil, if_true]
    refine wpAny_bind (wpAny_pure (wpAny_bind (wpAny_mono (rest .none s.heap s.toks (fun _ _ e => e) (Nat.le_refl _)) (fun cv s2 z => ?_) fun _ _ e => e)))
    exact wpAny_bind (wpAny_mono z (fun b s3 z => wpAny_bind (wpAny_mono z (fun pm s4 z => wpAny_bind (wpAny_pure z)) fun _ _ e => e)) fun _ _ e => e)
  case cons p r =>
    simp only [List.isEmpty_cons, Bool.false_eq_true, if_false]
    refine wpAny_bind (wpAny_newTextTuple (wpAny_bind (wpAny_mono (rest (.ref s.heap.objs.size) _ s.toks (fun b o e => Heap.get?_push_of_some _ e) (by rw [Heap.size_push]; omega)) (fun cv s2 z => ?_) fun _ _ e => e)))
    exact wpAny_bind (wpAny_mono z (fun b s3 z => wpAny_bind (wpAny_mono z (fun pm s4 z => wpAny_bind (wpAny_pure z)) fun _ _ e => e)) fun _ _ e => e)
end
end K4
end
section
set_option Elab.async false
set_option linter.all false
set_option maxRecDepth 100000
set_option maxHeartbeats 4000000
/-! Own rules: the lambda with a default, made, entered, handed on. -/
namespace K4
open PySem PySem.Spec PyProof.Rows L2 LamX
abbrev lq (X : Cx) : Str := X.env.qual ++ "<lambda>"
abbrev tupO (v : Value) : Obj := { cls := .type "tuple", data := .seq [v].toArray }
section
variable {X : Cx} {pins : List (Addr × Obj)} {σ : L2.St} {H : Hp} {s : Shared}
theorem lam_makeD {T : List (Addr × Str)} {c P : Addr} {params : Arguments} {body : Expr} {scope : Scope} {pos p0 : Pos} {i0 : Int} {j0 : Nat} {E : Value → Shared → Prop} {Q : Value → Shared → Prop} (I : Inv X pins σ H s) (TB : TabB X.base X.mg c P) (hcode : X.env.code = .ref c)
    (hm : (P, lq X) ∈ T) (hu : ∀ p ∈ T, p.1 = P → p.2 = lq X) (hT : Tabs T H) (hdef : defaultsOf params X.env = ([eval (.Constant (.int i0) j0 p0) X.env], [])) (hkw : params.kwonlyargs = []) (hfree : ∀ y ∈ scope.names, y.2 = .free → ∃ c, X.env.cells.lookup y.1 = some c)
    (h : ∀ (f c' D : Addr) (t0 : Tok) (pm ctv : Value) (H1 : Hp) (s' : Shared), Inv X pins σ H1 s' → ExtN H H1 → Tabs T H1 →
      s'.heap.get? f = some (dOb (lq X) params body scope (cloFrom X.env.cells scope.names []) pm c' ctv D) → H1 f = none → f ∉ frs X.stack →
      s'.heap.get? D = some (tupO (.int i0 t0)) → H1 D = none → D ∉ frs X.stack → H1 c' = some (CodeO c' (lq X)) → Q (.ref f) s') :
    wpAny (model X.prog X.w) X.A (eval (.Lambda params body scope pos) X.env) Q E s := by
  obtain ⟨ps, hP, ht, ha⟩ := hT _ hm
  have nofr : ∀ f, s.heap.objs.size ≤ f → f ∉ frs X.stack := fun f hf z => by
    rcases List.mem_cons.mp (I.stkSub _ z) with e | e
    · exact Nat.lt_irrefl _ (Nat.lt_of_lt_of_le (e ▸ I.lt) hf)
    · exact I.nofs hf e
  rw [arm_eval_Lambda, hdef]
  show wpAny _ _ (evalAll [eval (.Constant (.int i0) j0 p0) X.env] >>= fun dv => (holding dv (evalAllOpt []) >>= fun kdv => makeFunction "<lambda>" (X.env.qual ++ "<lambda>") params (.expr body) scope X.env dv kdv [] pos pos.line)) _ _ _
  refine wpAny_bind (wpAny_evalAll_cons (wpAny_Constant_int (wpAny_evalAll_nil ?_)))
  refine wpAny_bind (wpAny_holding (wpAny_pure ?_))
  rw [makeFunction_eq]
  simp only [List.zip_nil_right, List.filterMap_nil, List.isEmpty_nil, List.isEmpty_cons, if_true, pure_bind, Bool.false_eq_true, if_false]
  refine wpAny_bind (wpAny_newTextTuple ?_)
  have keep : ∀ b o, s.heap.get? b = some o → (s.heap.push (tupO (.int i0 s.toks))).get? b = some o := fun b o e => Heap.get?_push_of_some _ e
  have J : Inv X pins σ H { s with heap := s.heap.push (tupO (.int i0 s.toks)), toks := s.toks + 1 } := I.kept (t' := s.toks + 1) keep
  have dat : (s.heap.push (tupO (.int i0 s.toks))).get? s.heap.objs.size = some (tupO (.int i0 s.toks)) := Heap.get?_push_size _ rfl
  have dne : s.heap.objs.size ≠ P := fun z => by
    have e := I.hok P _ hP
    exact Nat.lt_irrefl _ (Nat.lt_of_lt_of_le (Heap.lt_size (show s.heap.get? P = some _ from e)) (Nat.le_of_eq z))
  have bP := TB.bm.keeps J.bk
  have hP' : (s.heap.push (tupO (.int i0 s.toks))).get? P = some (PySem.W.tabObj ps) := J.hok P _ hP
  have zsz : (s.heap.push (tupO (.int i0 s.toks))).objs.size = s.heap.objs.size + 1 := Heap.size_push ..
  cases hc : codeAmong pos ps.toList
  case none =>
    refine tail_new (mg := X.mg) (closure_ok hfree) I.ok.glob (J.mod.glob.keeps J.bk) hcode (TB.code.keeps J.bk) hP' ht hc TB.gP bP fun c' ctv h' tk hx hge hlt hrec htb => ?_
    obtain ⟨_, oc, vs, t, e2, hoc, hd, hv⟩ := hrec
    cases e2
    have hge1 : s.heap.objs.size + 1 ≤ c' := Nat.le_trans (Nat.le_of_eq zsz.symm) hge
    have hge0 : s.heap.objs.size ≤ c' := Nat.le_of_succ_le hge1
    have nC : H c' = none := I.hok.fresh hge0
    have big : s.heap.objs.size ≤ h'.objs.size := Nat.le_trans hge0 (Nat.le_of_lt hlt)
    have fnew := (dOb (lq X) params body scope (cloFrom X.env.cells scope.names []) ((X.mg "__name__").getD .none) c' ctv s.heap.objs.size)
    have I1 := inv_table (t' := tk) (q := lq X) (more := #[rawInt pos.line, rawInt pos.col, .ref c']) (h' := h'.push (dOb (lq X) params body scope (cloFrom X.env.cells scope.names []) ((X.mg "__name__").getD .none) c' ctv s.heap.objs.size)) J hP
      (fun b o hb e => Heap.get?_push_of_some _ (hx b o hb e)) (Heap.get?_push_of_some _ htb) hge ⟨oc, vs, t, Heap.get?_push_of_some _ hoc, hd, hv⟩
    have off : ∀ b, H b = none → b ≠ c' → upd (upd H P (.tbl (ps ++ #[rawInt pos.line, rawInt pos.col, .ref c']))) c' (CodeO c' (lq X)) b = none := fun b n1 n2 => by
      rw [upd_ne n2, upd_ne (fun z => by rw [z, hP] at n1; cases n1)]
      exact n1
    have grow : ExtN H (upd (upd H P (.tbl (ps ++ #[rawInt pos.line, rawInt pos.col, .ref c']))) c' (CodeO c' (lq X))) := fun b o e n => by
      rw [upd_ne (ne_of_none e nC), upd_ne (fun z => n ps (Option.some.inj (e.symm.trans (by rw [z]; exact hP))))]
      exact e
    have eL : (ps ++ #[rawInt pos.line, rawInt pos.col, .ref c']).toList = ps.toList ++ [rawInt pos.line, rawInt pos.col, .ref c'] := by simp
    refine h h'.objs.size c' s.heap.objs.size s.toks ((X.mg "__name__").getD .none) ctv _ _ I1 grow (fun p hp => ?_) (Heap.get?_push_size _ rfl) (off _ (I.hok.fresh big) (Nat.ne_of_gt hlt)) (nofr _ big) (Heap.get?_push_of_some _ (hx _ _ dne dat))
      (off _ (I.hok.fresh (Nat.le_refl _)) (Nat.ne_of_lt hge1)) (nofr _ (Nat.le_refl _)) upd_same
    by_cases hb : p.1 = P
    · rw [hu p hp hb, hb]
      refine ⟨_, by rw [upd_ne (ne_of_none hP nC), upd_same], by rw [eL]; exact PySem.TriplesOk_snoc _ _ _ _ ht, fun p' cv hcv => ?_⟩
      rw [eL] at hcv
      rcases among_app _ ht hcv with z | z
      · obtain ⟨c0, e1, e2⟩ := ha p' cv z
        exact ⟨c0, e1, grow _ _ e2 codeO_ne⟩
      · exact ⟨c', z, upd_same⟩
    · obtain ⟨ps', a1, a2, a3⟩ := hT p hp
      refine ⟨ps', by rw [upd_ne (ne_of_none a1 nC), upd_ne hb]; exact a1, a2, fun p' cv hcv => ?_⟩
      obtain ⟨c0, e1, e2⟩ := a3 p' cv hcv
      exact ⟨c0, e1, grow _ _ e2 codeO_ne⟩
  case some cv =>
    obtain ⟨c', e, hco⟩ := ha pos cv hc
    subst e
    refine tail_hit (mg := X.mg) (closure_ok hfree) I.ok.glob (J.mod.glob.keeps J.bk) hcode (TB.code.keeps J.bk) hP' ht hc bP fun ctv h' tk hx hsz => ?_
    have big : s.heap.objs.size ≤ h'.objs.size := Nat.le_of_succ_le (Nat.le_trans (Nat.le_of_eq zsz.symm) hsz)
    have I1 := J.kept (t' := tk) (h' := h'.push (dOb (lq X) params body scope (cloFrom X.env.cells scope.names []) ((X.mg "__name__").getD .none) c' ctv s.heap.objs.size)) fun b o e => Heap.get?_push_of_some _ (hx b o e)
    exact h h'.objs.size c' s.heap.objs.size s.toks ((X.mg "__name__").getD .none) ctv H _ I1 (ExtN.refl H) hT (Heap.get?_push_size _ rfl) (I.hok.fresh big) (nofr _ big) (Heap.get?_push_of_some _ (hx _ _ dat)) (I.hok.fresh (Nat.le_refl _)) (nofr _ (Nat.le_refl _)) hco
end
/-- the lambda's names: its own one is no name of the def; captured ones and globals -/
structure LamD (N : List Str) (sc scope : Scope) : Prop where
  kind : scope.kind = .function
  co : scope.isCoroutine = false
  gen : scope.isGenerator = false
  nocell : ∀ y ∈ scope.names, y.2 ≠ .cell
  own : ∀ y ∈ scope.names, y.2 = .local → y.1 ∉ N
  free : ∀ y ∈ scope.names, y.2 = .free → sc.names.lookup y.1 = some .cell ∨ sc.names.lookup y.1 = some .free
def lamDB (N : List Str) (sc scope : Scope) : Bool :=
  decide (scope.kind = .function) && (!scope.isCoroutine && (!scope.isGenerator && scope.names.all fun y => !decide (y.2 = .cell) && ((!decide (y.2 = .local) || !decide (y.1 ∈ N)) && (!decide (y.2 = .free) || (decide (sc.names.lookup y.1 = some .cell) || decide (sc.names.lookup y.1 = some .free))))))
theorem lamD_by {N : List Str} {sc scope : Scope} (h : lamDB N sc scope = true) : LamD N sc scope := by
  unfold lamDB at h
  simp only [Bool.and_eq_true, Bool.or_eq_true, Bool.not_eq_true', decide_eq_true_eq, decide_eq_false_iff_not, List.all_eq_true] at h
  obtain ⟨h1, h2, h3, h4⟩ := h
  refine ⟨h1, h2, h3, fun y hy => (h4 y hy).1, fun y hy e => ?_, fun y hy e => ?_⟩
  · rcases (h4 y hy).2.1 with z | z
    · exact absurd e z
    · exact z
  · rcases (h4 y hy).2.2 with z | z
    · exact absurd e z
    · exact z
theorem LamD.has {X : Cx} {scope : Scope} (L : LamD X.N X.env.scope scope) (ok : X.Ok) : ∀ y ∈ scope.names, y.2 = .free → ∃ c, X.env.cells.lookup y.1 = some c := fun y hy e => by
  rcases L.free y hy e with k | k
  · exact ok.has _ (.inl k)
  · exact ok.has _ (.inr k)
section
variable {X : Cx} {pins : List (Addr × Obj)} {σ : L2.St} {H HZ : Hp} {s s1 : Shared}
theorem lamD_start {A : Around} {outer : List Env} {E : XK} {scope : Scope} {f c' : Addr} {h1 : Heap} {tk : Nat} {m0 : Str → Option Value} (I : Inv X pins σ H s) (L : LamD X.N X.env.scope scope) (e0 : Env0 X.prog X.w X.K X.mg X.base A outer s1 HZ) (hd : A.handled = none)
    (un : Un (frs X.stack) [] H HZ s.heap s1.heap) (hns : h1.Ns s1.heap.objs.size m0) (kp : ∀ b o, s1.heap.get? b = some o → h1.get? b = some o) :
    Inv (lamCx X A outer s1 HZ E scope f c') [] σ HZ { s1 with heap := h1, toks := tk } := by
  have hfree := L.has I.ok
  have same : ∀ {y c}, (cloFrom X.env.cells scope.names []).lookup y = some c → X.env.cells.lookup y = some c := fun {y c} e => by
    rcases cloFrom_mem (PySem.mem_of_lookup e) with hm | ⟨k1, k2⟩
    · cases hm
    · obtain ⟨c1, hc⟩ := hfree _ k1 rfl
      have hc : X.env.cells.lookup y = some c1 := hc
      rw [k2, hc]
      rfl
  have there : ∀ {y}, scope.names.lookup y = some .free → ∃ c, (cloFrom X.env.cells scope.names []).lookup y = some c := fun {y} hl => mem_lookup (cloFrom_has (cells := X.env.cells) (acc := []) (PySem.mem_of_lookup hl))
  have cellK : ∀ {c : Addr} {v : Option Value}, H c = none → s.heap.IsCell c v → h1.IsCell c v := fun {c v} n ⟨o, ho, hv⟩ => by
    obtain ⟨sl, q⟩ := un.any ho n (by simp)
    exact ⟨_, kp _ _ q, hv⟩
  have nocell : ∀ {y}, scope.names.lookup y ≠ some .cell := fun {y} z => L.nocell _ (PySem.mem_of_lookup z) rfl
  have ok : (lamCx X A outer s1 HZ E scope f c').Ok :=
    { mod := e0.mod, kind := L.kind, glob := rfl, blt := rfl, above := Nat.le_refl _
      inj := fun y z c e1 e2 => I.ok.inj y z c (same e1) (same e2)
      has := fun y hy => (show scope.names.lookup y = some .cell ∨ scope.names.lookup y = some .free from hy).elim (fun z => absurd z nocell) there
      cab := fun y c z _ => Bool.noConfusion (show false = true from z)
      hd := fun _ => hd, frames := Around.frames_deeper e0.frames, stk := .inr ⟨rfl, rfl⟩
      exf := fun b z => absurd (show b ∈ ([] : List Addr) from z) (by simp), bs := e0.bs, bsz := e0.bsz
      noex := fun b _ _ z => absurd (show b ∈ ([] : List Addr) from z) (by simp), exfs := fun b z => absurd (show b ∈ ([] : List Addr) from z) (by simp), funs := e0.funs, frf := e0.frf }
  refine { ok := ok, os := rfl, bare := e0.bare, base := Un.kept kp, loc := ⟨m0, hns, fun i y v e1 e2 e3 => ?_⟩, cell := fun y c e => ?_, free := e0.hok.fresh (Nat.le_refl _), freeC := fun y c e => ?_,
           pin := fun q hq => absurd (show q ∈ ([] : List (Addr × Obj)) ++ [] from hq) (by simp), hok := e0.hok.kept kp, len := I.len }
  · have e3 : Vis scope y := e3
    rcases e3 with k | k | k
    · exact absurd (List.mem_of_getElem? e1) (L.own _ (PySem.mem_of_lookup k) rfl)
    · exact absurd k nocell
    · obtain ⟨m, hn, hl⟩ := I.loc
      have fr := L.free _ (PySem.mem_of_lookup k) rfl
      obtain ⟨w', r, q⟩ := hl i y v e1 e2 (fr.elim (fun k => .inr (.inl k)) fun k => .inr (.inr k))
      obtain ⟨c2, k2⟩ := there k
      refine ⟨w', r, .inr ⟨.inr k, c2, k2, ?_⟩⟩
      rcases q with ⟨k', _⟩ | ⟨_, c3, e', z⟩
      · have k' : X.env.scope.names.lookup y = some .local := k'
        rcases fr with g | g
        · exact absurd (k'.symm.trans g) (by decide)
        · exact absurd (k'.symm.trans g) (by decide)
      · obtain rfl : c2 = c3 := Option.some.inj ((same k2).symm.trans e')
        exact cellK (I.freeC y _ e') z
  · obtain ⟨w', z⟩ := I.cell y c (same e)
    exact ⟨w', cellK (I.freeC y c (same e)) z⟩
  · obtain ⟨v, o, ho, _⟩ := I.cell y c (same e)
    exact un.free c o ho (I.freeC y c (same e)) (by simp)
/-- how the lambda binds its one parameter to its default -/
def BindsD (params : Arguments) (body : Expr) (scope : Scope) (a : Str) : Prop := ∀ (q : Str) (cl : List (Str × Addr)) (pm cv ctv : Value) (D : Addr), ∃ k : Option (Array Value) → Sem (List (Str × Value)),
  bindArgs (dFn q params body scope cl pm cv ctv D) ⟨[], []⟩ = seqItems? (.ref D) >>= k ∧ ∀ v : Value, k (some [v].toArray) = pure [(a, v)]
/-- x(), in the def that got the lambda -/
theorem pe_actD {CXg : CXT} {Eg : XK} {Ng : List Str} {qg : Str} {sg : Scope} {g f c' D : Addr} {cdg pm ctv : Value} {t0 : Tok} {i0 : Int} {params : Arguments} {body : Expr} {scope : Scope} {k i : Nat} {a b : Str} {pn : List (Addr × Obj)} {xe : Value → Shared → Prop} {W : WX} {E : XK} {tb : TE} {p1 p2 : Pos}
    (I : Inv X pins σ H s) (L : LamD X.N X.env.scope scope) (hf : s.heap.get? f = some (dOb (lq X) params body scope (cloFrom X.env.cells scope.names []) pm c' ctv D)) (hfn : H f = none) (hfr : f ∉ frs X.stack)
    (hD : s.heap.get? D = some (tupO (.int i0 t0))) (hDn : H D = none) (hDr : D ∉ frs X.stack) (hbind : BindsD params body scope b) (hloc : scope.names.lookup b = some .local)
    (tk : Takes ((cxOf CXg X.prog X.w X.K X.mg X.base Ng qg sg g cdg X.A X.stack s H Eg).tr pn xe) W) (hW : ∀ cls d σ' H', E cls d H' → W cls d σ' H') (hr : Room (k + 1) (X.A.deeper (envOfC qg sg s.heap.objs.size g cdg)))
    (hbody : ∀ (A : Around) (outer : List Env) (s : Shared) (H : Hp), Room k (A.deeper (lamEnv X scope s.heap.objs.size f c')) → PE (lamCx X A outer s H E scope f c') body tb)
    (hN : Ng[i]? = some a) (hv : Vis sg a) (hdb : (a == ("__debug__" : Str)) = false := by decide) (hcd : (a == ("__classdict__" : Str)) = false := by decide) :
    PE ((cxOf CXg X.prog X.w X.K X.mg X.base Ng qg sg g cdg X.A X.stack s H Eg).tr pn xe) (.Call (.Name a p1) [] [] p2)
      (fun σZ HZ Q => σZ[i]? = some (some (.ref f)) ∧ HZ c' = some (CodeO c' (lq X)) ∧ tb σ HZ Q) := by
  refine ⟨fun pinsZ sZ σZ HZ Q IZ h => ?_⟩
  obtain ⟨hs, hc, ht⟩ := h
  refine wpAny_Call_Name_kw (thn ((pe_var (pos := p1) (i := i) hN hv hdb hcd).run pinsZ sZ σZ HZ (fun v H1 => v = .ref f ∧ H1 = HZ) IZ ⟨.ref f, hs, rfl, rfl⟩) fun u s1 z => ?_)
  obtain ⟨v, H1, I1, r1, ev, eH⟩ := z
  subst ev
  subst eH
  obtain rfl : u = Value.ref f := r1
  have noEx : ∀ z : Addr, z ∉ ([] : List Addr) := fun z => by simp
  have of1 := I1.base.keep f _ hf hfn hfr (noEx f)
  have oD1 := I1.base.keep D _ hD hDn hDr (noEx D)
  refine PySem.W.callWith_F0 ⟨_, _, _, _, of1⟩ ?_
  have un : Un (frs X.stack) [] H H1 s.heap s1.heap := I1.base
  have hco : ObjOk X.prog X.w H1 s1.heap c' (CodeO c' (lq X)) := I1.hok c' _ hc
  obtain ⟨⟨oc, vs, t, hoc, hdc, hvc⟩, _, _⟩ := hco
  obtain ⟨kb, eb, fb⟩ := hbind (lq X) (cloFrom X.env.cells scope.names []) pm (.ref c') ctv D
  have rc : codeAny (model X.prog X.w) (X.A.deeper (envOfC qg sg s.heap.objs.size g cdg)) (.call (.ref f) ⟨[], []⟩) (CR (L2.CX X.prog X.w) (envOfC qg sg s.heap.objs.size g cdg :: X.stack) X.prog X.w H1 s1 Q E) s1 := by
    refine PySem.W.kla_callFunE hr.depth of1 rfl L.co L.gen rfl ⟨c', oc, vs, t, rfl, hoc, hdc, hvc⟩ ?_
    rw [eb]
    refine wpAny_bind (wpAny_seqItems oD1 rfl ?_)
    rw [fb]
    refine wpAny_pure (wpAny_newFunctionEnv (fun y hy => L.nocell y hy) (fun y hy => ?_) (fun h2 hns hsb => ⟨I1.nolimit.fresh _ hsb, ?_⟩) L.kind)
    · obtain rfl : y = (b, Value.int i0 t0) := List.mem_singleton.mp hy
      exact hloc
    · show codeAny _ _ (.expr body (lamEnv X scope s1.heap.objs.size f c')) _ _
      have kp : ∀ b o, s1.heap.get? b = some o → h2.get? b = some o := fun b o e => hsb.extBut b o (Nat.ne_of_lt (Heap.lt_size e)) (Heap.get?_push_of_some _ e)
      have J := lamD_start (E := E) (f := f) (c' := c') (tk := s1.toks + [(b, Value.int i0 t0)].length) I L I1.env0 hr.hd un hns kp
      refine PySem.W.kla_codeExpr (wpAny_mono ((hbody _ _ s1 H1 (hr.deeper _)).run [] _ _ H1 Q J ht) (fun v s' hq => ?_) fun _ _ hq => hq)
      obtain ⟨w', H', J', rv, q⟩ := hq
      exact ⟨w', H', J'.os, J'.bare, J'.base, J'.hok, rv, q⟩
  refine wpAny_call (codeAny_mono rc fun r s' hq => ?_)
  match r, hq with
  | .error e, hq => exact passes_call tk hW pinsZ σZ H1 s1 e s' I1 hq
  | .ok (.ret u), hq => exact I1.after hq
  | .ok .next, hq => exact hq.elim
  | .ok .brk, hq => exact hq.elim
  | .ok .cont, hq => exact hq.elim
end
end K4
end
section
set_option Elab.async false
set_option linter.all false
set_option maxRecDepth 100000
set_option maxHeartbeats 4000000
namespace K4
open PySem PySem.Spec PyProof.Rows L2 LamX
section
variable {X : Cx}
/-- x(lambda b=..: body) -/
theorem pe_lamcallD {T : List (Addr × Str)} {TT : (XK → Hp → VK → Prop) → Hp → VK → Prop} {x a b : Str} {g c P : Addr} {k : Nat} {pg : Arguments} {bg : List Stmt} {sg : Scope} {dV kV doc pm cdv ct oc : Value} {an od : Option Addr} {osl : Array (Option Value)} {Ng : List Str}
    {params : Arguments} {body : Expr} {scope : Scope} {t : XK → TE} {p lpos pos p0 : Pos} {i0 : Int} {j0 : Nat} (hg : Gl X x) (hm : X.mg x = some (.ref g)) (hk : PySem.W.keepIn X.K (.ref g) = true)
    (lk : X.K.lookup g = some ⟨oc, od, .func (PySem.W.fnOf x x pg bg sg dV kV doc pm an cdv ct), osl⟩) (hcg : PySem.W.codeIn X.K cdv x = true) (hb : L2.Binds X.K (PySem.W.fnOf x x pg bg sg dV kV doc pm an cdv ct) [a] []) (Sg : FnScope Ng [a] sg) (hNg : Ng[0]? = some a) (hva : Vis sg a)
    (hG : GivesTo X Ng x sg g cdv bg a (lq X) TT) (TB : TabB X.base X.mg c P) (hcode : X.env.code = .ref c) (hmT : (P, lq X) ∈ T) (hu : ∀ p ∈ T, p.1 = P → p.2 = lq X) (hr : Room (k + 2) X.A) (L : LamD X.N X.env.scope scope)
    (hdef : defaultsOf params X.env = ([eval (.Constant (.int i0) j0 p0) X.env], [])) (hkw : params.kwonlyargs = []) (hbind : BindsD params body scope b) (hloc : scope.names.lookup b = some .local)
    (hbody : ∀ (A : Around) (outer : List Env) (s : Shared) (H : Hp) (E : XK) (f c' : Addr), Room k (A.deeper (lamEnv X scope s.heap.objs.size f c')) → PE (lamCx X A outer s H E scope f c') body (t E))
    (hdb : (x == ("__debug__" : Str)) = false := by decide) (hd : (a == ("__debug__" : Str)) = false := by decide) (hcd : (a == ("__classdict__" : Str)) = false := by decide) :
    PE X (.Call (.Name x p) [.Lambda params body scope lpos] [] pos) (tLam T TT t) := by
  refine ⟨fun pins s σ H Q I h => ?_⟩
  obtain ⟨hT, h⟩ := h
  refine wpAny_Call_Name_kw (ld_glob I hg hm (PySem.W.callWith_K (h₀ := X.base) I.ok.mod.kin hk ?_ (by rfl) (by rfl)) hdb)
  show wpAny _ _ (spliced ((false, eval (.Lambda params body scope lpos) X.env) :: backTo pos (starEach [] X.env))) _ _ s
  refine Calls.spliced_cons (lam_makeD I TB hcode hmT hu hT hdef hkw (L.has I.ok) fun f c' D t0 pm' ctv H1 s' I1 eN T1 hf hfn hfr hD hDn hDr hco => Calls.spliced_nil ⟨I1.kIn, ?_⟩)
  have rc : codeAny (model X.prog X.w) X.A (.call (.ref g) ⟨[.ref f], []⟩) (CR C8.CX0 X.stack X.prog X.w H1 s' Q C8.E0) s' := by
    refine run_ofS (N := Ng) (ps := [a]) (us := [.ref f]) (vs := [.ref f]) lk hcg Sg hr I1.env0 (hb s' [.ref f] I1.kIn rfl) (.cons rfl .nil) rfl fun hr' => ?_
    obtain ⟨t', ht', hq'⟩ := hG f c' s' H1 Q (fun E H' Q' => t E σ H' Q') (fun W pn xe E p1 p2 tk hW => pe_actD (i := 0) I1 L hf hfn hfr hD hDn hDr hbind hloc tk hW hr' (fun A outer s H hr2 => hbody A outer s H E f c' hr2) hNg hva hd hcd) hco (h H1 eN T1)
    exact ⟨t', ht'.nox, hq'⟩
  refine wpAny_call (codeAny_mono rc fun r s2 hq => ?_)
  match r, hq with
  | .error e, hq => exact (show False from hq).elim
  | .ok (.ret u), hq => exact I1.after hq
  | .ok .next, hq => exact hq.elim
  | .ok .brk, hq => exact hq.elim
  | .ok .cont, hq => exact hq.elim
end
end K4
end
section
set_option Elab.async false
set_option linter.all false
set_option maxRecDepth 100000
set_option maxHeartbeats 4000000
/-! The data: fractions, rows of fractions, as they stand in the abstract heap; short words for defs and calls. -/
namespace K4
open PySem PySem.Spec PyProof.Rows L2
abbrev Frag := PySem.W.Frag

/-! ### heaps -/
theorem grow {H : Hp} {p : Addr} {o : HO} {G : Hp → Prop} (hp : H p = none) (h : ∀ H', Ext H H' → H' p = some o → G H') : G (upd H p o) := h _ (Ext.upd hp) upd_same
theorem growT {H : Hp} {xs : List V} {K : Frag} {G : V → Hp → Prop} (h : ∀ p H', Ext H H' → H' p = some (.tup xs) → G (.ref p) H') : ∀ p, H p = none → G (.ref p) (upd H p (.tup xs)) := fun p hp => h p _ (Ext.upd hp) upd_same
theorem Ext.notIn {H H' : Hp} (e : Ext H H') {p : Addr} (h : H' p = none) : H p = none := by
  cases q : H p with
  | none => rfl
  | some o => rw [e p o q] at h; cases h
/-- an object that H does not know may change -/
theorem Ext.mut {H H' : Hp} {p : Addr} {o : HO} (e : Ext H H') (h : H p = none) : Ext H (upd H' p o) := fun a u ha => by
  rw [upd_ne (ne_of_none ha h)]
  exact e a u ha

/-! ### fractions -/
/-- v is the tuple of the fraction q -/
def Fr (K : Frag) (H : Hp) (v : V) (q : Rat) : Prop := ∃ a, v = .ref a ∧ SqT K H a [.int q.num, .int (q.den : Int)]
theorem Fr.ext {K : Frag} {H H' : Hp} {v : V} {q : Rat} (h : Fr K H v q) (e : Ext H H') : Fr K H' v q := by
  obtain ⟨a, rfl, t⟩ := h
  exact ⟨a, rfl, t.ext e⟩
theorem Fr.of {K : Frag} {H : Hp} {p : Addr} {q : Rat} {n d : Int} (h : H p = some (.tup [.int n, .int d])) (hn : n = q.num) (hd : d = (q.den : Int)) : Fr K H (.ref p) q := ⟨p, rfl, by rw [← hn, ← hd]; exact SqT.of h⟩
/-- the values xs are the fractions qs -/
def Frs (K : Frag) (H : Hp) (xs : List V) (qs : List Rat) : Prop := xs.length = qs.length ∧ ∀ (i : Nat) (q : Rat), qs[i]? = some q → ∃ x, xs[i]? = some x ∧ Fr K H x q
theorem Frs.ext {K : Frag} {H H' : Hp} {xs : List V} {qs : List Rat} (h : Frs K H xs qs) (e : Ext H H') : Frs K H' xs qs := ⟨h.1, fun i q hq => by
  obtain ⟨x, hx, f⟩ := h.2 i q hq
  exact ⟨x, hx, f.ext e⟩⟩
theorem Frs.nil {K : Frag} {H : Hp} : Frs K H [] [] := ⟨rfl, fun i q h => by simp at h⟩
theorem Frs.cons {K : Frag} {H : Hp} {x : V} {xs : List V} {q : Rat} {qs : List Rat} (f : Fr K H x q) (h : Frs K H xs qs) : Frs K H (x :: xs) (q :: qs) := ⟨by simp [h.1], fun i r hr => by
  cases i with
  | zero =>
    obtain rfl : q = r := by simpa using hr
    exact ⟨x, rfl, f⟩
  | succ i => simpa using h.2 i r (by simpa using hr)⟩
theorem Frs.append {K : Frag} {H : Hp} {xs ys : List V} {qs rs : List Rat} (h : Frs K H xs qs) (g : Frs K H ys rs) : Frs K H (xs ++ ys) (qs ++ rs) := ⟨by simp [h.1, g.1], fun i r hr => by
  by_cases hi : i < qs.length
  · rw [List.getElem?_append_left hi] at hr
    obtain ⟨x, hx, f⟩ := h.2 i r hr
    exact ⟨x, by rw [List.getElem?_append_left (by rw [h.1]; exact hi)]; exact hx, f⟩
  · rw [List.getElem?_append_right (by omega)] at hr
    obtain ⟨x, hx, f⟩ := g.2 _ r hr
    exact ⟨x, by rw [List.getElem?_append_right (by rw [h.1]; omega), h.1]; exact hx, f⟩⟩
theorem Frs.snoc {K : Frag} {H : Hp} {x : V} {xs : List V} {q : Rat} {qs : List Rat} (h : Frs K H xs qs) (f : Fr K H x q) : Frs K H (xs ++ [x]) (qs ++ [q]) := h.append (.cons f .nil)
theorem Frs.take {K : Frag} {H : Hp} {xs : List V} {qs : List Rat} (h : Frs K H xs qs) (n : Nat) : Frs K H (xs.take n) (qs.take n) := ⟨by simp [h.1], fun i r hr => by
  rw [List.getElem?_take] at hr
  split at hr
  · rename_i hi
    obtain ⟨x, hx, f⟩ := h.2 i r hr
    exact ⟨x, by rw [List.getElem?_take, if_pos hi]; exact hx, f⟩
  · cases hr⟩
theorem Frs.drop {K : Frag} {H : Hp} {xs : List V} {qs : List Rat} (h : Frs K H xs qs) (n : Nat) : Frs K H (xs.drop n) (qs.drop n) := ⟨by simp [h.1], fun i r hr => by
  rw [List.getElem?_drop] at hr
  obtain ⟨x, hx, f⟩ := h.2 _ r hr
  exact ⟨x, by rw [List.getElem?_drop]; exact hx, f⟩⟩
theorem Frs.set {K : Frag} {H : Hp} {x : V} {xs : List V} {q : Rat} {qs : List Rat} (h : Frs K H xs qs) (j : Nat) (f : Fr K H x q) : Frs K H (xs.set j x) (qs.set j q) := ⟨by simp [h.1], fun i r hr => by
  by_cases e : j = i
  · subst e
    by_cases hi : j < qs.length
    · rw [List.getElem?_set_self hi] at hr
      obtain rfl : q = r := by simpa using hr
      exact ⟨x, by rw [List.getElem?_set_self (by rw [h.1]; exact hi)], f⟩
    · rw [List.getElem?_eq_none (by simp; omega)] at hr
      cases hr
  · rw [List.getElem?_set_ne e] at hr
    obtain ⟨y, hy, g⟩ := h.2 i r hr
    exact ⟨y, by rw [List.getElem?_set_ne e]; exact hy, g⟩⟩
theorem Frs.rep {K : Frag} {H : Hp} {x : V} {q : Rat} (f : Fr K H x q) : ∀ n, Frs K H (List.replicate n x) (List.replicate n q)
  | 0 => .nil
  | n + 1 => .cons f (Frs.rep f n)
theorem Frs.at {K : Frag} {H : Hp} {xs : List V} {qs : List Rat} (h : Frs K H xs qs) {i : Nat} {x : V} (hx : xs[i]? = some x) : ∃ q, qs[i]? = some q ∧ Fr K H x q := by
  have hi : i < qs.length := by
    rw [← h.1]
    exact (List.getElem?_eq_some_iff.mp hx).1
  obtain ⟨y, hy, f⟩ := h.2 i _ (List.getElem?_eq_getElem hi)
  rw [hx] at hy
  cases hy
  exact ⟨_, List.getElem?_eq_getElem hi, f⟩
/-- at a: a list of the fractions qs -/
def FL (K : Frag) (H : Hp) (a : Addr) (qs : List Rat) : Prop := ∃ xs, SqL K H a xs ∧ Frs K H xs qs
theorem FL.ext {K : Frag} {H H' : Hp} {a : Addr} {qs : List Rat} (h : FL K H a qs) (e : Ext H H') : FL K H' a qs := by
  obtain ⟨xs, s, f⟩ := h
  exact ⟨xs, s.ext e, f.ext e⟩
theorem FL.of {K : Frag} {H : Hp} {a : Addr} {xs : List V} {qs : List Rat} (h : H a = some (.lst xs)) (f : Frs K H xs qs) : FL K H a qs := ⟨xs, SqL.of h, f⟩

/-! ### the quotient of two ints -/
theorem divInt_num {u l : Int} (hl : 0 < l) : (Rat.divInt u l).num = u / (Nat.gcd u.natAbs l.natAbs : Nat) := by
  rw [Rat.num_divInt, Int.sign_eq_one_of_pos hl, Int.one_mul, Int.gcd, Nat.gcd_comm]
theorem divInt_den {u l : Int} (hl : 0 < l) : ((Rat.divInt u l).den : Int) = l / (Nat.gcd u.natAbs l.natAbs : Nat) := by
  rw [Rat.den_divInt, if_neg (by omega), Int.gcd, Nat.gcd_comm l.natAbs]
  have e : (l.natAbs : Int) = l := by omega
  rw [Int.natCast_ediv, e]
theorem divInt_num' {u l : Int} (hl : l < 0) : (Rat.divInt u l).num = (-u) / (Nat.gcd u.natAbs l.natAbs : Nat) := by
  rw [Rat.num_divInt, Int.sign_eq_neg_one_of_neg hl, Int.gcd, Nat.gcd_comm]
  congr 1
  omega
theorem divInt_den' {u l : Int} (hl : l < 0) : ((Rat.divInt u l).den : Int) = (-l) / (Nat.gcd u.natAbs l.natAbs : Nat) := by
  rw [Rat.den_divInt, if_neg (by omega), Int.gcd, Nat.gcd_comm l.natAbs]
  have e : (l.natAbs : Int) = -l := by omega
  rw [Int.natCast_ediv, e]

/-! ### rules -/
section
variable {X : Cx} {a : Expr} {ta : TE} {pos p1 : Pos} {j : Nat}
/-- x[0], x[1] of a fraction -/
def rF0 (K : Frag) : R2 := fun x y H Q => y = .int 0 ∧ ∃ q, Fr K H x q ∧ Q (.int q.num) H
def rF1 (K : Frag) : R2 := fun x y H Q => y = .int 1 ∧ ∃ q, Fr K H x q ∧ Q (.int (q.den : Int)) H
theorem ix_f0 : IxR X (rF0 X.K) := fun va sl pins s σ H x y v u Q I rx ry h hs => by
  obtain ⟨rfl, q, ⟨p, rfl, t⟩, hq⟩ := h
  exact ix_tup va sl pins s σ H _ _ v u Q I rx ry ⟨p, _, 0, _, rfl, rfl, t, rfl, hq⟩ hs
theorem ix_f1 : IxR X (rF1 X.K) := fun va sl pins s σ H x y v u Q I rx ry h hs => by
  obtain ⟨rfl, q, ⟨p, rfl, t⟩, hq⟩ := h
  exact ix_tup va sl pins s σ H _ _ v u Q I rx ry ⟨p, _, 1, _, rfl, rfl, t, rfl, hq⟩ hs
theorem pe_f0 (ha : PE X a ta) : PE X (.Subscript a (.Constant (.int 0) j p1) pos) (tOp (rF0 X.K) ta (tC (.int 0))) := pe_ix ix_f0 ha pe_int (fun _ _ => rfl)
theorem pe_f1 (ha : PE X a ta) : PE X (.Subscript a (.Constant (.int 1) j p1) pos) (tOp (rF1 X.K) ta (tC (.int 1))) := pe_ix ix_f1 ha pe_int (fun _ _ => rfl)
/-- // of great ints, the divisor of any sign -/
def CDivZ (_ j : Int) : Prop := j ≠ 0 ∧ j.natAbs.log2 < 9000
theorem op_fdivZ : OpR X (binaryOp .FloorDiv) (rI CDivZ fun i j => .int (i.fdiv j)) := opI fun i j _ _ _ _ _ hc q => floordiv_int hc.1 q (.inl (PyProof.noPylong_of_log2 hc.2))
/-- several == of data, of lists of fractions -/
theorem cdivZ {i j : Int} {b : Nat} (h : j ≠ 0) (hb : j.natAbs < 2 ^ b) (h0 : 0 < b) (h9 : b ≤ 9000) : CDivZ i j := ⟨h, Nat.lt_of_lt_of_le (PySem.Flt.log2_lt_of h0 hb) h9⟩
end

/-! ### a def of the top, called by its name -/
structure CallD (P : Program) (w : World) (K : Frag) (mg : Str → Option Value) (base : Heap) (CX : CXT) (k : Nat) (x : Str) (fd : FuncData) (ps : List Str) (sp : Sp) : Prop where
  ok : FnOk P w K mg base CX k (He.ga K x) fd ps sp
  g : mg x = some (.ref (He.ga K x))
  kp : PySem.W.keepIn K (.ref (He.ga K x)) = true
  b : Binds K fd ps []
def tCd (sp : Sp) (E : XK) (t : TA) : TE := fun σ H Q => t σ H fun vs H1 => sp vs H1 Q E
section
variable {X : Cx} {CX : CXT} {k : Nat} {x : Str} {fd : FuncData} {ps : List Str} {sp : Sp} {E : XK} {p pos : Pos} {e : Expr} {es : List Expr} {t : TA}
theorem pe_cd (D : CallD X.prog X.w X.K X.mg X.base CX k x fd ps sp) (hr : Room k X.A) (hx : Passes CX X E) (ha : PA X (e :: es) t) (hg : Gl X x := by rfl) (hdb : (x == ("__debug__" : Str)) = false := by decide)
    (he : starEach (e :: es) X.env = (false, eval e X.env) :: starEach es X.env := by rfl) (hpl : (backTo pos (starEach es X.env)).any (·.1) = false := by rfl) : PE X (.Call (.Name x p) (e :: es) [] pos) (tCd sp E t) := by
  refine ⟨fun pins s σ H Q I q => (pe_call (pos := pos) (p := p) D.ok hr hg D.g D.kp D.b .nil hx (t := fun σ H Q => t σ H Q) ha hdb he hpl).run pins s σ H Q I ?_⟩
  show t σ H fun vs H1 => sp (vs ++ []) H1 Q E
  have e1 : (fun (vs : List V) (H1 : Hp) => sp (vs ++ []) H1 Q E) = fun vs H1 => sp vs H1 Q E := by
    funext vs H1
    rw [List.append_nil]
  rw [e1]
  exact q
end
/-- nothing leaves (wished of a def that may raise) -/
theorem passN {X : Cx} {P : Program} {w : World} : Passes (L2.CX P w) X (fun _ _ _ => False) := fun _ _ _ _ _ _ _ h => by
  obtain ⟨_, _, _, _, _, _, _, _, _, _, _, _, z⟩ := h
  exact z.elim
end K4
end
section
set_option Elab.async false
set_option linter.all false
set_option maxRecDepth 100000
set_option maxHeartbeats 4000000
/-! What the walks ask of the written part; short words. -/
namespace K4
open PySem PySem.Spec PyProof.Rows L2
def top (i : Nat) : Stmt := PySem.Challenge.pw_creepclocks_k04_whole_powers_and_logs_of.main.body.getD i (.Pass ⟨0, 0, 0, 0⟩)
abbrev cRow (K : Frag) : Addr := He.ga K "Row"
abbrev cStep (K : Frag) : Addr := He.ga K "Step"
abbrev cInv (K : Frag) : Addr := He.ga K "InvalidNumber"
abbrev cNot (K : Frag) : Addr := He.ga K "NotOne"
abbrev cDiv (K : Frag) : Addr := He.ga K "DividedByZero"
abbrev FnT (K : Frag) (x : Str) (st : Stmt) (fd : FuncData) : Prop := FunD K x x (defArgs st) (defBody st) (defScope st) [] [] (He.ga K x) fd
abbrev FnM (K : Frag) (c m q : Str) (st : Stmt) (fd : FuncData) : Prop := FunD K m q (defArgs st) (defBody st) (defScope st) [] [] (He.ma K (He.ga K c) m) fd
def clsItem (i j : Nat) : Stmt := (match top i with
  | .ClassDef (body := b) .. => b
  | _ => []).getD j (.Pass ⟨0, 0, 0, 0⟩)
abbrev s_is_fraction : Stmt := top 17
abbrev s_ratio : Stmt := top 18
abbrev s_sum_of : Stmt := top 19
abbrev s_product_of : Stmt := top 21
abbrev s_quotient_of : Stmt := top 22
abbrev s_is_whole : Stmt := top 27
abbrev s_is_order : Stmt := top 28
abbrev s_first_no_fraction : Stmt := top 29
abbrev s_check_numbers : Stmt := top 30
abbrev s_check_same_order : Stmt := top 31
abbrev s_least_place : Stmt := top 33
abbrev s_unit_line : Stmt := top 34
abbrev s_add_product : Stmt := top 35
abbrev s_added : Stmt := top 36
abbrev s_scaled_list : Stmt := top 38
abbrev s_multiplied : Stmt := top 39
abbrev s_reciprocal : Stmt := top 52
abbrev s_row_power : Stmt := top 53
abbrev s_row_log : Stmt := top 54
abbrev s__bend_of : Stmt := top 57
abbrev s__kind_of : Stmt := top 58
abbrev s__law_bag : Stmt := top 60
abbrev s__law_draw : Stmt := top 61
abbrev s__law_of : Stmt := top 62
abbrev s__law_like : Stmt := top 63
abbrev s__law_low : Stmt := top 64
abbrev s__law_add : Stmt := top 65
abbrev s__law_mul : Stmt := top 66
abbrev s__law_times : Stmt := top 67
abbrev s__law_scale : Stmt := top 68
abbrev s__law_number : Stmt := top 69
abbrev s__law_odd : Stmt := top 70
abbrev s__law_big : Stmt := top 71
abbrev s__law_wide : Stmt := top 72
abbrev s__law_is : Stmt := top 73
abbrev s__law_fault : Stmt := top 74
abbrev s__law_ask : Stmt := top 75
abbrev s__law_row : Stmt := top 76
abbrev s__law_slope : Stmt := top 77
abbrev s__law_power_so : Stmt := top 78
abbrev s__law_log_so : Stmt := top 79
abbrev s__law_small : Stmt := top 80
abbrev s__law_whole_so : Stmt := top 81
abbrev s__law_back_so : Stmt := top 82
abbrev s__law_refused_so : Stmt := top 83
abbrev s_law : Stmt := top 84
abbrev m_Row_init : Stmt := clsItem 51 0
abbrev m_Row_numbers : Stmt := clsItem 51 2
abbrev m_Row_add : Stmt := clsItem 51 4
abbrev m_Row_mul : Stmt := clsItem 51 6
abbrev m_Row_scaled : Stmt := clsItem 51 8
abbrev m_Step_init : Stmt := clsItem 56 0
abbrev m_Step_eq : Stmt := clsItem 56 15
abbrev m_InvalidNumber_init : Stmt := clsItem 5 0
abbrev m_NotOne_init : Stmt := clsItem 14 0
abbrev m_DividedByZero_init : Stmt := clsItem 15 0
abbrev m_Step_still : Stmt := clsItem 56 1
/-- a class whose instances are asked isinstance -/
structure InsK (K : Frag) (C : Addr) : Prop where
  ha : PySem.W.findIn K (.ref C) "__class__" = some (some (.builtin "object.__class__"))
  hm : PySem.W.mroIn K C (.type "object") = some true
/-- an own operator of a class -/
structure OwnOp (K : Frag) (C : Addr) (m : Str) : Prop where
  at_ : PySem.W.findIn K (.ref C) m = some (some (.ref (He.ma K C m)))
  fn : PySem.W.isFn K (.ref (He.ma K C m)) = true
structure Tx (K : Frag) (mg : Str → Option Value) : Prop where
  d_is_fraction : ∃ fd, FnT K "is_fraction" s_is_fraction fd
  g_is_fraction : mg "is_fraction" = some (.ref (He.ga K "is_fraction"))
  d_ratio : ∃ fd, FnT K "ratio" s_ratio fd
  g_ratio : mg "ratio" = some (.ref (He.ga K "ratio"))
  d_sum_of : ∃ fd, FnT K "sum_of" s_sum_of fd
  g_sum_of : mg "sum_of" = some (.ref (He.ga K "sum_of"))
  d_product_of : ∃ fd, FnT K "product_of" s_product_of fd
  g_product_of : mg "product_of" = some (.ref (He.ga K "product_of"))
  d_quotient_of : ∃ fd, FnT K "quotient_of" s_quotient_of fd
  g_quotient_of : mg "quotient_of" = some (.ref (He.ga K "quotient_of"))
  d_is_whole : ∃ fd, FnT K "is_whole" s_is_whole fd
  g_is_whole : mg "is_whole" = some (.ref (He.ga K "is_whole"))
  d_is_order : ∃ fd, FnT K "is_order" s_is_order fd
  g_is_order : mg "is_order" = some (.ref (He.ga K "is_order"))
  d_first_no_fraction : ∃ fd, FnT K "first_no_fraction" s_first_no_fraction fd
  g_first_no_fraction : mg "first_no_fraction" = some (.ref (He.ga K "first_no_fraction"))
  d_check_numbers : ∃ fd, FnT K "check_numbers" s_check_numbers fd
  g_check_numbers : mg "check_numbers" = some (.ref (He.ga K "check_numbers"))
  d_check_same_order : ∃ fd, FnT K "check_same_order" s_check_same_order fd
  g_check_same_order : mg "check_same_order" = some (.ref (He.ga K "check_same_order"))
  d_least_place : ∃ fd, FnT K "least_place" s_least_place fd
  g_least_place : mg "least_place" = some (.ref (He.ga K "least_place"))
  d_unit_line : ∃ fd, FnT K "unit_line" s_unit_line fd
  g_unit_line : mg "unit_line" = some (.ref (He.ga K "unit_line"))
  d_add_product : ∃ fd, FnT K "add_product" s_add_product fd
  g_add_product : mg "add_product" = some (.ref (He.ga K "add_product"))
  d_added : ∃ fd, FnT K "added" s_added fd
  g_added : mg "added" = some (.ref (He.ga K "added"))
  d_scaled_list : ∃ fd, FnT K "scaled_list" s_scaled_list fd
  g_scaled_list : mg "scaled_list" = some (.ref (He.ga K "scaled_list"))
  d_multiplied : ∃ fd, FnT K "multiplied" s_multiplied fd
  g_multiplied : mg "multiplied" = some (.ref (He.ga K "multiplied"))
  d_reciprocal : ∃ fd, FnT K "reciprocal" s_reciprocal fd
  g_reciprocal : mg "reciprocal" = some (.ref (He.ga K "reciprocal"))
  d_row_power : ∃ fd, FnT K "row_power" s_row_power fd
  g_row_power : mg "row_power" = some (.ref (He.ga K "row_power"))
  d_row_log : ∃ fd, FnT K "row_log" s_row_log fd
  g_row_log : mg "row_log" = some (.ref (He.ga K "row_log"))
  d__bend_of : ∃ fd, FnT K "_bend_of" s__bend_of fd
  g__bend_of : mg "_bend_of" = some (.ref (He.ga K "_bend_of"))
  d__kind_of : ∃ fd, FnT K "_kind_of" s__kind_of fd
  g__kind_of : mg "_kind_of" = some (.ref (He.ga K "_kind_of"))
  d__law_bag : ∃ fd, FnT K "_law_bag" s__law_bag fd
  g__law_bag : mg "_law_bag" = some (.ref (He.ga K "_law_bag"))
  d__law_draw : ∃ fd, FnT K "_law_draw" s__law_draw fd
  g__law_draw : mg "_law_draw" = some (.ref (He.ga K "_law_draw"))
  d__law_of : ∃ fd, FnT K "_law_of" s__law_of fd
  g__law_of : mg "_law_of" = some (.ref (He.ga K "_law_of"))
  d__law_like : ∃ fd, FnT K "_law_like" s__law_like fd
  g__law_like : mg "_law_like" = some (.ref (He.ga K "_law_like"))
  d__law_low : ∃ fd, FnT K "_law_low" s__law_low fd
  g__law_low : mg "_law_low" = some (.ref (He.ga K "_law_low"))
  d__law_add : ∃ fd, FnT K "_law_add" s__law_add fd
  g__law_add : mg "_law_add" = some (.ref (He.ga K "_law_add"))
  d__law_mul : ∃ fd, FnT K "_law_mul" s__law_mul fd
  g__law_mul : mg "_law_mul" = some (.ref (He.ga K "_law_mul"))
  d__law_times : ∃ fd, FnT K "_law_times" s__law_times fd
  g__law_times : mg "_law_times" = some (.ref (He.ga K "_law_times"))
  d__law_scale : ∃ fd, FnT K "_law_scale" s__law_scale fd
  g__law_scale : mg "_law_scale" = some (.ref (He.ga K "_law_scale"))
  d__law_number : ∃ fd, FnT K "_law_number" s__law_number fd
  g__law_number : mg "_law_number" = some (.ref (He.ga K "_law_number"))
  d__law_odd : ∃ fd, FnT K "_law_odd" s__law_odd fd
  g__law_odd : mg "_law_odd" = some (.ref (He.ga K "_law_odd"))
  d__law_big : ∃ fd, FnT K "_law_big" s__law_big fd
  g__law_big : mg "_law_big" = some (.ref (He.ga K "_law_big"))
  d__law_wide : ∃ fd, FnT K "_law_wide" s__law_wide fd
  g__law_wide : mg "_law_wide" = some (.ref (He.ga K "_law_wide"))
  d__law_is : ∃ fd, FnT K "_law_is" s__law_is fd
  g__law_is : mg "_law_is" = some (.ref (He.ga K "_law_is"))
  d__law_fault : ∃ fd, FnT K "_law_fault" s__law_fault fd
  g__law_fault : mg "_law_fault" = some (.ref (He.ga K "_law_fault"))
  d__law_ask : ∃ fd, FnT K "_law_ask" s__law_ask fd
  g__law_ask : mg "_law_ask" = some (.ref (He.ga K "_law_ask"))
  d__law_row : ∃ fd, FnT K "_law_row" s__law_row fd
  g__law_row : mg "_law_row" = some (.ref (He.ga K "_law_row"))
  d__law_slope : ∃ fd, FnT K "_law_slope" s__law_slope fd
  g__law_slope : mg "_law_slope" = some (.ref (He.ga K "_law_slope"))
  d__law_power_so : ∃ fd, FnT K "_law_power_so" s__law_power_so fd
  g__law_power_so : mg "_law_power_so" = some (.ref (He.ga K "_law_power_so"))
  d__law_log_so : ∃ fd, FnT K "_law_log_so" s__law_log_so fd
  g__law_log_so : mg "_law_log_so" = some (.ref (He.ga K "_law_log_so"))
  d__law_small : ∃ fd, FnT K "_law_small" s__law_small fd
  g__law_small : mg "_law_small" = some (.ref (He.ga K "_law_small"))
  d__law_whole_so : ∃ fd, FnT K "_law_whole_so" s__law_whole_so fd
  g__law_whole_so : mg "_law_whole_so" = some (.ref (He.ga K "_law_whole_so"))
  d__law_back_so : ∃ fd, FnT K "_law_back_so" s__law_back_so fd
  g__law_back_so : mg "_law_back_so" = some (.ref (He.ga K "_law_back_so"))
  d__law_refused_so : ∃ fd, FnT K "_law_refused_so" s__law_refused_so fd
  g__law_refused_so : mg "_law_refused_so" = some (.ref (He.ga K "_law_refused_so"))
  d_law : ∃ fd, FnT K "law" s_law fd
  g_law : mg "law" = some (.ref (He.ga K "law"))
  f_len : mg "len" = none
  f_range : mg "range" = none
  f_isinstance : mg "isinstance" = none
  f_int : mg "int" = none
  f_abs : mg "abs" = none
  f_all : mg "all" = none
  f_list : mg "list" = none
  f_tuple : mg "tuple" = none
  f_bool : mg "bool" = none
  f_str : mg "str" = none
  f_enumerate : mg "enumerate" = none
  f_zip : mg "zip" = none
  g_gcd : mg "gcd" = some (.builtin "math.gcd")
  g_ZERO : mg "ZERO" = some (.ref (He.ga K "ZERO"))
  g_ONE : mg "ONE" = some (.ref (He.ga K "ONE"))
  zero : ∀ H, SqT K H (He.ga K "ZERO") [.int 0, .int 1]
  one : ∀ H, SqT K H (He.ga K "ONE") [.int 1, .int 1]
  c_Row : Cls K (cRow K)
  k_Row : Mk K (cRow K) (He.ma K (cRow K) "__init__")
  g_Row : mg "Row" = some (.ref (cRow K))
  i_Row : InsK K (cRow K)
  ii_Row : PySem.W.kitOne K (.ref (cRow K)) (.ref (cRow K)) = some true
  c_Step : Cls K (cStep K)
  k_Step : Mk K (cStep K) (He.ma K (cStep K) "__init__")
  g_Step : mg "Step" = some (.ref (cStep K))
  i_Step : InsK K (cStep K)
  ii_Step : PySem.W.kitOne K (.ref (cStep K)) (.ref (cStep K)) = some true
  hn : PySem.W.specialIn K (.builtin "object.__class__") "__get__" = some (some (.builtin "getset_descriptor.__get__"))
  htk : PySem.W.takesIn K (.builtin "object.__class__") = some true
  nR_numbers : NoAttr K (cRow K) "_numbers"
  nRorder : NoAttr K (cRow K) "order"
  nRheight : NoAttr K (cRow K) "height"
  nS_numbers : NoAttr K (cStep K) "_numbers"
  nSorder : NoAttr K (cStep K) "order"
  nSheight : NoAttr K (cStep K) "height"
  nSlead : NoAttr K (cStep K) "lead"
  nSkind : NoAttr K (cStep K) "kind"
  nSflat : NoAttr K (cStep K) "flat"
  nSstrength : NoAttr K (cStep K) "strength"
  m_numbers : Meth K (cRow K) "numbers" (He.ma K (cRow K) "numbers")
  m_scaled : Meth K (cRow K) "scaled" (He.ma K (cRow K) "scaled")
  sf : PySem.W.selfFirst K (cRow K) = true
  o_add : OwnOp K (cRow K) "__add__"
  o_mul : OwnOp K (cRow K) "__mul__"
  o_eq : OwnOp K (cStep K) "__eq__"
  kS : ∀ c ∈ ["int", "bool", "str", "list", "tuple"], PySem.W.kitOne K (.ref (cStep K)) (.type c) = some false
  d_Row_init : ∃ fd, FnM K "Row" "__init__" "Row.__init__" m_Row_init fd
  d_Row_numbers : ∃ fd, FnM K "Row" "numbers" "Row.numbers" m_Row_numbers fd
  d_Row_add : ∃ fd, FnM K "Row" "__add__" "Row.__add__" m_Row_add fd
  d_Row_mul : ∃ fd, FnM K "Row" "__mul__" "Row.__mul__" m_Row_mul fd
  d_Row_scaled : ∃ fd, FnM K "Row" "scaled" "Row.scaled" m_Row_scaled fd
  d_Step_init : ∃ fd, FnM K "Step" "__init__" "Step.__init__" m_Step_init fd
  d_Step_eq : ∃ fd, FnM K "Step" "__eq__" "Step.__eq__" m_Step_eq fd
  d_InvalidNumber_init : ∃ fd, FnM K "InvalidNumber" "__init__" "InvalidNumber.__init__" m_InvalidNumber_init fd
  d_NotOne_init : ∃ fd, FnM K "NotOne" "__init__" "NotOne.__init__" m_NotOne_init fd
  d_DividedByZero_init : ∃ fd, FnM K "DividedByZero" "__init__" "DividedByZero.__init__" m_DividedByZero_init fd
  still : ∃ (p g : Addr) (fd : FuncData), SMet K (cStep K) "still" p g ∧ FunD K "still" "Step.still" (defArgs m_Step_still) (defBody m_Step_still) (defScope m_Step_still) [] [] g fd
  g_InvalidNumber : mg "InvalidNumber" = some (.ref (cInv K))
  e_InvalidNumber : OexC K (cInv K)
  in_InvalidNumber : PySem.W.findIn K (.ref (cInv K)) "__init__" = some (some (.ref (He.ma K (cInv K) "__init__")))
  ty_InvalidNumber : PySem.W.typeIn K (.ref (He.ma K (cInv K) "__init__")) = some (.type "function")
  x_InvalidNumber : XfC K (cInv K)
  ic_InvalidNumber : ErrC K (cInv K)
  n_InvalidNumber_code : PySem.W.findIn K (.ref (cInv K)) "code" = some none
  n_InvalidNumber_value : PySem.W.findIn K (.ref (cInv K)) "value" = some none
  n_InvalidNumber_first : PySem.W.findIn K (.ref (cInv K)) "first" = some none
  cr_InvalidNumber : PySem.W.exmOne K (.ref (cInv K)) (.ref (He.ga K "CreepError")) = some true
  na_InvalidNumber : PySem.W.exmOne K (.ref (cInv K)) (.ref (He.ga K "NoAnswer")) = some false
  kk_Inv_Inv : PySem.W.kitOne K (.ref (cInv K)) (.ref (cInv K)) = some true
  kk_Inv_Not : PySem.W.kitOne K (.ref (cInv K)) (.ref (cNot K)) = some false
  kk_Inv_Div : PySem.W.kitOne K (.ref (cInv K)) (.ref (cDiv K)) = some false
  g_NotOne : mg "NotOne" = some (.ref (cNot K))
  e_NotOne : OexC K (cNot K)
  in_NotOne : PySem.W.findIn K (.ref (cNot K)) "__init__" = some (some (.ref (He.ma K (cNot K) "__init__")))
  ty_NotOne : PySem.W.typeIn K (.ref (He.ma K (cNot K) "__init__")) = some (.type "function")
  x_NotOne : XfC K (cNot K)
  ic_NotOne : ErrC K (cNot K)
  n_NotOne_code : PySem.W.findIn K (.ref (cNot K)) "code" = some none
  n_NotOne_value : PySem.W.findIn K (.ref (cNot K)) "value" = some none
  n_NotOne_first : PySem.W.findIn K (.ref (cNot K)) "first" = some none
  cr_NotOne : PySem.W.exmOne K (.ref (cNot K)) (.ref (He.ga K "CreepError")) = some true
  na_NotOne : PySem.W.exmOne K (.ref (cNot K)) (.ref (He.ga K "NoAnswer")) = some false
  kk_Not_Inv : PySem.W.kitOne K (.ref (cNot K)) (.ref (cInv K)) = some false
  kk_Not_Not : PySem.W.kitOne K (.ref (cNot K)) (.ref (cNot K)) = some true
  kk_Not_Div : PySem.W.kitOne K (.ref (cNot K)) (.ref (cDiv K)) = some false
  g_DividedByZero : mg "DividedByZero" = some (.ref (cDiv K))
  e_DividedByZero : AeC K (cDiv K)
  in_DividedByZero : PySem.W.findIn K (.ref (cDiv K)) "__init__" = some (some (.ref (He.ma K (cDiv K) "__init__")))
  ty_DividedByZero : PySem.W.typeIn K (.ref (He.ma K (cDiv K) "__init__")) = some (.type "function")
  x_DividedByZero : XfC K (cDiv K)
  ic_DividedByZero : ErrC K (cDiv K)
  n_DividedByZero_code : PySem.W.findIn K (.ref (cDiv K)) "code" = some none
  n_DividedByZero_value : PySem.W.findIn K (.ref (cDiv K)) "value" = some none
  n_DividedByZero_first : PySem.W.findIn K (.ref (cDiv K)) "first" = some none
  cr_DividedByZero : PySem.W.exmOne K (.ref (cDiv K)) (.ref (He.ga K "CreepError")) = some false
  na_DividedByZero : PySem.W.exmOne K (.ref (cDiv K)) (.ref (He.ga K "NoAnswer")) = some true
  kk_Div_Inv : PySem.W.kitOne K (.ref (cDiv K)) (.ref (cInv K)) = some false
  kk_Div_Not : PySem.W.kitOne K (.ref (cDiv K)) (.ref (cNot K)) = some false
  kk_Div_Div : PySem.W.kitOne K (.ref (cDiv K)) (.ref (cDiv K)) = some true
  tk_Div : PySem.W.takerIn K (cDiv K) "code" = some none
  g_CreepError : mg "CreepError" = some (.ref (He.ga K "CreepError"))
  g_NoAnswer : mg "NoAnswer" = some (.ref (He.ga K "NoAnswer"))

/-! ### kinds of values -/
inductive Kd where | non | bl | int | str | lst | tup | stp
inductive Kind (K : Frag) (H : Hp) : V → Kd → Prop where
  | non : Kind K H .non .non
  | bl (b : Bool) : Kind K H (.bl b) .bl
  | int (i : Int) : Kind K H (.int i) .int
  | str (x : Str) : Kind K H (.str x) .str
  | lst {a : Addr} {xs : List V} (h : SqL K H a xs) : Kind K H (.ref a) .lst
  | tup {a : Addr} {xs : List V} (h : SqT K H a xs) : Kind K H (.ref a) .tup
  | stp {a dx : Addr} {fs : List (Str × V)} (h : H a = some (.ins (cStep K) dx fs)) : Kind K H (.ref a) .stp
def isK : Kd → String → Bool
  | .bl, c => c == "bool" || c == "int"
  | .int, c => c == "int"
  | .str, c => c == "str"
  | .lst, c => c == "list"
  | .tup, c => c == "tuple"
  | _, _ => false
theorem five {p : String → Prop} (h1 : p "int") (h2 : p "bool") (h3 : p "str") (h4 : p "list") (h5 : p "tuple") : ∀ c ∈ ["int", "bool", "str", "list", "tuple"], p c := fun c hc => by
  have cs : c = "int" ∨ c = "bool" ∨ c = "str" ∨ c = "list" ∨ c = "tuple" := by simpa using hc
  rcases cs with rfl | rfl | rfl | rfl | rfl
  · exact h1
  · exact h2
  · exact h3
  · exact h4
  · exact h5
theorem kind_ty {K : Frag} {mg : Str → Option Value} (T : Tx K mg) {H : Hp} {v : V} {k : Kd} (h : Kind K H v k) : ∃ t, TyX K H v t ∧ ∀ c ∈ ["int", "bool", "str", "list", "tuple"], PySem.W.kitOne K t (.type c) = some (isK k c) := by
  cases h with
  | non => exact ⟨_, .base .non, five (kit_ty (by decide +kernel)) (kit_ty (by decide +kernel)) (kit_ty (by decide +kernel)) (kit_ty (by decide +kernel)) (kit_ty (by decide +kernel))⟩
  | bl b => exact ⟨_, .base (.bl b), five (kit_ty (by decide +kernel)) (kit_ty (by decide +kernel)) (kit_ty (by decide +kernel)) (kit_ty (by decide +kernel)) (kit_ty (by decide +kernel))⟩
  | int i => exact ⟨_, .base (.int i), five (kit_ty (by decide +kernel)) (kit_ty (by decide +kernel)) (kit_ty (by decide +kernel)) (kit_ty (by decide +kernel)) (kit_ty (by decide +kernel))⟩
  | str x => exact ⟨_, .base (.str x), five (kit_ty (by decide +kernel)) (kit_ty (by decide +kernel)) (kit_ty (by decide +kernel)) (kit_ty (by decide +kernel)) (kit_ty (by decide +kernel))⟩
  | @lst a xs h =>
    have t : TyX K H (.ref a) (.type "list") := by
      rcases h with (h | ⟨o, h⟩) | ⟨o, _, _, h, hc, _⟩
      · exact .base (.lst h)
      · exact .base (.frz h)
      · exact .kList h hc
    exact ⟨_, t, five (kit_ty (by decide +kernel)) (kit_ty (by decide +kernel)) (kit_ty (by decide +kernel)) (kit_ty (by decide +kernel)) (kit_ty (by decide +kernel))⟩
  | @tup a xs h =>
    have t : TyX K H (.ref a) (.type "tuple") := by
      rcases h with (h | ⟨o, h⟩) | ⟨o, _, _, h, hc, _⟩
      · exact .base (.tup h)
      · exact .fTuple h
      · exact .kTuple h hc
    exact ⟨_, t, five (kit_ty (by decide +kernel)) (kit_ty (by decide +kernel)) (kit_ty (by decide +kernel)) (kit_ty (by decide +kernel)) (kit_ty (by decide +kernel))⟩
  | stp h => exact ⟨_, .base (.ins h T.c_Step T.i_Step.ha T.hn T.htk T.i_Step.hm), T.kS⟩
theorem Kind.ext {K : Frag} {H H' : Hp} {v : V} {k : Kd} (h : Kind K H v k) (e : Ext H H') : Kind K H' v k := by
  cases h with
  | non => exact .non
  | bl b => exact .bl b
  | int i => exact .int i
  | str x => exact .str x
  | lst h => exact .lst (h.ext e)
  | tup h => exact .tup (h.ext e)
  | stp h => exact .stp (e _ _ h)
/-- isinstance(x, c), c a built-in class -/
def rIsK (K : Frag) (c : String) : List V → Hp → VK → Prop := fun xs H Q => ∃ x k, xs = [x, .ty c] ∧ Kind K H x k ∧ Q (.bl (isK k c)) H
theorem call_isK {X : Cx} (T : Tx X.K X.mg) (c : String) (hc : c ∈ ["int", "bool", "str", "list", "tuple"] := by simp) : CallR X (.builtin "isinstance") (rIsK X.K c) := by
  intro pins s σ H xs us Q I r h
  obtain ⟨x, k, rfl, hk, q⟩ := h
  obtain ⟨t, ty, e⟩ := kind_ty T hk
  exact call_isi pins s σ H _ us Q I r ⟨x, .ty c, t, .type c, _, rfl, .ty c, ty, e c hc, q⟩
/-- isinstance(x, (list, tuple)) -/
def rIsLT (K : Frag) : List V → Hp → VK → Prop := fun xs H Q => ∃ x k tp, xs = [x, .ref tp] ∧ H tp = some (.tup [.ty "list", .ty "tuple"]) ∧ Kind K H x k ∧ Q (.bl (isK k "list" || isK k "tuple")) H
theorem call_isLT {X : Cx} (T : Tx X.K X.mg) : CallR X (.builtin "isinstance") (rIsLT X.K) := by
  intro pins s σ H xs us Q I r h
  obtain ⟨x, k, tp, rfl, ht, hk, q⟩ := h
  obtain ⟨t, ty, e0⟩ := kind_ty T hk
  have e := e0 "list" (by simp)
  have e2 := e0 "tuple" (by simp)
  refine call_isiT pins s σ H _ us Q I r ⟨x, tp, _, t, [.type "list", .type "tuple"], _, rfl, ht, .cons (.ty _) (.cons (.ty _) .nil), ty, ?_, q⟩
  refine kitAny_cons e (fun hb => ?_) (fun hb => by rw [hb]; rfl)
  refine kitAny_cons e2 (fun hb2 => by rw [hb, hb2]; exact kitAny_nil) (fun hb2 => by rw [hb, hb2]; rfl)

/-! ### a def of the top, called by its name -/
structure Ca (P : Program) (w : World) (K : Frag) (mg : Str → Option Value) (base : Heap) (CX : CXT) (k : Nat) (x : Str) (sp : Sp) : Prop where
  ex : ∃ (fd : FuncData) (ps : List Str), FnOk P w K mg base CX k (He.ga K x) fd ps sp ∧ mg x = some (.ref (He.ga K x)) ∧ PySem.W.keepIn K (.ref (He.ga K x)) = true ∧ Binds K fd ps []
section
variable {X : Cx} {CX : CXT} {k j : Nat} {x : Str} {sp : Sp} {E : XK} {p pos : Pos} {e : Expr} {es : List Expr} {t : TA}
theorem pe_ca (D : Ca X.prog X.w X.K X.mg X.base CX k x sp) (hr : Room j X.A) (hk : k ≤ j) (hx : Passes CX X E) (ha : PA X (e :: es) t) (hg : Gl X x := by rfl) (hdb : (x == ("__debug__" : Str)) = false := by decide)
    (he : starEach (e :: es) X.env = (false, eval e X.env) :: starEach es X.env := by rfl) (hpl : (backTo pos (starEach es X.env)).any (·.1) = false := by rfl) : PE X (.Call (.Name x p) (e :: es) [] pos) (tCd sp E t) := by
  obtain ⟨fd, ps, F, g, kp, b⟩ := D.ex
  exact pe_cd (p := p) ⟨F, g, kp, b⟩ (hr.mono hk) hx ha hg hdb he hpl
theorem pe_bty {n : String} (hg : Gl X x) (hm : X.mg x = none) (hv : bootBuiltins x = some (.type n)) (hn : x ≠ "__name__" := by decide) (hd : (x == ("__debug__" : Str)) = false := by decide) : PE X (.Name x pos) (tC (.ty n)) := pe_bltn hg hm hv rfl hn hd
theorem pe_gref {a : Addr} (hg : Gl X x) (hm : X.mg x = some (.ref a)) (hd : (x == ("__debug__" : Str)) = false := by decide) : PE X (.Name x pos) (tC (.ref a)) := pe_glob hg hm rfl hd
end
theorem ca_of {P : Program} {w : World} {K : Frag} {mg : Str → Option Value} {base : Heap} {CX : CXT} {k : Nat} {x : Str} {sp : Sp} {st : Stmt} {N ps : List Str} (d : ∃ fd, FnT K x st fd) (g : mg x = some (.ref (He.ga K x))) (S : FnScope N ps (defScope st)) (len : ∀ vs H Q E, sp vs H Q E → vs.length = ps.length)
    (hb : ∀ (kV doc pm : Value) (an : Option Addr) (cdv ct : Value) (us : List Value), us.length = ps.length → bindArgs (PySem.W.fnOf x x (defArgs st) (defBody st) (defScope st) .none kV doc pm an cdv ct) ⟨us, []⟩ = pure (ps.zip us))
    (hbody : ∀ (cdv : Value) (A : Around) (outer : List Env) (s : Shared) (H : Hp) (vs : List V) (Q : VK) (E : XK), Room k (A.deeper (envOfC x (defScope st) s.heap.objs.size (He.ga K x) cdv)) → sp vs H Q E →
      ∃ t, PSs (cxOf CX P w K mg base N x (defScope st) (He.ga K x) cdv A outer s H E) (defBody st) t ∧ t { nx := fun _ H' => Q .non H', rt := Q } (start N vs) H) : Ca P w K mg base CX (k + 1) x sp := by
  obtain ⟨fd, F⟩ := d
  exact ⟨fd, ps, F.ok S len hbody, g, F.kp, F.bindsN hb⟩
/-- .. that raises nothing -/
theorem ca_of0 {P : Program} {w : World} {K : Frag} {mg : Str → Option Value} {base : Heap} {k : Nat} {x : Str} {sp : Sp} {st : Stmt} {N ps : List Str} (d : ∃ fd, FnT K x st fd) (g : mg x = some (.ref (He.ga K x))) (S : FnScope N ps (defScope st)) (len : ∀ vs H Q E, sp vs H Q E → vs.length = ps.length)
    (hb : ∀ (kV doc pm : Value) (an : Option Addr) (cdv ct : Value) (us : List Value), us.length = ps.length → bindArgs (PySem.W.fnOf x x (defArgs st) (defBody st) (defScope st) .none kV doc pm an cdv ct) ⟨us, []⟩ = pure (ps.zip us))
    (hbody : ∀ (cdv : Value) (A : Around) (outer : List Env) (s : Shared) (H : Hp) (vs : List V) (Q : VK) (E : XK), Room k (A.deeper (envOfC x (defScope st) s.heap.objs.size (He.ga K x) cdv)) → sp vs H Q E →
      ∃ t, PSs (cxOf CX0 P w K mg base N x (defScope st) (He.ga K x) cdv A outer s H E).nox (defBody st) t ∧ t { nx := fun _ H' => Q .non H', rt := Q } (start N vs) H) : Ca P w K mg base CX0 (k + 1) x sp :=
  ca_of d g S len hb fun cdv A outer s H vs Q E hr hs => by
    obtain ⟨t, h, q⟩ := hbody cdv A outer s H vs Q E hr hs
    exact ⟨t, h.nox, q⟩
/-- .. its parameters told, and where its record stands (for calls by keywords) -/
structure CaP (P : Program) (w : World) (K : Frag) (mg : Str → Option Value) (base : Heap) (CX : CXT) (k : Nat) (x : Str) (ps : List Str) (sp : Sp) : Prop where
  ex : ∃ fd : FuncData, FnOk P w K mg base CX k (He.ga K x) fd ps sp ∧ mg x = some (.ref (He.ga K x)) ∧ PySem.W.keepIn K (.ref (He.ga K x)) = true ∧ Binds K fd ps [] ∧ ∃ oc od osl, K.lookup (He.ga K x) = some ⟨oc, od, .func fd, osl⟩
theorem CaP.ca {P : Program} {w : World} {K : Frag} {mg : Str → Option Value} {base : Heap} {CX : CXT} {k : Nat} {x : Str} {ps : List Str} {sp : Sp} (c : CaP P w K mg base CX k x ps sp) : Ca P w K mg base CX k x sp := by
  obtain ⟨fd, h1, h2, h3, h4, _⟩ := c.ex
  exact ⟨fd, ps, h1, h2, h3, h4⟩
theorem cap_of {P : Program} {w : World} {K : Frag} {mg : Str → Option Value} {base : Heap} {CX : CXT} {k : Nat} {x : Str} {sp : Sp} {st : Stmt} {N ps : List Str} (d : ∃ fd, FnT K x st fd) (g : mg x = some (.ref (He.ga K x))) (S : FnScope N ps (defScope st)) (len : ∀ vs H Q E, sp vs H Q E → vs.length = ps.length)
    (hb : ∀ (kV doc pm : Value) (an : Option Addr) (cdv ct : Value) (us : List Value), us.length = ps.length → bindArgs (PySem.W.fnOf x x (defArgs st) (defBody st) (defScope st) .none kV doc pm an cdv ct) ⟨us, []⟩ = pure (ps.zip us))
    (hbody : ∀ (cdv : Value) (A : Around) (outer : List Env) (s : Shared) (H : Hp) (vs : List V) (Q : VK) (E : XK), Room k (A.deeper (envOfC x (defScope st) s.heap.objs.size (He.ga K x) cdv)) → sp vs H Q E →
      ∃ t, PSs (cxOf CX P w K mg base N x (defScope st) (He.ga K x) cdv A outer s H E) (defBody st) t ∧ t { nx := fun _ H' => Q .non H', rt := Q } (start N vs) H) : CaP P w K mg base CX (k + 1) x ps sp := by
  obtain ⟨fd, F⟩ := d
  obtain ⟨oc, od, _, _, _, _, _, _, _, osl, _, lk, _⟩ := F.ex
  exact ⟨fd, F.ok S len hbody, g, F.kp, F.bindsN hb, oc, od, osl, lk⟩
/-- a call by keywords alone -/
theorem CaP.kw {P : Program} {w : World} {K : Frag} {mg : Str → Option Value} {base : Heap} {CX : CXT} {k : Nat} {x : Str} {ps ks : List Str} {sp : Sp} {st : Stmt} {g : List Value → List Value → List Value} {gV : List V → List V → List V} (c : CaP P w K mg base CX k x ps sp) (d : ∃ fd, FnT K x st fd)
    (hb : ∀ (kV doc pm : Value) (an : Option Addr) (cdv ct : Value), KBinds K (PySem.W.fnOf x x (defArgs st) (defBody st) (defScope st) .none kV doc pm an cdv ct) ps ks g gV) :
    ∃ fd : FuncData, FnOk P w K mg base CX k (He.ga K x) fd ps sp ∧ mg x = some (.ref (He.ga K x)) ∧ PySem.W.keepIn K (.ref (He.ga K x)) = true ∧ KBinds K fd ps ks g gV := by
  obtain ⟨fd, h1, h2, h3, _, oc, od, osl, lk⟩ := c.ex
  obtain ⟨fd', F⟩ := d
  obtain ⟨oc', od', dV, kV, doc, pm, an, cdv, ct, osl', e, lk', _, hD, _⟩ := F.ex
  rw [lk] at lk'
  have e2 : fd = fd' := by
    have z := Option.some.inj lk'
    injection z with _ _ z3 _
    injection z3
  subst e2
  refine ⟨fd, h1, h2, h3, ?_⟩
  rcases hD with ⟨_, rfl⟩ | ⟨n, _⟩
  · rw [e]
    exact hb kV doc pm an cdv ct
  · exact absurd rfl n
theorem sc_by {N ps : List Str} {sc : Scope} (h : C8.scC N ps sc = true) : FnScope N ps sc := C8.fnScope_by h
end K4
end
section
set_option Elab.async false
set_option linter.all false
set_option maxRecDepth 100000
set_option maxHeartbeats 0
/-! The head: what is looked at behind the top, and that it gives what the walks ask. -/
namespace K4
open PySem PySem.Spec PyProof.Rows L2

def faL : List He.Fa := [.glo "is_fraction", .glo "ratio", .glo "sum_of", .glo "product_of", .glo "quotient_of", .glo "is_whole", .glo "is_order", .glo "first_no_fraction", .glo "check_numbers", .glo "check_same_order", .glo "least_place", .glo "unit_line", .glo "add_product", .glo "added", .glo "scaled_list", .glo "multiplied", .glo "reciprocal", .glo "row_power", .glo "row_log", .glo "_bend_of", .glo "_kind_of", .glo "_law_bag", .glo "_law_draw", .glo "_law_of", .glo "_law_like", .glo "_law_low", .glo "_law_add", .glo "_law_mul", .glo "_law_times", .glo "_law_scale", .glo "_law_number", .glo "_law_odd", .glo "_law_big", .glo "_law_wide", .glo "_law_is", .glo "_law_fault", .glo "_law_ask", .glo "_law_row", .glo "_law_slope", .glo "_law_power_so", .glo "_law_log_so", .glo "_law_small", .glo "_law_whole_so", .glo "_law_back_so", .glo "_law_refused_so", .glo "law", .glo "ZERO", .glo "ONE", .glo "Row", .glo "Step", .glo "InvalidNumber", .glo "NotOne", .glo "DividedByZero", .glo "CreepError", .glo "NoAnswer", .free "len", .free "range", .free "isinstance", .free "int", .free "abs", .free "all", .free "list", .free "tuple", .free "bool", .free "str", .free "enumerate", .free "zip", .cls "Row", .mkr "Row", .cls "Step", .mkr "Step", .noat "Row" "_numbers", .noat "Row" "order", .noat "Row" "height", .noat "Step" "_numbers", .noat "Step" "order", .noat "Step" "height", .noat "Step" "lead", .noat "Step" "kind", .noat "Step" "flat", .noat "Step" "strength", .meth "Row" "numbers", .meth "Row" "scaled"]
def fnL : List He5.DefA := [⟨fun K => He.ga K "is_fraction", "is_fraction", "is_fraction", defArgs s_is_fraction, defBody s_is_fraction, defScope s_is_fraction, [], []⟩, ⟨fun K => He.ga K "ratio", "ratio", "ratio", defArgs s_ratio, defBody s_ratio, defScope s_ratio, [], []⟩, ⟨fun K => He.ga K "sum_of", "sum_of", "sum_of", defArgs s_sum_of, defBody s_sum_of, defScope s_sum_of, [], []⟩, ⟨fun K => He.ga K "product_of", "product_of", "product_of", defArgs s_product_of, defBody s_product_of, defScope s_product_of, [], []⟩, ⟨fun K => He.ga K "quotient_of", "quotient_of", "quotient_of", defArgs s_quotient_of, defBody s_quotient_of, defScope s_quotient_of, [], []⟩, ⟨fun K => He.ga K "is_whole", "is_whole", "is_whole", defArgs s_is_whole, defBody s_is_whole, defScope s_is_whole, [], []⟩, ⟨fun K => He.ga K "is_order", "is_order", "is_order", defArgs s_is_order, defBody s_is_order, defScope s_is_order, [], []⟩, ⟨fun K => He.ga K "first_no_fraction", "first_no_fraction", "first_no_fraction", defArgs s_first_no_fraction, defBody s_first_no_fraction, defScope s_first_no_fraction, [], []⟩, ⟨fun K => He.ga K "check_numbers", "check_numbers", "check_numbers", defArgs s_check_numbers, defBody s_check_numbers, defScope s_check_numbers, [], []⟩, ⟨fun K => He.ga K "check_same_order", "check_same_order", "check_same_order", defArgs s_check_same_order, defBody s_check_same_order, defScope s_check_same_order, [], []⟩, ⟨fun K => He.ga K "least_place", "least_place", "least_place", defArgs s_least_place, defBody s_least_place, defScope s_least_place, [], []⟩, ⟨fun K => He.ga K "unit_line", "unit_line", "unit_line", defArgs s_unit_line, defBody s_unit_line, defScope s_unit_line, [], []⟩, ⟨fun K => He.ga K "add_product", "add_product", "add_product", defArgs s_add_product, defBody s_add_product, defScope s_add_product, [], []⟩, ⟨fun K => He.ga K "added", "added", "added", defArgs s_added, defBody s_added, defScope s_added, [], []⟩, ⟨fun K => He.ga K "scaled_list", "scaled_list", "scaled_list", defArgs s_scaled_list, defBody s_scaled_list, defScope s_scaled_list, [], []⟩, ⟨fun K => He.ga K "multiplied", "multiplied", "multiplied", defArgs s_multiplied, defBody s_multiplied, defScope s_multiplied, [], []⟩, ⟨fun K => He.ga K "reciprocal", "reciprocal", "reciprocal", defArgs s_reciprocal, defBody s_reciprocal, defScope s_reciprocal, [], []⟩, ⟨fun K => He.ga K "row_power", "row_power", "row_power", defArgs s_row_power, defBody s_row_power, defScope s_row_power, [], []⟩, ⟨fun K => He.ga K "row_log", "row_log", "row_log", defArgs s_row_log, defBody s_row_log, defScope s_row_log, [], []⟩, ⟨fun K => He.ga K "_bend_of", "_bend_of", "_bend_of", defArgs s__bend_of, defBody s__bend_of, defScope s__bend_of, [], []⟩, ⟨fun K => He.ga K "_kind_of", "_kind_of", "_kind_of", defArgs s__kind_of, defBody s__kind_of, defScope s__kind_of, [], []⟩, ⟨fun K => He.ga K "_law_bag", "_law_bag", "_law_bag", defArgs s__law_bag, defBody s__law_bag, defScope s__law_bag, [], []⟩, ⟨fun K => He.ga K "_law_draw", "_law_draw", "_law_draw", defArgs s__law_draw, defBody s__law_draw, defScope s__law_draw, [], []⟩, ⟨fun K => He.ga K "_law_of", "_law_of", "_law_of", defArgs s__law_of, defBody s__law_of, defScope s__law_of, [], []⟩, ⟨fun K => He.ga K "_law_like", "_law_like", "_law_like", defArgs s__law_like, defBody s__law_like, defScope s__law_like, [], []⟩, ⟨fun K => He.ga K "_law_low", "_law_low", "_law_low", defArgs s__law_low, defBody s__law_low, defScope s__law_low, [], []⟩, ⟨fun K => He.ga K "_law_add", "_law_add", "_law_add", defArgs s__law_add, defBody s__law_add, defScope s__law_add, [], []⟩, ⟨fun K => He.ga K "_law_mul", "_law_mul", "_law_mul", defArgs s__law_mul, defBody s__law_mul, defScope s__law_mul, [], []⟩, ⟨fun K => He.ga K "_law_times", "_law_times", "_law_times", defArgs s__law_times, defBody s__law_times, defScope s__law_times, [], []⟩, ⟨fun K => He.ga K "_law_scale", "_law_scale", "_law_scale", defArgs s__law_scale, defBody s__law_scale, defScope s__law_scale, [], []⟩, ⟨fun K => He.ga K "_law_number", "_law_number", "_law_number", defArgs s__law_number, defBody s__law_number, defScope s__law_number, [], []⟩, ⟨fun K => He.ga K "_law_odd", "_law_odd", "_law_odd", defArgs s__law_odd, defBody s__law_odd, defScope s__law_odd, [], []⟩, ⟨fun K => He.ga K "_law_big", "_law_big", "_law_big", defArgs s__law_big, defBody s__law_big, defScope s__law_big, [], []⟩, ⟨fun K => He.ga K "_law_wide", "_law_wide", "_law_wide", defArgs s__law_wide, defBody s__law_wide, defScope s__law_wide, [], []⟩, ⟨fun K => He.ga K "_law_is", "_law_is", "_law_is", defArgs s__law_is, defBody s__law_is, defScope s__law_is, [], []⟩, ⟨fun K => He.ga K "_law_fault", "_law_fault", "_law_fault", defArgs s__law_fault, defBody s__law_fault, defScope s__law_fault, [], []⟩, ⟨fun K => He.ga K "_law_ask", "_law_ask", "_law_ask", defArgs s__law_ask, defBody s__law_ask, defScope s__law_ask, [], []⟩, ⟨fun K => He.ga K "_law_row", "_law_row", "_law_row", defArgs s__law_row, defBody s__law_row, defScope s__law_row, [], []⟩, ⟨fun K => He.ga K "_law_slope", "_law_slope", "_law_slope", defArgs s__law_slope, defBody s__law_slope, defScope s__law_slope, [], []⟩, ⟨fun K => He.ga K "_law_power_so", "_law_power_so", "_law_power_so", defArgs s__law_power_so, defBody s__law_power_so, defScope s__law_power_so, [], []⟩, ⟨fun K => He.ga K "_law_log_so", "_law_log_so", "_law_log_so", defArgs s__law_log_so, defBody s__law_log_so, defScope s__law_log_so, [], []⟩, ⟨fun K => He.ga K "_law_small", "_law_small", "_law_small", defArgs s__law_small, defBody s__law_small, defScope s__law_small, [], []⟩, ⟨fun K => He.ga K "_law_whole_so", "_law_whole_so", "_law_whole_so", defArgs s__law_whole_so, defBody s__law_whole_so, defScope s__law_whole_so, [], []⟩, ⟨fun K => He.ga K "_law_back_so", "_law_back_so", "_law_back_so", defArgs s__law_back_so, defBody s__law_back_so, defScope s__law_back_so, [], []⟩, ⟨fun K => He.ga K "_law_refused_so", "_law_refused_so", "_law_refused_so", defArgs s__law_refused_so, defBody s__law_refused_so, defScope s__law_refused_so, [], []⟩, ⟨fun K => He.ga K "law", "law", "law", defArgs s_law, defBody s_law, defScope s_law, [], []⟩, ⟨fun K => He.ma K (He.ga K "Row") "__init__", "__init__", "Row.__init__", defArgs m_Row_init, defBody m_Row_init, defScope m_Row_init, [], []⟩, ⟨fun K => He.ma K (He.ga K "Row") "numbers", "numbers", "Row.numbers", defArgs m_Row_numbers, defBody m_Row_numbers, defScope m_Row_numbers, [], []⟩, ⟨fun K => He.ma K (He.ga K "Row") "__add__", "__add__", "Row.__add__", defArgs m_Row_add, defBody m_Row_add, defScope m_Row_add, [], []⟩, ⟨fun K => He.ma K (He.ga K "Row") "__mul__", "__mul__", "Row.__mul__", defArgs m_Row_mul, defBody m_Row_mul, defScope m_Row_mul, [], []⟩, ⟨fun K => He.ma K (He.ga K "Row") "scaled", "scaled", "Row.scaled", defArgs m_Row_scaled, defBody m_Row_scaled, defScope m_Row_scaled, [], []⟩, ⟨fun K => He.ma K (He.ga K "Step") "__init__", "__init__", "Step.__init__", defArgs m_Step_init, defBody m_Step_init, defScope m_Step_init, [], []⟩, ⟨fun K => He.ma K (He.ga K "Step") "__eq__", "__eq__", "Step.__eq__", defArgs m_Step_eq, defBody m_Step_eq, defScope m_Step_eq, [], []⟩, ⟨fun K => He.ma K (He.ga K "InvalidNumber") "__init__", "__init__", "InvalidNumber.__init__", defArgs m_InvalidNumber_init, defBody m_InvalidNumber_init, defScope m_InvalidNumber_init, [], []⟩, ⟨fun K => He.ma K (He.ga K "NotOne") "__init__", "__init__", "NotOne.__init__", defArgs m_NotOne_init, defBody m_NotOne_init, defScope m_NotOne_init, [], []⟩, ⟨fun K => He.ma K (He.ga K "DividedByZero") "__init__", "__init__", "DividedByZero.__init__", defArgs m_DividedByZero_init, defBody m_DividedByZero_init, defScope m_DividedByZero_init, [], []⟩, ⟨fun K => He5.wf K (cStep K) "staticmethod" "still", "still", "Step.still", defArgs m_Step_still, defBody m_Step_still, defScope m_Step_still, [], []⟩]
def exL (K : Frag) : List Bool := [He.eqO (PySem.W.nsIn K mainGlobals "gcd") (some (some (.builtin "math.gcd"))), He.tupB K "ZERO" [.int 0, .int 1], He.tupB K "ONE" [.int 1, .int 1], He.eqO (PySem.W.findIn K (.ref (cRow K)) "__class__") (some (some (.builtin "object.__class__"))), decide (PySem.W.mroIn K (cRow K) (.type "object") = some true), decide (PySem.W.kitOne K (.ref (cRow K)) (.ref (cRow K)) = some true), He.eqO (PySem.W.findIn K (.ref (cStep K)) "__class__") (some (some (.builtin "object.__class__"))), decide (PySem.W.mroIn K (cStep K) (.type "object") = some true), decide (PySem.W.kitOne K (.ref (cStep K)) (.ref (cStep K)) = some true), He.eqO (PySem.W.specialIn K (.builtin "object.__class__") "__get__") (some (some (.builtin "getset_descriptor.__get__"))), decide (PySem.W.takesIn K (.builtin "object.__class__") = some true), PySem.W.selfFirst K (cRow K), He.eqO (PySem.W.findIn K (.ref (cRow K)) "__add__") (some (some (.ref (He.ma K (cRow K) "__add__")))), PySem.W.isFn K (.ref (He.ma K (cRow K) "__add__")), He.eqO (PySem.W.findIn K (.ref (cRow K)) "__mul__") (some (some (.ref (He.ma K (cRow K) "__mul__")))), PySem.W.isFn K (.ref (He.ma K (cRow K) "__mul__")), He.eqO (PySem.W.findIn K (.ref (cStep K)) "__eq__") (some (some (.ref (He.ma K (cStep K) "__eq__")))), PySem.W.isFn K (.ref (He.ma K (cStep K) "__eq__")), decide (PySem.W.kitOne K (.ref (cStep K)) (.type "int") = some false), decide (PySem.W.kitOne K (.ref (cStep K)) (.type "bool") = some false), decide (PySem.W.kitOne K (.ref (cStep K)) (.type "str") = some false), decide (PySem.W.kitOne K (.ref (cStep K)) (.type "list") = some false), decide (PySem.W.kitOne K (.ref (cStep K)) (.type "tuple") = some false), PySem.W.readsIn K (cStep K) (.type "type"), He5.wrapB K (cStep K) "staticmethod" "staticmethod.__get__" "still", PySem.W.excInitIn K (cInv K) PySem.HandSPX.veTail "ValueError.__new__", PySem.W.hasDictIn K (cInv K), He.eqO (PySem.W.findIn K (.ref (cInv K)) "__setattr__") (some (some (.builtin "object.__setattr__"))), decide (PySem.W.subIn K (.ref (cInv K)) (.type "BaseException") = some true), decide (PySem.W.typeIn K (.ref (cInv K)) = some (.type "type")), PySem.W.keepIn K (.ref (cInv K)), He.eqO (PySem.W.findIn K (.ref (cInv K)) "__init__") (some (some (.ref (He.ma K (cInv K) "__init__")))), decide (PySem.W.typeIn K (.ref (He.ma K (cInv K) "__init__")) = some (.type "function")), L2.xfB K (cInv K), (PySem.W.clsIn K (cInv K)).isSome, He.eqO (PySem.W.findIn K (.ref (cInv K)) "__class__") (some (some (.builtin "object.__class__"))), decide (PySem.W.mroIn K (cInv K) (.type "object") = some true), He.eqO (PySem.W.findIn K (.ref (cInv K)) "code") (some none), He.eqO (PySem.W.findIn K (.ref (cInv K)) "value") (some none), He.eqO (PySem.W.findIn K (.ref (cInv K)) "first") (some none), decide (PySem.W.exmOne K (.ref (cInv K)) (.ref (He.ga K "CreepError")) = some true), decide (PySem.W.exmOne K (.ref (cInv K)) (.ref (He.ga K "NoAnswer")) = some false), decide (PySem.W.kitOne K (.ref (cInv K)) (.ref (cInv K)) = some true), decide (PySem.W.kitOne K (.ref (cInv K)) (.ref (cNot K)) = some false), decide (PySem.W.kitOne K (.ref (cInv K)) (.ref (cDiv K)) = some false), PySem.W.excInitIn K (cNot K) PySem.HandSPX.veTail "ValueError.__new__", PySem.W.hasDictIn K (cNot K), He.eqO (PySem.W.findIn K (.ref (cNot K)) "__setattr__") (some (some (.builtin "object.__setattr__"))), decide (PySem.W.subIn K (.ref (cNot K)) (.type "BaseException") = some true), decide (PySem.W.typeIn K (.ref (cNot K)) = some (.type "type")), PySem.W.keepIn K (.ref (cNot K)), He.eqO (PySem.W.findIn K (.ref (cNot K)) "__init__") (some (some (.ref (He.ma K (cNot K) "__init__")))), decide (PySem.W.typeIn K (.ref (He.ma K (cNot K) "__init__")) = some (.type "function")), L2.xfB K (cNot K), (PySem.W.clsIn K (cNot K)).isSome, He.eqO (PySem.W.findIn K (.ref (cNot K)) "__class__") (some (some (.builtin "object.__class__"))), decide (PySem.W.mroIn K (cNot K) (.type "object") = some true), He.eqO (PySem.W.findIn K (.ref (cNot K)) "code") (some none), He.eqO (PySem.W.findIn K (.ref (cNot K)) "value") (some none), He.eqO (PySem.W.findIn K (.ref (cNot K)) "first") (some none), decide (PySem.W.exmOne K (.ref (cNot K)) (.ref (He.ga K "CreepError")) = some true), decide (PySem.W.exmOne K (.ref (cNot K)) (.ref (He.ga K "NoAnswer")) = some false), decide (PySem.W.kitOne K (.ref (cNot K)) (.ref (cInv K)) = some false), decide (PySem.W.kitOne K (.ref (cNot K)) (.ref (cNot K)) = some true), decide (PySem.W.kitOne K (.ref (cNot K)) (.ref (cDiv K)) = some false), PySem.W.excInitIn K (cDiv K) aeTail "ArithmeticError.__new__", PySem.W.excOver K (cDiv K) aeTail, PySem.W.hasDictIn K (cDiv K), He.eqO (PySem.W.findIn K (.ref (cDiv K)) "__setattr__") (some (some (.builtin "object.__setattr__"))), decide (PySem.W.subIn K (.ref (cDiv K)) (.type "BaseException") = some true), decide (PySem.W.typeIn K (.ref (cDiv K)) = some (.type "type")), PySem.W.keepIn K (.ref (cDiv K)), He.eqO (PySem.W.findIn K (.ref (cDiv K)) "__init__") (some (some (.ref (He.ma K (cDiv K) "__init__")))), decide (PySem.W.typeIn K (.ref (He.ma K (cDiv K) "__init__")) = some (.type "function")), L2.xfB K (cDiv K), (PySem.W.clsIn K (cDiv K)).isSome, He.eqO (PySem.W.findIn K (.ref (cDiv K)) "__class__") (some (some (.builtin "object.__class__"))), decide (PySem.W.mroIn K (cDiv K) (.type "object") = some true), He.eqO (PySem.W.findIn K (.ref (cDiv K)) "code") (some none), He.eqO (PySem.W.findIn K (.ref (cDiv K)) "value") (some none), He.eqO (PySem.W.findIn K (.ref (cDiv K)) "first") (some none), decide (PySem.W.exmOne K (.ref (cDiv K)) (.ref (He.ga K "CreepError")) = some false), decide (PySem.W.exmOne K (.ref (cDiv K)) (.ref (He.ga K "NoAnswer")) = some true), decide (PySem.W.kitOne K (.ref (cDiv K)) (.ref (cInv K)) = some false), decide (PySem.W.kitOne K (.ref (cDiv K)) (.ref (cNot K)) = some false), decide (PySem.W.kitOne K (.ref (cDiv K)) (.ref (cDiv K)) = some true), decide (PySem.W.takerIn K (cDiv K) "code" = some none), decide ((He.cT K ("_law_back_so", none)).2 ≠ (He.cT K ("_law_refused_so", none)).2)]
def exB (K : Frag) : Bool := (exL K).all id
def tfL : List He.Defn := [("_law_back_so", none), ("_law_refused_so", none)]
def tn1 : List Str := ["is_fraction", "ratio", "sum_of", "product_of", "quotient_of", "is_whole", "is_order", "first_no_fraction", "check_numbers", "check_same_order", "least_place", "unit_line", "add_product", "added", "scaled_list", "multiplied", "reciprocal", "row_power", "row_log", "_bend_of", "_kind_of", "_law_bag", "_law_draw", "_law_of", "_law_like", "_law_low", "_law_add", "_law_mul", "_law_times", "_law_scale"]
def tn2 : List Str := ["_law_number", "_law_odd", "_law_big", "_law_wide", "_law_is", "_law_fault", "_law_ask", "_law_row", "_law_slope", "_law_power_so", "_law_log_so", "_law_small", "_law_whole_so", "_law_back_so", "_law_refused_so", "law"]
def tn3 : List Str := []
def topNames : List Str := tn1 ++ (tn2 ++ tn3)
def clsNames : List Str := ["Row", "Step", "InvalidNumber", "NotOne", "DividedByZero", "CreepError", "NoAnswer"]
/-- a function's own address and its code's -/
def fnAddrs (g : Addr → Option Obj) (a : Addr) : List Addr := a :: (match g a with
  | some o => (match o.data with
    | .func fd => He.refV fd.code
    | _ => [])
  | none => [])
/-- what the class at C reaches in n steps -/
def clsAddrs (g : Addr → Option Obj) (C : Addr) : Nat → List Addr
  | 0 => [C]
  | n + 1 => He.growD g (clsAddrs g C n)
/-- the addresses that are looked at -/
def asE (g : Addr → Option Obj) : List Addr :=
  let K0 := He.frG g [mainGlobals]
  mainGlobals :: cStatics :: He.ga K0 "ZERO" :: He.ga K0 "ONE" :: ((topNames.flatMap fun x => fnAddrs g (He.ga K0 x)) ++ clsNames.flatMap fun x => clsAddrs g (He.ga K0 x) 4)
def kE (g : Addr → Option Obj) : Frag := He.frT g (asE g)
abbrev AlE : Type := He.AlD × Bool
def obsE4 (g : Addr → Option Obj) : AlE := (He5.obsA faL fnL (kE g), exB (kE g) && He.tabsB g tfL (kE g))
/-- what is told of the heap behind the top -/
structure Says4 (h : Heap) (K : Frag) : Prop where
  inH : K.In h
  a : He5.SaysA faL fnL K
  ex : exB K = true
  hd : ∀ p ∈ tfL, PySem.W.codeHdIn K (He.cT K p).1 (He.cT K p).2 = true
  out : ∀ p ∈ tfL, K.lookup (He.cT K p).2 = none
  empty : ∀ p ∈ tfL, h.get? (He.cT K p).2 = some { cls := .none, data := .fields #[] }
theorem says4_of {h : Heap} (e : obsE4 h.get? = (He5.valA fnL, true)) : Says4 h (kE h.get?) := by
  have e1 : He5.obsA faL fnL (kE h.get?) = He5.valA fnL := congrArg (fun z : AlE => z.1) e
  have e2 : (exB (kE h.get?) && He.tabsB h.get? tfL (kE h.get?)) = true := congrArg (fun z : AlE => z.2) e
  obtain ⟨h1, h2⟩ := He.ba e2
  have each : ∀ p ∈ tfL, PySem.W.codeHdIn (kE h.get?) (He.cT (kE h.get?) p).1 (He.cT (kE h.get?) p).2 = true ∧ ∃ o, h.get? (He.cT (kE h.get?) p).2 = some o ∧ He.emptyTab o = true := fun p hp => by
    have h3 := List.all_eq_true.mp h2 p hp
    obtain ⟨h4, h5⟩ := He.ba h3
    refine ⟨h4, ?_⟩
    generalize h.get? (He.cT (kE h.get?) p).2 = q at h5 ⊢
    match q, h5 with
    | some o, h5 => exact ⟨o, rfl, h5⟩
  refine ⟨He.frT_in, e1, h1, fun p hp => (each p hp).1, fun p hp => ?_, fun p hp => ?_⟩
  · obtain ⟨_, o, q, z⟩ := each p hp
    exact He.frT_none q z
  · obtain ⟨_, o, q, z⟩ := each p hp
    rw [q, He.emptyTab_eq z]
def hk4 : PySem.W.Hook where
  α := AlE
  obs := fun s => obsE4 s.heap.get?
  val := fun _ => (He5.valA fnL, true)
  says := fun _ h => ∃ K : Frag, Says4 h K
  of := fun _ _ e => ⟨_, says4_of e⟩
  keeps := fun _ _ _ ⟨K, c⟩ k => ⟨K, PySem.W.Frag.In.keeps c.inH k, c.a, c.ex, c.hd, c.out, fun p hp => k _ _ (c.empty p hp)⟩

def ln1 : List PySem.Str := ["_wall", "CreepError", "NoAnswer", "InvalidNumber", "InvalidFraction", "InvalidOrder", "OrderTooLow", "UnlikeOrders", "InvalidPlace", "InvalidPower", "CantTurn", "NotSlow", "NotOne", "DividedByZero", "is_fraction", "ratio", "sum_of", "difference_of", "product_of", "quotient_of", "fraction_text", "ZERO", "ONE", "is_whole", "is_order", "first_no_fraction", "check_numbers", "check_same_order", "check_cut", "least_place"]
def ln2 : List PySem.Str := ["unit_line", "add_product", "added", "subtracted", "scaled_list", "multiplied", "substituted", "powers_of", "turned_back", "done_times", "binomials", "through", "series_line", "slow_power", "term_text", "series_text", "Row", "reciprocal", "row_power", "row_log", "Step", "_bend_of", "_kind_of", "_law_bag", "_law_draw", "_law_of", "_law_like", "_law_low", "_law_add", "_law_mul"]
def ln3 : List PySem.Str := ["_law_times", "_law_scale", "_law_number", "_law_odd", "_law_big", "_law_wide", "_law_is", "_law_fault", "_law_ask", "_law_row", "_law_slope", "_law_power_so", "_law_log_so", "_law_small", "_law_whole_so", "_law_back_so", "_law_refused_so"]
def looseL : List PySem.Str := ln1 ++ (ln2 ++ ln3)
abbrev Rw : PySem.W.OpenRow := PySem.W.OpenLaw.row PySem.Challenge.rw_creepclocks_k04_whole_powers_and_logs_of
def ob4 (s : PySem.W.SharedT) : AlE := obsE4 (HandSHeadRun.getT s)
theorem ob4_eq (s : PySem.W.SharedT) : ob4 s = hk4.obs s.abs := by
  have e : HandSHeadRun.getT s = s.abs.heap.get? := funext fun a => HandSHeadRun.getT_eq s a
  show obsE4 (HandSHeadRun.getT s) = obsE4 s.abs.heap.get?
  rw [e]
/-- The run of the top. The looks at its end stand in four theorems, so that the kernel holds less at once. -/
noncomputable abbrev whole (w : World) : Option (Shared × PySem.W.SharedT) := HandSHeadRun.wholeF (fun p => HandSHeadRun.stepQ (HandSHeadRun.denQ HandSHeadRun.tabQ) p w) HandSHeadRun.fenceQ 12000 Rw.prog
abbrev Vw : Program := PySem.W.view Rw.prog [0, 84]
theorem run1 (w : World) : (whole w).map (fun x => (HandSHeadRun.looksF Rw.prog x.1.heap x.2.abs, HandSHeadRun.seenQ Vw looseL (importedModules Rw.prog.main.body) (fun s => PySem.W.xlAt Vw [] s && PySem.W.recOk Rw.toRowW.records s) x.2.abs)) = some (true, PySem.W.openGood Vw looseL) := by kernel_rfl
theorem run2 (w : World) : (whole w).map (fun x => faL.all fun f => f.ok (kE (HandSHeadRun.getT x.2))) = some true := by kernel_rfl
theorem run3 (w : World) : (whole w).map (fun x => (fnL.all fun d => d.ok (kE (HandSHeadRun.getT x.2)), fnL.map fun d => He5.fnA (kE (HandSHeadRun.getT x.2)) (d.at_ (kE (HandSHeadRun.getT x.2))))) = some (true, fnL.map He5.DefA.val) := by kernel_rfl
theorem run4 (w : World) : (whole w).map (fun x => exB (kE (HandSHeadRun.getT x.2)) && He.tabsB (HandSHeadRun.getT x.2) tfL (kE (HandSHeadRun.getT x.2))) = some true := by kernel_rfl
theorem join4 {X S B : Type} {o : Option X} {l p q r : X → Bool} {s : X → S} {m : X → B} {S0 : S} {B0 : B} (h1 : o.map (fun x => (l x, s x)) = some (true, S0)) (h2 : o.map p = some true) (h3 : o.map (fun x => (q x, m x)) = some (true, B0)) (h4 : o.map r = some true) :
    o.map (fun x => (l x, s x, ((p x && q x, m x), r x))) = some (true, S0, ((true, B0), true)) := by
  cases o with
  | none => cases h2
  | some x =>
    have a1 : (l x, s x) = (true, S0) := Option.some.inj h1
    have a2 : p x = true := Option.some.inj h2
    have a3 : (q x, m x) = (true, B0) := Option.some.inj h3
    have a4 : r x = true := Option.some.inj h4
    obtain ⟨b1, b2⟩ := Prod.mk.inj a1
    obtain ⟨b3, b4⟩ := Prod.mk.inj a3
    show some (l x, s x, ((p x && q x, m x), r x)) = _
    rw [b1, b2, a2, b3, b4, a4]
    rfl
theorem runL (w : World) : HandSHeadRun.RunEqI Rw Vw hk4 ob4 12000 looseL w := by
  exact join4 (run1 w) (run2 w) (run3 w) (run4 w)
end K4
end
section
set_option Elab.async false
set_option linter.all false
set_option maxRecDepth 100000
set_option maxHeartbeats 4000000
/-! Pairs of ints, fractions: more rules and readings. -/
namespace K4
open PySem PySem.Spec PyProof.Rows L2 K04
/-- v is the tuple (n, d) -/
def Pr (K : Frag) (H : Hp) (v : V) (n d : Int) : Prop := ∃ a, v = .ref a ∧ SqT K H a [.int n, .int d]
theorem Pr.ext {K : Frag} {H H' : Hp} {v : V} {n d : Int} (h : Pr K H v n d) (e : Ext H H') : Pr K H' v n d := by
  obtain ⟨a, rfl, t⟩ := h
  exact ⟨a, rfl, t.ext e⟩
theorem Pr.of {K : Frag} {H : Hp} {p : Addr} {n d : Int} (h : H p = some (.tup [.int n, .int d])) : Pr K H (.ref p) n d := ⟨p, rfl, SqT.of h⟩
theorem Fr.pr {K : Frag} {H : Hp} {v : V} {q : Rat} (h : Fr K H v q) : Pr K H v q.num (q.den : Int) := h
theorem Pr.fr {K : Frag} {H : Hp} {v : V} {n d : Int} {q : Rat} (h : Pr K H v n d) (hn : n = q.num) (hd : d = (q.den : Int)) : Fr K H v q := by
  obtain ⟨a, rfl, t⟩ := h
  exact ⟨a, rfl, by rw [← hn, ← hd]; exact t⟩
section
variable {X : Cx} {a b : Expr} {ta tb : TE} {pos p1 : Pos} {j : Nat}
def rP0 (K : Frag) : R2 := fun x y H Q => y = .int 0 ∧ ∃ n d, Pr K H x n d ∧ Q (.int n) H
def rP1 (K : Frag) : R2 := fun x y H Q => y = .int 1 ∧ ∃ n d, Pr K H x n d ∧ Q (.int d) H
theorem ix_p0 : IxR X (rP0 X.K) := fun va sl pins s σ H x y v u Q I rx ry h hs => by
  obtain ⟨rfl, n, d, ⟨p, rfl, t⟩, hq⟩ := h
  exact ix_tup va sl pins s σ H _ _ v u Q I rx ry ⟨p, _, 0, _, rfl, rfl, t, rfl, hq⟩ hs
theorem ix_p1 : IxR X (rP1 X.K) := fun va sl pins s σ H x y v u Q I rx ry h hs => by
  obtain ⟨rfl, n, d, ⟨p, rfl, t⟩, hq⟩ := h
  exact ix_tup va sl pins s σ H _ _ v u Q I rx ry ⟨p, _, 1, _, rfl, rfl, t, rfl, hq⟩ hs
theorem pe_p0 (ha : PE X a ta) : PE X (.Subscript a (.Constant (.int 0) j p1) pos) (tOp (rP0 X.K) ta (tC (.int 0))) := pe_ix ix_p0 ha pe_int (fun _ _ => rfl)
theorem pe_p1 (ha : PE X a ta) : PE X (.Subscript a (.Constant (.int 1) j p1) pos) (tOp (rP1 X.K) ta (tC (.int 1))) := pe_ix ix_p1 ha pe_int (fun _ _ => rfl)
/-- xs[i], xs a list of fractions, i from the left -/
def rFl (K : Frag) : R2 := fun x y H Q => ∃ a qs i, x = .ref a ∧ y = .int ((i : Nat) : Int) ∧ FL K H a qs ∧ i < qs.length ∧ ∀ z, Fr K H z (qs.getD i 0) → Q z H
theorem ix_fl : IxR X (rFl X.K) := fun va sl pins s σ H x y v u Q I rx ry h hs => by
  obtain ⟨a, qs, i, rfl, rfl, ⟨xs, sq, hl, f⟩, hi, hq⟩ := h
  have e : qs[i]? = some (qs.getD i 0) := by
    rw [List.getD_eq_getElem?_getD, List.getElem?_eq_getElem hi]; rfl
  obtain ⟨z, hz, fz⟩ := f i _ e
  exact ix_list va sl pins s σ H _ _ v u Q I rx ry ⟨a, xs, _, z, rfl, rfl, sq, atI_nat hz, hq z fz⟩ hs
theorem pe_fl (ha : PE X a ta) (hb : PE X b tb) (hs : PlainIx b := by exact fun _ _ => rfl) : PE X (.Subscript a b pos) (tOp (rFl X.K) ta tb) := pe_ix ix_fl ha hb hs
end
/-! ### sizes of ints -/
/-- below 2 ^ n in size -/
def Sz (x : Int) (n : Nat) : Prop := x.natAbs ≤ 2 ^ n
theorem Sz.mul {x y : Int} {m n : Nat} (h : Sz x m) (k : Sz y n) : Sz (x * y) (m + n) := by
  unfold Sz at *
  rw [Int.natAbs_mul]; exact mle h k
theorem Sz.add {x y : Int} {n : Nat} (h : Sz x n) (k : Sz y n) : Sz (x + y) (n + 1) := by
  unfold Sz at *
  exact Nat.le_trans (Int.natAbs_add_le x y) (ale h k)
theorem Sz.mono {x : Int} {m n : Nat} (h : Sz x m) (k : m ≤ n) : Sz x n := Nat.le_trans h (pl k)
theorem Sz.neg {x : Int} {n : Nat} (h : Sz x n) : Sz (-x) n := by
  unfold Sz at *
  rw [Int.natAbs_neg]; exact h
theorem Sz.log {x : Int} {n : Nat} (h : Sz x n) : x.natAbs.log2 ≤ n := by
  have h2 : x.natAbs < 2 ^ (n + 1) := Nat.lt_of_le_of_lt h (by rw [Nat.pow_succ]; have := pp n; omega)
  have := PySem.Flt.log2_lt_of (by omega) h2
  omega
theorem Sz.cmul {x y : Int} {m n : Nat} (h : Sz x m) (k : Sz y n) (hmn : m + n < 1000000 := by omega) : CMulW x y := by
  have a := h.log
  have b := k.log
  unfold CMulW
  omega
theorem Sz.div {j : Int} {n : Nat} (h : Sz j n) (h0 : j ≠ 0) (hn : n < 9000 := by omega) (i : Int) : CDivZ i j := by
  have a := h.log
  exact ⟨h0, by omega⟩
theorem Sz.gcd {u l : Int} {n : Nat} (h : Sz l n) (h0 : l ≠ 0) : Sz (Nat.gcd u.natAbs l.natAbs : Nat) n := by
  unfold Sz at *
  rw [Int.natAbs_natCast]
  exact Nat.le_trans (Nat.le_of_dvd (by omega) (Nat.gcd_dvd_right _ _)) h
theorem gcd_ne {u l : Int} (h0 : l ≠ 0) : ((Nat.gcd u.natAbs l.natAbs : Nat) : Int) ≠ 0 := by
  have : 0 < Nat.gcd u.natAbs l.natAbs := Nat.gcd_pos_of_pos_right _ (by omega)
  omega
theorem fdiv_e {i j : Int} (h : 0 ≤ j) : i.fdiv j = i / j := Int.fdiv_eq_ediv_of_nonneg i h
/-- a number within the walks' bounds -/
abbrev Sm (q : Rat) : Prop := Sq 2400 90000 q
theorem Sm.num {q : Rat} (h : Sm q) : Sz q.num 90000 := h.2
theorem Sm.den {q : Rat} (h : Sm q) : Sz (q.den : Int) 2400 := by
  unfold Sz
  rw [Int.natAbs_natCast]; exact h.1
/-- v is a pair whose value is q, within the bounds -/
def Pq (K : Frag) (H : Hp) (v : V) (q : Rat) : Prop := ∃ n d, Pr K H v n d ∧ 0 < d ∧ (n : Rat) = q * (d : Rat) ∧ Sz n 100000 ∧ Sz d 2500
theorem Pq.ext {K : Frag} {H H' : Hp} {v : V} {q : Rat} (h : Pq K H v q) (e : Ext H H') : Pq K H' v q := by
  obtain ⟨n, d, p, r⟩ := h
  exact ⟨n, d, p.ext e, r⟩
theorem Fr.pq {K : Frag} {H : Hp} {v : V} {q : Rat} (h : Fr K H v q) (s : Sm q) : Pq K H v q :=
  ⟨_, _, h.pr, by have := q.den_pos; omega, by rw [Rat.intCast_natCast]; exact (mulDen q).symm, s.num.mono (by omega), s.den.mono (by omega)⟩
theorem divInt_val {n d : Int} {q : Rat} (h0 : d ≠ 0) (h : (n : Rat) = q * (d : Rat)) : Rat.divInt n d = q := by
  have hd : (d : Rat) ≠ 0 := by
    intro e
    exact h0 (by exact_mod_cast e)
  rw [Rat.divInt_eq_div, h]; grind
end K4
end
section
set_option Elab.async false
set_option linter.all false
set_option maxRecDepth 100000
set_option maxHeartbeats 4000000
/-! Lists of fractions while one list changes; sizes of rows. -/
namespace K4
open PySem PySem.Spec PyProof.Rows L2 K04
section
variable {K : Frag} {H : Hp} {D a : Addr} {xs ys zs : List V} {v : V} {q : Rat} {qs : List Rat}
theorem sqT_mvL (h : SqT K H a zs) (hd : H D = some (.lst xs)) : SqT K (upd H D (.lst ys)) a zs := by
  rcases h with (h | ⟨o, h⟩) | h
  · have n : a ≠ D := fun e => by rw [e, hd] at h; cases h
    exact .inl (.inl (by rw [upd_ne n]; exact h))
  · have n : a ≠ D := fun e => by rw [e, hd] at h; cases h
    exact .inl (.inr ⟨o, by rw [upd_ne n]; exact h⟩)
  · exact .inr h
theorem Fr.mvL (h : Fr K H v q) (hd : H D = some (.lst xs)) : Fr K (upd H D (.lst ys)) v q := by
  obtain ⟨b, rfl, t⟩ := h
  exact ⟨b, rfl, sqT_mvL t hd⟩
theorem Pr.mvL {n d : Int} (h : Pr K H v n d) (hd : H D = some (.lst xs)) : Pr K (upd H D (.lst ys)) v n d := by
  obtain ⟨b, rfl, t⟩ := h
  exact ⟨b, rfl, sqT_mvL t hd⟩
theorem Pq.mvL (h : Pq K H v q) (hd : H D = some (.lst xs)) : Pq K (upd H D (.lst ys)) v q := by
  obtain ⟨n, d, p, r⟩ := h
  exact ⟨n, d, p.mvL hd, r⟩
theorem Frs.mvL (h : Frs K H zs qs) (hd : H D = some (.lst xs)) : Frs K (upd H D (.lst ys)) zs qs := ⟨h.1, fun i q hq => by
  obtain ⟨x, hx, f⟩ := h.2 i q hq
  exact ⟨x, hx, f.mvL hd⟩⟩
/-- a list that H knew before D was made -/
theorem ext_lst {H H' : Hp} (e : Ext H H') (hD : H D = none) : Ext H (upd H' D (.lst ys)) := Ext.mut e hD
end
theorem toL_set {n k : Nat} {f : Ser} {x : Rat} : (toL n f).set k x = toL n ⟨fun i => if i = k then x else f.c i⟩ := by
  refine List.ext_getElem? fun i => ?_
  by_cases hi : i < n
  · rw [toL_get hi]
    by_cases e : k = i
    · subst e
      rw [List.getElem?_set_self (by simpa using hi)]
      show some x = some (if k = k then x else f.c k)
      rw [if_pos rfl]
    · rw [List.getElem?_set_ne e, toL_get hi]
      show some (f.c i) = some (if i = k then x else f.c i)
      rw [if_neg (Ne.symm e)]
  · rw [List.getElem?_eq_none (by simp; omega), List.getElem?_eq_none (by simp; omega)]
theorem toL_succ {n : Nat} {f : Ser} : toL (n + 1) f = toL n f ++ [f.c n] := by
  simp [toL, List.range_succ]
theorem toL_D {n i : Nat} {f : Ser} (h : i < n) : (toL n f).getD i 0 = f.c i := ser_toL i h
/-- a row within the walks' bounds -/
def Ok (l : List Rat) : Prop := l.length ≤ 16 ∧ Bd 1000 20000 (ser l).c l.length
theorem Ok.at {l : List Rat} (h : Ok l) {i : Nat} (hi : i < l.length) : Sm (l.getD i 0) := (h.2.at hi).mono (by omega) (by omega)
theorem Sm.of {q : Rat} {a b : Nat} (h : Sq a b q) (ha : a ≤ 2400 := by omega) (hb : b ≤ 90000 := by omega) : Sm q := h.mono ha hb
theorem bz_sm {D B a b : Nat} {x : Rat} (h : Bz D B x) (h0 : 0 < D) (hd : D ≤ 2 ^ a) (hb : B ≤ 2 ^ b) (ha : a ≤ 2400 := by omega) (hb2 : b ≤ 90000 := by omega) : Sm x := by
  obtain ⟨p, q⟩ := h.size h0
  exact ⟨Nat.le_trans p (Nat.le_trans hd (pl ha)), Nat.le_trans q (Nat.le_trans hb (pl hb2))⟩
/-- the place k of l times m, the first a terms -/
def mulP (l m : List Rat) (a k : Nat) : Rat := sumN (min a (k + 1)) fun j => l.getD j 0 * m.getD (k - j) 0
theorem mulP_ok {l m : List Rat} (hl : Ok l) (hm : Ok m) (e : m.length = l.length) {a k : Nat} (hk : k < l.length) : Sm (mulP l m a k) := by
  obtain ⟨D, h1, h2, h3⟩ := Bd.psum (i := k) (p := min a (k + 1)) hl.2 (by rw [← e]; exact hm.2) hk (Nat.min_le_right _ _) hl.1
  exact bz_sm h3 h1 h2 (Nat.le_refl _)
theorem mulP_next {l m : List Rat} {a k : Nat} (h : a ≤ k) : mulP l m (a + 1) k = mulP l m a k + l.getD a 0 * m.getD (k - a) 0 := by
  unfold mulP
  rw [Nat.min_eq_left (by omega), Nat.min_eq_left (by omega)]
  rfl
theorem mulP_same {l m : List Rat} {a k : Nat} (h : k < a) : mulP l m (a + 1) k = mulP l m a k := by
  unfold mulP
  rw [Nat.min_eq_right (by omega), Nat.min_eq_right (by omega)]
theorem mulP_zero {l m : List Rat} {a k : Nat} (h : l.getD a 0 = 0) : mulP l m (a + 1) k = mulP l m a k := by
  by_cases hk : k < a
  · exact mulP_same hk
  · rw [mulP_next (by omega), h]; grind
theorem mulP_all {l m : List Rat} {n : Nat} (hn : l.length = n) : toL n ⟨mulP l m n⟩ = mulL l m := by
  unfold mulL
  rw [hn]
  refine toL_eq fun i hi => ?_
  show mulP l m n i = Ser.mulC i (ser l) (ser m)
  rw [mulC_sum]
  unfold mulP
  rw [Nat.min_eq_right (by omega)]
  rfl
/-- partly at a + 1 -/
def mulQ (l m : List Rat) (a b : Nat) : Ser := ⟨fun k => if k < b then mulP l m (a + 1) k else mulP l m a k⟩
end K4
end
section
set_option Elab.async false
set_option linter.all false
set_option maxRecDepth 100000
set_option maxHeartbeats 4000000
/-! == and != of fractions and of lists of fractions; rows as objects. -/
namespace K4
open PySem PySem.Spec PyProof.Rows L2 K04
def pd (q : Rat) : PyData := .tuple [.int q.num, .int (q.den : Int)]
def pdL (l : List Rat) : PyData := .list (l.map pd)
theorem pd_eqv (q r : Rat) : PyData.eqv (pd q) (pd r) = decide (q = r) := by
  have e : PyData.eqv (pd q) (pd r) = (q.num == r.num && ((q.den : Int) == (r.den : Int) && true)) := by
    simp only [pd, PyData.eqv, PyData.eqvAll]
  rw [e, Bool.and_true]
  by_cases h : q = r
  · rw [h, decide_eq_true rfl]; simp
  · rw [decide_eq_false h]
    by_cases h1 : q.num = r.num
    · have h2 : ¬ ((q.den : Int) = (r.den : Int)) := fun z => h (Rat.ext h1 (by omega))
      simp [h1]
      omega
    · simp [h1]
theorem pdL_eqvA : ∀ l m : List Rat, PyData.eqvAll (l.map pd) (m.map pd) = decide (l = m)
  | [], [] => by simp [PyData.eqvAll]
  | [], _ :: _ => by simp [PyData.eqvAll]
  | _ :: _, [] => by simp [PyData.eqvAll]
  | q :: l, r :: m => by
    simp only [List.map_cons, PyData.eqvAll]
    rw [pd_eqv, pdL_eqvA l m, ← Bool.decide_and]
    exact decide_eq_decide.mpr ⟨fun h => by rw [h.1, h.2], fun h => List.cons.inj h⟩
theorem pdL_eqv (l m : List Rat) : PyData.eqv (pdL l) (pdL m) = decide (l = m) := by
  unfold pdL
  rw [PyData.eqv]
  exact pdL_eqvA l m
theorem pd_can (q : Rat) : (pd q).canLay0 = true := rfl
theorem pdL_canA : ∀ l : List Rat, PyData.canLayAll0 (l.map pd) = true
  | [] => rfl
  | q :: l => by
    rw [List.map_cons, PyData.canLayAll0, pd_can, pdL_canA l]
    rfl
theorem pdL_dep : ∀ l : List Rat, PyData.depthAll (l.map pd) ≤ 1
  | [] => Nat.zero_le _
  | q :: l => by
    rw [List.map_cons, PyData.depthAll]
    exact Nat.max_le.mpr ⟨Nat.le_refl _, pdL_dep l⟩
theorem pd_shaped (q : Rat) : SeqAt.shaped (pd q) = true := rfl
theorem pdL_shaped (l : List Rat) : SeqAt.shaped (pdL l) = true := by
  unfold SeqAt.shaped pdL
  rw [PyData.canLay0, pdL_canA, PyData.depth, decide_eq_true (by have := pdL_dep l; omega)]
  rfl
theorem Fr.dp {K : Frag} {H : Hp} {v : V} {q : Rat} (h : Fr K H v q) : Dp K H v (pd q) := by
  obtain ⟨a, rfl, t⟩ := h
  exact .tup t (.cons (.int _) (.cons (.int _) .nil))
theorem Frs.dp {K : Frag} {H : Hp} : ∀ {xs : List V} {qs : List Rat}, Frs K H xs qs → DpAll K H xs (qs.map pd)
  | [], [], _ => .nil
  | x :: xs, q :: qs, h => by
    obtain ⟨z, hz, f⟩ := h.2 0 q rfl
    obtain rfl : x = z := Option.some.inj hz
    refine .cons f.dp (Frs.dp ⟨by have := h.1; simpa using this, fun i r hr => ?_⟩)
    obtain ⟨y, hy, g⟩ := h.2 (i + 1) r (by simpa using hr)
    exact ⟨y, by simpa using hy, g⟩
  | [], _ :: _, h => by have := h.1; simp at this
  | _ :: _, [], h => by have := h.1; simp at this
theorem FL.dp {K : Frag} {H : Hp} {a : Addr} {l : List Rat} (h : FL K H a l) : Dp K H (.ref a) (pdL l) := by
  obtain ⟨xs, s, f⟩ := h
  exact .lst s f.dp
section
variable {X : Cx}
def rEqF (K : Frag) : R2 := fun x y H Q => ∃ q r, Fr K H x q ∧ Fr K H y r ∧ Q (.bl (decide (q = r))) H
def rNeF (K : Frag) : R2 := fun x y H Q => ∃ q r, Fr K H x q ∧ Fr K H y r ∧ Q (.bl (!decide (q = r))) H
def rEqFL (K : Frag) : R2 := fun x y H Q => ∃ a b l m, x = .ref a ∧ y = .ref b ∧ FL K H a l ∧ FL K H b m ∧ Q (.bl (decide (l = m))) H
def rNeFL (K : Frag) : R2 := fun x y H Q => ∃ a b l m, x = .ref a ∧ y = .ref b ∧ FL K H a l ∧ FL K H b m ∧ Q (.bl (!decide (l = m))) H
theorem op_eqF (hu : X.A.units + 64 < cLine) : OpR X (compareOp .Eq) (rEqF X.K) := by
  intro pins s σ H x y v u Q I rx ry h
  obtain ⟨q, r, fx, fy, hq⟩ := h
  exact op_eqD hu pins s σ H x y v u Q I rx ry ⟨_, _, fx.dp, fy.dp, pd_shaped q, pd_shaped r, by rw [pd_eqv]; exact hq⟩
theorem op_neF (hu : X.A.units + 64 < cLine) : OpR X (compareOp .NotEq) (rNeF X.K) := by
  intro pins s σ H x y v u Q I rx ry h
  obtain ⟨q, r, fx, fy, hq⟩ := h
  exact op_neD hu pins s σ H x y v u Q I rx ry ⟨_, _, fx.dp, fy.dp, pd_shaped q, pd_shaped r, by rw [pd_eqv]; exact hq⟩
theorem op_eqFL (hu : X.A.units + 64 < cLine) : OpR X (compareOp .Eq) (rEqFL X.K) := by
  intro pins s σ H x y v u Q I rx ry h
  obtain ⟨a, b, l, m, rfl, rfl, fx, fy, hq⟩ := h
  exact op_eqD hu pins s σ H _ _ v u Q I rx ry ⟨_, _, fx.dp, fy.dp, pdL_shaped l, pdL_shaped m, by rw [pdL_eqv]; exact hq⟩
theorem op_neFL (hu : X.A.units + 64 < cLine) : OpR X (compareOp .NotEq) (rNeFL X.K) := by
  intro pins s σ H x y v u Q I rx ry h
  obtain ⟨a, b, l, m, rfl, rfl, fx, fy, hq⟩ := h
  exact op_neD hu pins s σ H _ _ v u Q I rx ry ⟨_, _, fx.dp, fy.dp, pdL_shaped l, pdL_shaped m, by rw [pdL_eqv]; exact hq⟩
end
/-- at r: a Row whose numbers are qs -/
def RowAt (K : Frag) (H : Hp) (r : Addr) (qs : List Rat) : Prop := ∃ dx l h, H r = some (.ins (cRow K) dx [("_numbers", .ref l), ("order", .int ((qs.length : Int) - 1)), ("height", h)]) ∧ FL K H l qs ∧ 3 ≤ qs.length ∧ qs.length ≤ 16
theorem RowAt.ext {K : Frag} {H H' : Hp} {r : Addr} {qs : List Rat} (h : RowAt K H r qs) (e : Ext H H') : RowAt K H' r qs := by
  obtain ⟨dx, l, g, h1, h2, h3⟩ := h
  exact ⟨dx, l, g, e _ _ h1, h2.ext e, h3⟩
/-- the other objects stand -/
def ExtB (b : Addr) (H H' : Hp) : Prop := ∀ a o, a ≠ b → H a = some o → H' a = some o
/-- a method of a class, a def called through its class -/
structure CaM (P : Program) (w : World) (K : Frag) (mg : Str → Option Value) (base : Heap) (CX : CXT) (k : Nat) (f : Addr) (sp : Sp) (fd : FuncData) (ps : List Str) : Prop where
  ok : FnOk P w K mg base CX k f fd ps sp
  b : Binds K fd ps []
theorem cam_of {P : Program} {w : World} {K : Frag} {mg : Str → Option Value} {base : Heap} {CX : CXT} {k : Nat} {f : Addr} {m q : Str} {sp : Sp} {st : Stmt} {N ps : List Str} (d : ∃ fd, FunD K m q (defArgs st) (defBody st) (defScope st) [] [] f fd) (S : FnScope N ps (defScope st)) (len : ∀ vs H Q E, sp vs H Q E → vs.length = ps.length)
    (hb : ∀ (kV doc pm : Value) (an : Option Addr) (cdv ct : Value) (us : List Value), us.length = ps.length → bindArgs (PySem.W.fnOf m q (defArgs st) (defBody st) (defScope st) .none kV doc pm an cdv ct) ⟨us, []⟩ = pure (ps.zip us))
    (hbody : ∀ (cdv : Value) (A : Around) (outer : List Env) (s : Shared) (H : Hp) (vs : List V) (Q : VK) (E : XK), Room k (A.deeper (envOfC q (defScope st) s.heap.objs.size f cdv)) → sp vs H Q E →
      ∃ t, PSs (cxOf CX P w K mg base N q (defScope st) f cdv A outer s H E) (defBody st) t ∧ t { nx := fun _ H' => Q .non H', rt := Q } (start N vs) H) : ∃ fd ps, CaM P w K mg base CX (k + 1) f sp fd ps := by
  obtain ⟨fd, F⟩ := d
  exact ⟨fd, ps, F.ok S len hbody, F.bindsN hb⟩
theorem cam_of0 {P : Program} {w : World} {K : Frag} {mg : Str → Option Value} {base : Heap} {k : Nat} {f : Addr} {m q : Str} {sp : Sp} {st : Stmt} {N ps : List Str} (d : ∃ fd, FunD K m q (defArgs st) (defBody st) (defScope st) [] [] f fd) (S : FnScope N ps (defScope st)) (len : ∀ vs H Q E, sp vs H Q E → vs.length = ps.length)
    (hb : ∀ (kV doc pm : Value) (an : Option Addr) (cdv ct : Value) (us : List Value), us.length = ps.length → bindArgs (PySem.W.fnOf m q (defArgs st) (defBody st) (defScope st) .none kV doc pm an cdv ct) ⟨us, []⟩ = pure (ps.zip us))
    (hbody : ∀ (cdv : Value) (A : Around) (outer : List Env) (s : Shared) (H : Hp) (vs : List V) (Q : VK) (E : XK), Room k (A.deeper (envOfC q (defScope st) s.heap.objs.size f cdv)) → sp vs H Q E →
      ∃ t, PSs (cxOf CX0 P w K mg base N q (defScope st) f cdv A outer s H E).nox (defBody st) t ∧ t { nx := fun _ H' => Q .non H', rt := Q } (start N vs) H) : ∃ fd ps, CaM P w K mg base CX0 (k + 1) f sp fd ps :=
  cam_of d S len hb fun cdv A outer s H vs Q E hr hs => by
    obtain ⟨t, h, q⟩ := hbody cdv A outer s H vs Q E hr hs
    exact ⟨t, h.nox, q⟩
end K4
end
section
set_option Elab.async false
set_option linter.all false
set_option maxRecDepth 100000
set_option maxHeartbeats 4000000
/-! The same rules with the written part named (in comprehensions). -/
namespace K4
open PySem PySem.Spec PyProof.Rows L2 K04
section
variable {X : Cx} {a b : Expr} {ta tb : TE} {pos p1 : Pos} {j : Nat}
theorem pe_q0 (K : Frag) (hK : X.K = K) (ha : PE X a ta) : PE X (.Subscript a (.Constant (.int 0) j p1) pos) (tOp (rP0 K) ta (tC (.int 0))) := hK ▸ pe_p0 ha
theorem pe_q1 (K : Frag) (hK : X.K = K) (ha : PE X a ta) : PE X (.Subscript a (.Constant (.int 1) j p1) pos) (tOp (rP1 K) ta (tC (.int 1))) := hK ▸ pe_p1 ha
theorem pe_flK (K : Frag) (hK : X.K = K) (ha : PE X a ta) (hb : PE X b tb) (hs : PlainIx b := by exact fun _ _ => rfl) : PE X (.Subscript a b pos) (tOp (rFl K) ta tb) := hK ▸ pe_fl ha hb hs
theorem call_isKK {K : Frag} {mg : Str → Option Value} (T : Tx K mg) (hK : X.K = K) (c : String) (hc : c ∈ ["int", "bool", "str", "list", "tuple"] := by simp) : CallR X (.builtin "isinstance") (rIsK K c) := by
  intro pins s σ H xs us Q I r h
  obtain ⟨x, k, rfl, hk, q⟩ := h
  obtain ⟨t, ty, e⟩ := kind_ty T hk
  subst hK
  exact call_isi pins s σ H _ us Q I r ⟨x, .ty c, t, .type c, _, rfl, .ty c, ty, e c hc, q⟩
end
end K4
end
section
set_option Elab.async false
set_option linter.all false
set_option maxRecDepth 100000
set_option maxHeartbeats 4000000
/-! The walks, 1: fractions. -/
namespace K4
open PySem PySem.Spec PyProof.Rows L2 K04
theorem ext_up {H : Hp} {p : Addr} {o : HO} (hp : H p = none) : Ext H (upd H p o) := Ext.upd hp
/-- the answer is a fraction -/
def spRatio (K : Frag) : Sp := fun vs H Q _ => ∃ u l : Int, vs = [.int u, .int l] ∧ l ≠ 0 ∧ Sz l 8900 ∧ ∀ v H', Ext H H' → Fr K H' v (Rat.divInt u l) → Q v H'
section
variable {P : Program} {w : World} {K : Frag} {mg : Str → Option Value} {base : Heap}
theorem sc_ratio : FnScope ["upper", "lower", "common"] ["upper", "lower"] (defScope s_ratio) := sc_by (by decide +kernel)
theorem ok_ratio (T : Tx K mg) : Ca P w K mg base CX0 1 "ratio" (spRatio K) := by
  refine ca_of0 T.d_ratio T.g_ratio sc_ratio (fun vs H Q E h => ?_) (fun _ _ _ _ _ _ us hl => match us, hl with | [_, _], _ => rfl) fun cdv A outer s H vs Q E hr h => ?_
  · obtain ⟨u, l, rfl, _⟩ := h
    rfl
  obtain ⟨u, l, rfl, h0, hz, hq⟩ := h
  refine ⟨_, (pss_cons (ps_if (pt_cmpR op_eq (pv 1) pe_int (nomark _)) (pss_one ps_never) pss_nil)
    (pss_cons (ps_set (i := 2) sc_ratio.nd rfl (Or.inl rfl) (pe_callBfun cr_gcd (by rfl) T.g_gcd (pa_cons (pv 0) (pa_cons (pv 1) pa_nil))))
    (pss_cons (ps_if (pt_cmpR op_lt (pv 1) pe_int (nomark _)) (pss_one (ps_ret (pe_tup (pa_cons (pe_op op_fdivZ (pe_un un_neg (pv 0)) (pv 2)) (pa_cons (pe_op op_fdivZ (pe_un un_neg (pv 1)) (pv 2)) pa_nil))))) pss_nil)
    (pss_one (ps_ret (pe_tup (pa_cons (pe_op op_fdivZ (pv 0) (pv 2)) (pa_cons (pe_op op_fdivZ (pv 1) (pv 2)) pa_nil)))))))), ?_⟩
  have hc : ((Nat.gcd u.natAbs l.natAbs : Nat) : Int) ≠ 0 := gcd_ne h0
  have hd : ∀ i, CDivZ i ((Nat.gcd u.natAbs l.natAbs : Nat) : Int) := (Sz.gcd hz h0).div hc
  refine ⟨_, rfl, rfl, _, rfl, ?_⟩
  rw [show decide (V.int l = V.int 0) = false from decide_eq_false fun z => h0 (V.int.inj z)]
  refine ⟨_, rfl, _, rfl, _, _, rfl, ?_⟩
  refine ⟨_, rfl, _, _, rfl, rfl, _, rfl, ?_⟩
  by_cases hl : l < 0
  · rw [decide_eq_true hl]
    refine ⟨_, rfl, _, rfl, _, rfl, _, _, rfl, rfl, hd _, ?_⟩
    refine ⟨_, rfl, _, rfl, _, rfl, _, _, rfl, rfl, hd _, ?_⟩
    refine ⟨by show 2 ≤ sizeLine; decide, fun p np => hq _ _ (Ext.upd np) (Fr.of upd_same ?_ ?_)⟩
    · rw [fdiv_e (Int.natCast_nonneg _), divInt_num' hl]
    · rw [fdiv_e (Int.natCast_nonneg _), divInt_den' hl]
  · rw [decide_eq_false hl]
    have hp : 0 < l := by omega
    refine ⟨_, rfl, _, rfl, _, _, rfl, rfl, hd _, ?_⟩
    refine ⟨_, rfl, _, rfl, _, _, rfl, rfl, hd _, ?_⟩
    refine ⟨by show 2 ≤ sizeLine; decide, fun p np => hq _ _ (Ext.upd np) (Fr.of upd_same ?_ ?_)⟩
    · rw [fdiv_e (Int.natCast_nonneg _), divInt_num hp]
    · rw [fdiv_e (Int.natCast_nonneg _), divInt_den hp]
end
end K4
end
section
set_option Elab.async false
set_option linter.all false
set_option maxRecDepth 100000
set_option maxHeartbeats 4000000
/-! The walks, 2: sums and products of fractions; what is a fraction. -/
namespace K4
open PySem PySem.Spec PyProof.Rows L2 K04
theorem hrU {k : Nat} {A : Around} (hr : Room k A) : A.units + 64 < cLine := by have := hr.un; omega
theorem rat_ne {d : Int} (h : 0 < d) : (d : Rat) ≠ 0 := by
  intro e
  have : d = 0 := by exact_mod_cast e
  omega
/-- both pairs known, the answer is the fraction f of their values -/
def spTwo (f : Rat → Rat → Rat) (K : Frag) : Sp := fun vs H Q _ => ∃ x y q r, vs = [x, y] ∧ Pq K H x q ∧ Pq K H y r ∧ ∀ v H', Ext H H' → Fr K H' v (f q r) → Q v H'
/-- one / other, other not 0 and not too great -/
def spQuo (K : Frag) : Sp := fun vs H Q _ => ∃ x y q r, vs = [x, y] ∧ Pq K H x q ∧ Fr K H y r ∧ r ≠ 0 ∧ Sz r.num 6000 ∧ Sz (r.den : Int) 2500 ∧ ∀ v H', Ext H H' → Fr K H' v (q / r) → Q v H'
/-- total + one * other -/
def spAddP (K : Frag) : Sp := fun vs H Q _ => ∃ x y z q r s, vs = [x, y, z] ∧ Pq K H x q ∧ Pq K H y r ∧ Pq K H z s ∧ Sm (q + r * s) ∧ ∀ v H', Ext H H' → Pq K H' v (q + r * s) → (Fr K H x q → Fr K H' v (q + r * s)) → Q v H'
section
variable {P : Program} {w : World} {K : Frag} {mg : Str → Option Value} {base : Heap}
theorem sc_sum_of : FnScope ["one", "other"] ["one", "other"] (defScope s_sum_of) := sc_by (by decide +kernel)
theorem ok_sum_of (T : Tx K mg) : Ca P w K mg base CX0 2 "sum_of" (spTwo (· + ·) K) := by
  have c_ratio := ok_ratio (P := P) (w := w) (base := base) T
  refine ca_of0 T.d_sum_of T.g_sum_of sc_sum_of (fun vs H Q E h => ?_) (fun _ _ _ _ _ _ us hl => match us, hl with | [_, _], _ => rfl) fun cdv A outer s H vs Q E hr h => ?_
  · obtain ⟨x, y, q, r, rfl, _⟩ := h
    rfl
  obtain ⟨x, y, q, r, rfl, ⟨n, d, pr, d0, e, hn, hd⟩, ⟨m, k, ps, k0, f, hm, hk⟩, hq⟩ := h
  refine ⟨_, (pss_one (ps_ret (pe_ca c_ratio hr (by decide) pass0 (pa_cons (pe_op op_add (pe_op op_mulW (pe_p0 (pv 0)) (pe_p1 (pv 1))) (pe_op op_mulW (pe_p0 (pv 1)) (pe_p1 (pv 0)))) (pa_cons (pe_op op_mulW (pe_p1 (pv 0)) (pe_p1 (pv 1))) pa_nil))))), ?_⟩
  refine ⟨_, rfl, rfl, n, d, pr, _, rfl, rfl, m, k, ps, _, _, rfl, rfl, hn.cmul hk, ?_⟩
  refine ⟨_, rfl, rfl, m, k, ps, _, rfl, rfl, n, d, pr, _, _, rfl, rfl, hm.cmul hd, ?_⟩
  refine ⟨_, _, rfl, rfl, ?_⟩
  refine ⟨_, rfl, rfl, n, d, pr, _, rfl, rfl, m, k, ps, _, _, rfl, rfl, hd.cmul hk, ?_⟩
  have hdk : 0 < d * k := Int.mul_pos d0 k0
  refine ⟨_, _, rfl, by omega, (hd.mul hk).mono (by omega), fun v H' ex fr => hq v H' ex ?_⟩
  have z : Rat.divInt (n * k + m * d) (d * k) = q + r := by
    refine divInt_val (by omega) ?_
    rw [Rat.intCast_add, Rat.intCast_mul, Rat.intCast_mul, Rat.intCast_mul, e, f]; grind
  rw [z] at fr
  exact fr
theorem sc_product_of : FnScope ["one", "other"] ["one", "other"] (defScope s_product_of) := sc_by (by decide +kernel)
theorem ok_product_of (T : Tx K mg) : Ca P w K mg base CX0 2 "product_of" (spTwo (· * ·) K) := by
  have c_ratio := ok_ratio (P := P) (w := w) (base := base) T
  refine ca_of0 T.d_product_of T.g_product_of sc_product_of (fun vs H Q E h => ?_) (fun _ _ _ _ _ _ us hl => match us, hl with | [_, _], _ => rfl) fun cdv A outer s H vs Q E hr h => ?_
  · obtain ⟨x, y, q, r, rfl, _⟩ := h
    rfl
  obtain ⟨x, y, q, r, rfl, ⟨n, d, pr, d0, e, hn, hd⟩, ⟨m, k, ps, k0, f, hm, hk⟩, hq⟩ := h
  refine ⟨_, (pss_one (ps_ret (pe_ca c_ratio hr (by decide) pass0 (pa_cons (pe_op op_mulW (pe_p0 (pv 0)) (pe_p0 (pv 1))) (pa_cons (pe_op op_mulW (pe_p1 (pv 0)) (pe_p1 (pv 1))) pa_nil))))), ?_⟩
  refine ⟨_, rfl, rfl, n, d, pr, _, rfl, rfl, m, k, ps, _, _, rfl, rfl, hn.cmul hm, ?_⟩
  refine ⟨_, rfl, rfl, n, d, pr, _, rfl, rfl, m, k, ps, _, _, rfl, rfl, hd.cmul hk, ?_⟩
  have hdk : 0 < d * k := Int.mul_pos d0 k0
  refine ⟨_, _, rfl, by omega, (hd.mul hk).mono (by omega), fun v H' ex fr => hq v H' ex ?_⟩
  have z : Rat.divInt (n * m) (d * k) = q * r := by
    refine divInt_val (by omega) ?_
    rw [Rat.intCast_mul, Rat.intCast_mul, e, f]; grind
  rw [z] at fr
  exact fr
theorem sc_quotient_of : FnScope ["one", "other"] ["one", "other"] (defScope s_quotient_of) := sc_by (by decide +kernel)
theorem ok_quotient_of (T : Tx K mg) : Ca P w K mg base CX0 2 "quotient_of" (spQuo K) := by
  have c_ratio := ok_ratio (P := P) (w := w) (base := base) T
  refine ca_of0 T.d_quotient_of T.g_quotient_of sc_quotient_of (fun vs H Q E h => ?_) (fun _ _ _ _ _ _ us hl => match us, hl with | [_, _], _ => rfl) fun cdv A outer s H vs Q E hr h => ?_
  · obtain ⟨x, y, q, r, rfl, _⟩ := h
    rfl
  obtain ⟨x, y, q, r, rfl, ⟨n, d, pr, d0, e, hn, hd⟩, fy, r0, hm, hk, hq⟩ := h
  have ps := fy.pr
  have k0 : (0 : Int) < r.den := by have := r.den_pos; omega
  have m0 : r.num ≠ 0 := fun z => r0 (Rat.num_eq_zero.mp z)
  refine ⟨_, (pss_one (ps_ret (pe_ca c_ratio hr (by decide) pass0 (pa_cons (pe_op op_mulW (pe_p0 (pv 0)) (pe_p1 (pv 1))) (pa_cons (pe_op op_mulW (pe_p1 (pv 0)) (pe_p0 (pv 1))) pa_nil))))), ?_⟩
  refine ⟨_, rfl, rfl, n, d, pr, _, rfl, rfl, _, _, ps, _, _, rfl, rfl, hn.cmul hk, ?_⟩
  refine ⟨_, rfl, rfl, n, d, pr, _, rfl, rfl, _, _, ps, _, _, rfl, rfl, hd.cmul hm, ?_⟩
  have hdk : d * r.num ≠ 0 := Int.mul_ne_zero (by omega) m0
  refine ⟨_, _, rfl, hdk, (hd.mul hm).mono (by omega), fun v H' ex fr => hq v H' ex ?_⟩
  have z : Rat.divInt (n * (r.den : Int)) (d * r.num) = q / r := by
    refine divInt_val hdk ?_
    rw [Rat.intCast_mul, Rat.intCast_mul, e, ← mulDen r, Rat.intCast_natCast]; grind
  rw [z] at fr
  exact fr
theorem sc_add_product : FnScope ["total", "one", "other", "lower"] ["total", "one", "other"] (defScope s_add_product) := sc_by (by decide +kernel)
theorem ok_add_product (T : Tx K mg) : Ca P w K mg base CX0 2 "add_product" (spAddP K) := by
  have c_ratio := ok_ratio (P := P) (w := w) (base := base) T
  refine ca_of0 T.d_add_product T.g_add_product sc_add_product (fun vs H Q E h => ?_) (fun _ _ _ _ _ _ us hl => match us, hl with | [_, _, _], _ => rfl) fun cdv A outer s H vs Q E hr h => ?_
  · obtain ⟨x, y, z, q, r, s, rfl, _⟩ := h
    rfl
  obtain ⟨x, y, z, q, r, t, rfl, ⟨n, d, pr, d0, e, hn, hd⟩, ⟨m, k, ps, k0, f, hm, hk⟩, ⟨i, j, pt, j0, g, hi, hj⟩, sm, hq⟩ := h
  refine ⟨_, (pss_cons (ps_if (pw_or (pt_cmpR op_eq (pe_p0 (pv 1)) pe_int (nomark _)) (pw_or1 (pt_cmpR op_eq (pe_p0 (pv 2)) pe_int (nomark _)))).pt (pss_one (ps_ret (pv 0))) pss_nil)
    (pss_cons (ps_set (i := 3) sc_add_product.nd rfl (Or.inl rfl) (pe_op op_mulW (pe_p1 (pv 1)) (pe_p1 (pv 2))))
    (pss_one (ps_ret (pe_ca c_ratio hr (by decide) pass0 (pa_cons (pe_op op_add (pe_op op_mulW (pe_p0 (pv 0)) (pv 3)) (pe_op op_mulW (pe_op op_mulW (pe_p0 (pv 1)) (pe_p0 (pv 2))) (pe_p1 (pv 0)))) (pa_cons (pe_op op_mulW (pe_p1 (pv 0)) (pv 3)) pa_nil))))))), ?_⟩
  refine ⟨_, rfl, rfl, m, k, ps, rfl, _, rfl, ?_⟩
  by_cases m0 : m = 0
  · rw [show decide (V.int m = V.int 0) = true from decide_eq_true (by rw [m0])]
    refine iteT ?_
    have r0 : r = 0 := by
      have : (0 : Rat) = r * (k : Rat) := by rw [← f, m0]; rfl
      have := rat_ne k0
      grind
    have e0 : q + r * t = q := by rw [r0]; grind
    rw [e0] at hq
    exact ⟨_, rfl, hq _ _ Ext.rfl' ⟨n, d, pr, d0, e, hn, hd⟩ id⟩
  rw [show decide (V.int m = V.int 0) = false from decide_eq_false fun z => m0 (V.int.inj z)]
  refine iteF ⟨_, rfl, rfl, i, j, pt, rfl, _, rfl, ?_⟩
  by_cases i0 : i = 0
  · rw [show decide (V.int i = V.int 0) = true from decide_eq_true (by rw [i0])]
    refine iteT ?_
    have r0 : t = 0 := by
      have : (0 : Rat) = t * (j : Rat) := by rw [← g, i0]; rfl
      have := rat_ne j0
      grind
    have e0 : q + r * t = q := by rw [r0]; grind
    rw [e0] at hq
    exact ⟨_, rfl, hq _ _ Ext.rfl' ⟨n, d, pr, d0, e, hn, hd⟩ id⟩
  rw [show decide (V.int i = V.int 0) = false from decide_eq_false fun z => i0 (V.int.inj z)]
  refine iteF ?_
  refine ⟨_, rfl, rfl, m, k, ps, _, rfl, rfl, i, j, pt, _, _, rfl, rfl, hk.cmul hj, ?_⟩
  refine ⟨_, rfl, rfl, n, d, pr, _, rfl, _, _, rfl, rfl, hn.cmul (hk.mul hj), ?_⟩
  refine ⟨_, rfl, rfl, m, k, ps, _, rfl, rfl, i, j, pt, _, _, rfl, rfl, hm.cmul hi, ?_⟩
  refine ⟨_, rfl, rfl, n, d, pr, _, _, rfl, rfl, (hm.mul hi).cmul hd, ?_⟩
  refine ⟨_, _, rfl, rfl, ?_⟩
  refine ⟨_, rfl, rfl, n, d, pr, _, rfl, _, _, rfl, rfl, hd.cmul (hk.mul hj), ?_⟩
  have hdk : 0 < d * (k * j) := Int.mul_pos d0 (Int.mul_pos k0 j0)
  refine ⟨_, _, rfl, by omega, (hd.mul (hk.mul hj)).mono (by omega), fun v H' ex fr => ?_⟩
  have z : Rat.divInt (n * (k * j) + m * i * d) (d * (k * j)) = q + r * t := by
    refine divInt_val (by omega) ?_
    rw [Rat.intCast_add, Rat.intCast_mul, Rat.intCast_mul, Rat.intCast_mul, Rat.intCast_mul, Rat.intCast_mul, e, f, g]; grind
  rw [z] at fr
  exact hq v H' ex (fr.pq sm) fun _ => fr
theorem sc_is_whole : FnScope ["value"] ["value"] (defScope s_is_whole) := sc_by (by decide +kernel)
def spYes1 : Sp := fun vs H Q _ => ∃ n : Int, vs = [.int n] ∧ Q (.bl true) H
theorem ok_is_whole (T : Tx K mg) : Ca P w K mg base CX0 1 "is_whole" spYes1 := by
  refine ca_of0 T.d_is_whole T.g_is_whole sc_is_whole (fun vs H Q E h => ?_) (fun _ _ _ _ _ _ us hl => match us, hl with | [_], _ => rfl) fun cdv A outer s H vs Q E hr h => ?_
  · obtain ⟨n, rfl, _⟩ := h
    rfl
  obtain ⟨n, rfl, hq⟩ := h
  refine ⟨_, (pss_one (ps_ret (pe_and (pe_callB (call_isK T "int") (by rfl) T.f_isinstance PyProof.Rows.Boot.«isinstance» (pa_cons (pv 0) (pa_cons (pe_bty (by rfl) T.f_int PyProof.Rows.Boot.«int») pa_nil))) (pe_one (pe_not (pe_callB (call_isK T "bool") (by rfl) T.f_isinstance PyProof.Rows.Boot.«isinstance» (pa_cons (pv 0) (pa_cons (pe_bty (by rfl) T.f_bool PyProof.Rows.Boot.«bool») pa_nil)))))))), ?_⟩
  refine ⟨_, rfl, _, .int, rfl, .int n, true, rfl, ?_⟩
  refine ⟨_, rfl, _, .int, rfl, .int n, false, rfl, hq⟩
theorem sc_is_order : FnScope ["value"] ["value"] (defScope s_is_order) := sc_by (by decide +kernel)
def spOrder : Sp := fun vs H Q _ => ∃ n : Int, vs = [.int n] ∧ 2 ≤ n ∧ n ≤ 24 ∧ Q (.bl true) H
theorem ok_is_order (T : Tx K mg) : Ca P w K mg base CX0 2 "is_order" spOrder := by
  have c_is_whole := ok_is_whole (P := P) (w := w) (base := base) T
  refine ca_of0 T.d_is_order T.g_is_order sc_is_order (fun vs H Q E h => ?_) (fun _ _ _ _ _ _ us hl => match us, hl with | [_], _ => rfl) fun cdv A outer s H vs Q E hr h => ?_
  · obtain ⟨n, rfl, _⟩ := h
    rfl
  obtain ⟨n, rfl, h2, h24, hq⟩ := h
  refine ⟨_, (pss_one (ps_ret (pe_and (pe_ca c_is_whole hr (by decide) pass0 (pa_cons (pv 0) pa_nil)) (pe_one (pe_chain op_le op_le pe_int (pv 0) pe_int))))), ?_⟩
  refine ⟨_, rfl, _, rfl, _, rfl, ?_⟩
  refine iteT ⟨_, rfl, _, _, rfl, rfl, _, rfl, ?_⟩
  rw [decide_eq_true h2]
  refine iteT ⟨_, _, rfl, rfl, ?_⟩
  show Q (.bl (decide (n ≤ 24))) H
  rw [decide_eq_true h24]
  exact hq
end
end K4
end
section
set_option Elab.async false
set_option linter.all false
set_option maxRecDepth 100000
set_option maxHeartbeats 4000000
/-! The walks, 3: what is a fraction; lists of fractions. -/
namespace K4
open PySem PySem.Spec PyProof.Rows L2 K04
/-- v is no pair of plain ints -/
def NoFr (K : Frag) (H : Hp) (v : V) : Prop := (∃ k, Kind K H v k ∧ isK k "tuple" = false) ∨ ∃ a xs, v = .ref a ∧ SqT K H a xs ∧ (xs.length ≠ 2 ∨ ∃ x y kx ky, xs = [x, y] ∧ Kind K H x kx ∧ Kind K H y ky ∧ (kx ≠ .int ∨ ky ≠ .int))
def spIsF (K : Frag) : Sp := fun vs H Q _ => ∃ v, vs = [v] ∧ ((∃ n d, Pr K H v n d ∧ Q (.bl (decide (1 ≤ d) && decide (((Nat.gcd n.natAbs d.natAbs : Nat) : Int) = 1))) H) ∨ (NoFr K H v ∧ Q (.bl false) H))
theorem notInt {k : Kd} (h : k ≠ .int) : isK k "int" = false ∨ (isK k "int" = true ∧ isK k "bool" = true) := by
  cases k with
  | int => exact absurd rfl h
  | bl => exact .inr ⟨rfl, rfl⟩
  | _ => exact .inl rfl
section
variable {P : Program} {w : World} {K : Frag} {mg : Str → Option Value} {base : Heap}
theorem sc_is_fraction : FnScope ["value", "part"] ["value"] (defScope s_is_fraction) := sc_by (by decide +kernel)
theorem ok_is_fraction (T : Tx K mg) : Ca P w K mg base CX0 1 "is_fraction" (spIsF K) := by
  refine ca_of0 T.d_is_fraction T.g_is_fraction sc_is_fraction (fun vs H Q E h => ?_) (fun _ _ _ _ _ _ us hl => match us, hl with | [_], _ => rfl) fun cdv A outer s H vs Q E hr h => ?_
  · obtain ⟨v, rfl, _⟩ := h
    rfl
  obtain ⟨v, rfl, h⟩ := h
  refine ⟨_, (pss_cons (ps_if (pw_or (pt_not (pt_val (pe_callB (call_isK T "tuple") (by rfl) T.f_isinstance PyProof.Rows.Boot.«isinstance» (pa_cons (pv 0) (pa_cons (pe_bty (by rfl) T.f_tuple PyProof.Rows.Boot.«tuple») pa_nil))))) (pw_or1 (pt_cmpR op_ne (pe_callB call_len_seq (by rfl) T.f_len PySem.boot_len (pa_cons (pv 0) pa_nil)) pe_int (nomark _)))).pt (pss_one (ps_ret pe_bl)) pss_nil)
    (pss_cons (ps_for PassesOwn.never rfl (pi_tup (pv 0)) (pg_name (i := 1) sc_is_fraction.nd rfl (Or.inl rfl) (Or.inr rfl)) (pss_one (ps_if (pw_or (pt_not (pt_val (pe_callB (call_isK T "int") (by rfl) T.f_isinstance PyProof.Rows.Boot.«isinstance» (pa_cons (pv 1) (pa_cons (pe_bty (by rfl) T.f_int PyProof.Rows.Boot.«int») pa_nil))))) (pw_or1 (pt_val (pe_callB (call_isK T "bool") (by rfl) T.f_isinstance PyProof.Rows.Boot.«isinstance» (pa_cons (pv 1) (pa_cons (pe_bty (by rfl) T.f_bool PyProof.Rows.Boot.«bool») pa_nil)))))).pt (pss_one (ps_ret pe_bl)) pss_nil)))
    (pss_one (ps_ret (pe_and (pe_cmpR op_ge (pe_p1 (pv 0)) pe_int (nomark _)) (pe_one (pe_cmpR op_eq (pe_callBfun cr_gcd (by rfl) T.g_gcd (pa_cons (pe_p0 (pv 0)) (pa_cons (pe_p1 (pv 0)) pa_nil))) pe_int (nomark _)))))))), ?_⟩
  rcases h with ⟨n, d, ⟨a, rfl, sq⟩, hq⟩ | ⟨⟨k, hk, nk⟩ | ⟨a, xs, rfl, sq, h⟩, hq⟩
  · refine ⟨_, rfl, _, _, rfl, .tup sq, _, rfl, ?_⟩
    refine iteF ⟨_, rfl, a, _, rfl, .inr sq, rfl, _, rfl, ?_⟩
    refine iteF ⟨_, rfl, a, rfl, ⟨_, sq⟩, ?_⟩
    refine for_it walk_tup (fun i σ H' => (∃ o, σ = [some (.ref a), o]) ∧ H' = H) ⟨⟨_, rfl⟩, rfl⟩ (fun i σ H' _ z => by rw [z.2]; exact sq) (fun i x σ H1 H2 hi z y => ?_) (fun σ H' z => ?_)
    · obtain ⟨⟨o, rfl⟩, rfl⟩ := z
      obtain ⟨rfl, hx⟩ := y
      obtain ⟨j, rfl⟩ : ∃ j, x = .int j := by
        have hi2 : i < 2 := hi
        match i, hi2 with
        | 0, _ => exact ⟨n, (Option.some.inj hx).symm⟩
        | 1, _ => exact ⟨d, (Option.some.inj hx).symm⟩
      refine ⟨_, rfl, _, _, rfl, .int j, _, rfl, ?_⟩
      refine iteF ⟨_, rfl, _, _, rfl, .int j, _, rfl, ?_⟩
      exact iteF ⟨⟨_, rfl⟩, rfl⟩
    · obtain ⟨⟨o, rfl⟩, rfl⟩ := z
      refine ⟨_, rfl, rfl, n, d, ⟨a, rfl, sq⟩, _, _, rfl, rfl, _, rfl, ?_⟩
      by_cases h1 : 1 ≤ d
      · rw [decide_eq_true h1] at hq ⊢
        refine iteT ⟨_, rfl, rfl, n, d, ⟨a, rfl, sq⟩, _, rfl, rfl, n, d, ⟨a, rfl, sq⟩, _, _, rfl, rfl, ?_⟩
        have e : decide (V.int ((Nat.gcd n.natAbs d.natAbs : Nat) : Int) = V.int 1) = decide (((Nat.gcd n.natAbs d.natAbs : Nat) : Int) = 1) := decide_eq_decide.mpr ⟨V.int.inj, congrArg V.int⟩
        show Q (.bl (decide (V.int ((Nat.gcd n.natAbs d.natAbs : Nat) : Int) = V.int 1))) _
        rw [e]
        exact hq
      · rw [decide_eq_false h1] at hq ⊢
        exact iteF hq
  · refine ⟨_, rfl, _, k, rfl, hk, _, rfl, ?_⟩
    rw [nk]
    exact iteT hq
  · refine ⟨_, rfl, _, _, rfl, .tup sq, _, rfl, ?_⟩
    refine iteF ⟨_, rfl, a, _, rfl, .inr sq, rfl, _, rfl, ?_⟩
    by_cases hl : xs.length = 2
    · obtain ⟨x, y, kx, ky, rfl, hx, hy, hk⟩ := h.resolve_left (fun z => z hl)
      refine iteF ⟨_, rfl, a, rfl, ⟨_, sq⟩, ?_⟩
      refine for_it (walk_tup (xs := [x, y])) (fun i σ H' => (∃ o, σ = [some (.ref a), o]) ∧ H' = H ∧ (i = 1 → kx = .int) ∧ i < 2) ⟨⟨_, rfl⟩, rfl, fun z => absurd z (by decide), by decide⟩ (fun i σ H' _ z => by rw [z.2.1]; exact sq) (fun i x σ H1 H2 hi z y => ?_) (fun σ H' z => absurd z.2.2.2 (Nat.lt_irrefl 2))
      obtain ⟨⟨o, rfl⟩, rfl, hi1, hi2⟩ := z
      obtain ⟨rfl, hx'⟩ := y
      match i, hi2 with
      | 0, _ =>
        obtain rfl := Option.some.inj hx'
        by_cases e : kx = .int
        · subst e
          refine ⟨_, rfl, _, _, rfl, hx, _, rfl, ?_⟩
          refine iteF ⟨_, rfl, _, _, rfl, hx, _, rfl, ?_⟩
          exact iteF ⟨⟨_, rfl⟩, rfl, fun _ => rfl, by decide⟩
        · rcases notInt e with e1 | ⟨e1, e2⟩
          · refine ⟨_, rfl, _, _, rfl, hx, _, rfl, ?_⟩
            rw [e1]
            exact iteT hq
          · refine ⟨_, rfl, _, _, rfl, hx, _, rfl, ?_⟩
            rw [e1]
            refine iteF ⟨_, rfl, _, _, rfl, hx, _, rfl, ?_⟩
            rw [e2]
            exact iteT hq
      | 1, _ =>
        obtain rfl := Option.some.inj hx'
        have e := hk.resolve_left (fun z => z (hi1 rfl))
        rcases notInt e with e1 | ⟨e1, e2⟩
        · refine ⟨_, rfl, _, _, rfl, hy, _, rfl, ?_⟩
          rw [e1]
          exact iteT hq
        · refine ⟨_, rfl, _, _, rfl, hy, _, rfl, ?_⟩
          rw [e1]
          refine iteF ⟨_, rfl, _, _, rfl, hy, _, rfl, ?_⟩
          rw [e2]
          exact iteT hq
    · rw [show (!decide (V.int (xs.length : Int) = V.int 2)) = true from by
        rw [decide_eq_false fun z => hl (by have := V.int.inj z; omega)]; rfl]
      exact iteT hq
/-- True of a fraction -/
theorem isF_val (q : Rat) : (decide ((1 : Int) ≤ (q.den : Int)) && decide (((Nat.gcd q.num.natAbs (q.den : Int).natAbs : Nat) : Int) = 1)) = true := by
  rw [decide_eq_true (by have := q.den_pos; omega), decide_eq_true (by rw [Int.natAbs_natCast]; have := q.reduced; unfold Nat.Coprime at this; omega)]
  rfl
/-- a list of fractions -/
def spAllF (K : Frag) : Sp := fun vs H Q _ => ∃ a qs, vs = [.ref a] ∧ FL K H a qs ∧ ∀ H', Ext H H' → Q .non H'
theorem sc_first_no_fraction : FnScope ["values", "at", "value"] ["values"] (defScope s_first_no_fraction) := sc_by (by decide +kernel)
theorem ok_first_no_fraction (T : Tx K mg) : Ca P w K mg base CX0 2 "first_no_fraction" (spAllF K) := by
  have c_is_fraction := ok_is_fraction (P := P) (w := w) (base := base) T
  refine ca_of0 T.d_first_no_fraction T.g_first_no_fraction sc_first_no_fraction (fun vs H Q E h => ?_) (fun _ _ _ _ _ _ us hl => match us, hl with | [_], _ => rfl) fun cdv A outer s H vs Q E hr h => ?_
  · obtain ⟨n, _, rfl, _⟩ := h
    rfl
  obtain ⟨a, qs, rfl, ⟨xs, sq, fs⟩, hq⟩ := h
  refine ⟨_, (pss_cons (ps_for PassesOwn.never rfl (pi_enum (by rfl) T.f_enumerate (pa_cons (pv 0) pa_nil)) (pg_tup (n := 2) rfl (pgs_cons (pg_name (i := 1) sc_first_no_fraction.nd rfl (Or.inl rfl) (Or.inr rfl)) (pgs_cons (pg_name (i := 2) sc_first_no_fraction.nd rfl (Or.inl rfl) (Or.inr rfl)) pgs_nil))) (pss_one (ps_if (pt_not (pt_val (pe_ca c_is_fraction hr (by decide) pass0 (pa_cons (pv 2) pa_nil)))) (pss_one (ps_ret (pv 1))) pss_nil)))
    (pss_one (ps_ret pe_non))), ?_⟩
  refine ⟨_, rfl, a, xs, rfl, sq, ?_⟩
  refine for_it walk_enum (fun i σ H' => (∃ o u, σ = [some (.ref a), o, u]) ∧ Ext H H') ⟨⟨_, _, rfl⟩, Ext.rfl'⟩ (fun i σ H' _ z => sq.ext z.2) (fun i x σ H1 H2 hi z y => ?_) (fun σ H' z => hq _ z.2)
  obtain ⟨⟨o, u, rfl⟩, e⟩ := z
  obtain ⟨t, x0, x, rfl, nt, rfl, e0, hx⟩ := y
  obtain rfl := Option.some.inj e0
  obtain ⟨q, _, fr⟩ := fs.at hx
  have e2 := e.trans (Ext.upd (o := .tup [V.int (i : Nat), x]) nt)
  refine ⟨t, _, rfl, SqT.of upd_same, rfl, _, _, rfl, _, _, rfl, rfl, ?_⟩
  refine ⟨_, rfl, x, rfl, .inl ⟨_, _, (fr.ext e2).pr, _, rfl, ?_⟩⟩
  rw [isF_val q]
  exact iteF ⟨⟨_, _, rfl⟩, e2⟩
def spChk (K : Frag) : Sp := fun vs H Q _ => ∃ a qs, ∃ n : Int, vs = [.ref a, .int n] ∧ FL K H a qs ∧ 2 ≤ qs.length + n ∧ qs.length + n ≤ 24 ∧ ∀ H', Ext H H' → Q .non H'
theorem sc_check_numbers : FnScope ["numbers", "ahead", "at"] ["numbers", "ahead"] (defScope s_check_numbers) := sc_by (by decide +kernel)
theorem ok_check_numbers (T : Tx K mg) : Ca P w K mg base CX0 3 "check_numbers" (spChk K) := by
  have c_is_order := ok_is_order (P := P) (w := w) (base := base) T
  have c_first_no_fraction := ok_first_no_fraction (P := P) (w := w) (base := base) T
  refine ca_of0 T.d_check_numbers T.g_check_numbers sc_check_numbers (fun vs H Q E h => ?_) (fun _ _ _ _ _ _ us hl => match us, hl with | [_, _], _ => rfl) fun cdv A outer s H vs Q E hr h => ?_
  · obtain ⟨a, qs, n, rfl, _⟩ := h
    rfl
  obtain ⟨a, qs, n, rfl, fl, h2, h24, hq⟩ := h
  obtain ⟨xs, sq, fs⟩ := id fl
  refine ⟨_, (pss_cons (ps_if (pt_not (pt_val (pe_callB (call_isLT T) (by rfl) T.f_isinstance PyProof.Rows.Boot.«isinstance» (pa_cons (pv 0) (pa_cons (pe_tup (pa_cons (pe_bty (by rfl) T.f_list PyProof.Rows.Boot.«list») (pa_cons (pe_bty (by rfl) T.f_tuple PyProof.Rows.Boot.«tuple») pa_nil))) pa_nil))))) (pss_one ps_never) pss_nil)
    (pss_cons (ps_if (pt_not (pt_val (pe_ca c_is_order hr (by decide) pass0 (pa_cons (pe_op op_add (pe_callB call_len_seq (by rfl) T.f_len PySem.boot_len (pa_cons (pv 0) pa_nil)) (pv 1)) pa_nil)))) (pss_one ps_never) pss_nil)
    (pss_cons (ps_set (i := 2) sc_check_numbers.nd rfl (Or.inl rfl) (pe_ca c_first_no_fraction hr (by decide) pass0 (pa_cons (pv 0) pa_nil)))
    (pss_one (ps_if (pt_cmpR op_notN (pv 2) pe_non (nomark _)) (pss_one ps_never) pss_nil))))), ?_⟩
  refine ⟨_, rfl, by show 2 ≤ sizeLine; decide, fun p np => ?_⟩
  have e := Ext.upd (o := .tup [V.ty "list", V.ty "tuple"]) np
  refine ⟨_, .lst, p, rfl, upd_same, .lst (sq.ext e), _, rfl, ?_⟩
  refine iteF ⟨_, rfl, a, xs, rfl, .inl (sq.ext e), _, rfl, _, _, rfl, rfl, ?_⟩
  rw [fs.1]
  refine ⟨_, rfl, h2, h24, _, rfl, ?_⟩
  refine iteF ⟨_, rfl, a, qs, rfl, fl.ext e, fun H' e2 => ?_⟩
  exact ⟨_, rfl, rfl, _, rfl, iteF (hq _ (e.trans e2))⟩
end
end K4
end
section
set_option Elab.async false
set_option linter.all false
set_option maxRecDepth 100000
set_option maxHeartbeats 4000000
/-! The walks, 4: rows by number. -/
namespace K4
open PySem PySem.Spec PyProof.Rows L2 K04
theorem lcT {σ : L2.St} {H : Hp} {f : Bool → Hp → Prop} (h : f true H) : tYes σ H f := h
theorem lenOk {n : Nat} (h : n ≤ 1000) : n ≤ sizeLine := Nat.le_of_lt (Nat.lt_of_le_of_lt h (by decide))
theorem lenLt {n : Nat} (h : n ≤ 1000) : n < sizeLine := Nat.lt_of_le_of_lt h (by decide)
theorem fr_zero {K : Frag} {mg : Str → Option Value} (T : Tx K mg) (H : Hp) : Fr K H (.ref (He.ga K "ZERO")) 0 := ⟨_, rfl, T.zero H⟩
theorem fr_one {K : Frag} {mg : Str → Option Value} (T : Tx K mg) (H : Hp) : Fr K H (.ref (He.ga K "ONE")) 1 := ⟨_, rfl, T.one H⟩
/-- the first place that is not 0, or None -/
def leastV (qs : List Rat) : V := match qs.findIdx? (· ≠ 0) with
  | some i => .int (i : Nat)
  | none => .non
def spLeast (K : Frag) : Sp := fun vs H Q _ => ∃ a qs, vs = [.ref a] ∧ FL K H a qs ∧ ∀ H', Ext H H' → Q (leastV qs) H'
def spAdded (K : Frag) : Sp := fun vs H Q _ => ∃ a b l m, vs = [.ref a, .ref b] ∧ FL K H a l ∧ FL K H b m ∧ Ok l ∧ Ok m ∧ m.length = l.length ∧ ∀ v H', Ext H H' → H v = none → FL K H' v (addL l m) → Q (.ref v) H'
def spScaled (K : Frag) : Sp := fun vs H Q _ => ∃ a x l t, vs = [.ref a, x] ∧ FL K H a l ∧ Fr K H x t ∧ Ok l ∧ Sm t ∧ ∀ v H', Ext H H' → H v = none → FL K H' v (sclL t l) → Q (.ref v) H'
def spMult (K : Frag) : Sp := fun vs H Q _ => ∃ a b l m, vs = [.ref a, .ref b] ∧ FL K H a l ∧ FL K H b m ∧ Ok l ∧ Ok m ∧ m.length = l.length ∧ ∀ v H', Ext H H' → H v = none → FL K H' v (mulL l m) → Q (.ref v) H'
section
variable {P : Program} {w : World} {K : Frag} {mg : Str → Option Value} {base : Heap}
theorem sc_least_place : FnScope ["numbers", "place", "value"] ["numbers"] (defScope s_least_place) := sc_by (by decide +kernel)
theorem ok_least_place (T : Tx K mg) : Ca P w K mg base CX0 1 "least_place" (spLeast K) := by
  refine ca_of0 T.d_least_place T.g_least_place sc_least_place (fun vs H Q E h => ?_) (fun _ _ _ _ _ _ us hl => match us, hl with | [_], _ => rfl) fun cdv A outer s H vs Q E hr h => ?_
  · obtain ⟨n, _, rfl, _⟩ := h
    rfl
  obtain ⟨a, qs, rfl, ⟨xs, sq, fs⟩, hq⟩ := h
  refine ⟨_, (pss_cons (ps_for PassesOwn.never rfl (pi_enum (by rfl) T.f_enumerate (pa_cons (pv 0) pa_nil)) (pg_tup (n := 2) rfl (pgs_cons (pg_name (i := 1) sc_least_place.nd rfl (Or.inl rfl) (Or.inr rfl)) (pgs_cons (pg_name (i := 2) sc_least_place.nd rfl (Or.inl rfl) (Or.inr rfl)) pgs_nil))) (pss_one (ps_if (pt_cmpR op_ne (pe_p0 (pv 2)) pe_int (nomark _)) (pss_one (ps_ret (pv 1))) pss_nil)))
    (pss_one (ps_ret pe_non))), ?_⟩
  refine ⟨_, rfl, a, xs, rfl, sq, ?_⟩
  refine for_it walk_enum (fun i σ H' => (∃ o u, σ = [some (.ref a), o, u]) ∧ Ext H H' ∧ ∀ j, j < i → qs.getD j 0 = 0) ⟨⟨_, _, rfl⟩, Ext.rfl', fun j hj => by omega⟩ (fun i σ H' _ z => sq.ext z.2.1) (fun i x σ H1 H2 hi z y => ?_) (fun σ H' z => ?_)
  · obtain ⟨⟨o, u, rfl⟩, e, lo⟩ := z
    obtain ⟨t, x0, x, rfl, nt, rfl, e0, hx⟩ := y
    obtain rfl := Option.some.inj e0
    obtain ⟨q, hq1, fr⟩ := fs.at hx
    have e2 := e.trans (Ext.upd (o := .tup [V.int (i : Nat), x]) nt)
    have eq : qs.getD i 0 = q := by rw [List.getD_eq_getElem?_getD, hq1]; rfl
    refine ⟨t, _, rfl, SqT.of upd_same, rfl, _, _, rfl, _, _, rfl, rfl, ?_⟩
    refine ⟨_, rfl, rfl, _, _, (fr.ext e2).pr, rfl, _, rfl, ?_⟩
    by_cases q0 : q = 0
    · have : decide (V.int q.num = V.int 0) = true := decide_eq_true (by rw [q0]; rfl)
      rw [this]
      refine iteF ⟨⟨_, _, rfl⟩, e2, fun j hj => ?_⟩
      by_cases hj' : j = i
      · rw [hj', eq, q0]
      · exact lo j (by omega)
    · have : decide (V.int q.num = V.int 0) = false := decide_eq_false fun z => q0 (Rat.num_eq_zero.mp (V.int.inj z))
      rw [this]
      refine iteT ⟨_, rfl, ?_⟩
      have ev : leastV qs = .int (i : Nat) := by
        have hi' : i < qs.length := by rw [← fs.1]; exact hi
        have : qs.findIdx? (· ≠ 0) = some i := by
          rw [List.findIdx?_eq_some_iff_getElem]
          refine ⟨hi', ?_, fun j hj => ?_⟩
          · rw [List.getElem?_eq_getElem hi'] at hq1
            have := Option.some.inj hq1
            simpa [this] using q0
          · have hj' : j < qs.length := by omega
            have z := lo j hj
            rw [List.getD_eq_getElem?_getD, List.getElem?_eq_getElem hj'] at z
            simpa using z
        unfold leastV
        rw [this]
      have z := hq _ e2
      rw [ev] at z
      exact z
  · have ev : leastV qs = .non := by
      have : qs.findIdx? (· ≠ 0) = none := by
        rw [List.findIdx?_eq_none_iff]
        intro x hx
        obtain ⟨j, hj, e⟩ := List.mem_iff_getElem.mp hx
        have z2 := z.2.2 j (by rw [fs.1]; exact hj)
        rw [List.getD_eq_getElem?_getD, List.getElem?_eq_getElem hj] at z2
        have z3 : qs[j] = 0 := z2
        rw [← e, z3]
        rfl
      unfold leastV
      rw [this]
    have z2 := hq _ z.2.1
    rw [ev] at z2
    exact z2
theorem sc_added : FnScope ["one", "other", "value", "more"] ["one", "other"] (defScope s_added) := sc_by (by decide +kernel)
theorem ok_added (T : Tx K mg) : Ca P w K mg base CX0 3 "added" (spAdded K) := by
  have c_sum_of := ok_sum_of (P := P) (w := w) (base := base) T
  refine ca_of0 T.d_added T.g_added sc_added (fun vs H Q E h => ?_) (fun _ _ _ _ _ _ us hl => match us, hl with | [_, _], _ => rfl) fun cdv A outer s H vs Q E hr h => ?_
  · obtain ⟨_, _, _, _, rfl, _⟩ := h
    rfl
  obtain ⟨a, b, l, m, rfl, ⟨xs, sa, fa⟩, ⟨ys, sb, fb⟩, hl, hm, hlen, hq⟩ := h
  refine ⟨_, (pss_one (ps_ret (pe_lc (own := [("value", 2), ("more", 3)]) (g := (gTup K 2 (gCons (gName 2) (gCons (gName 3) gNil)))) rfl sc_added.nd (pi_zip (by rfl) T.f_zip (pa_cons (pv 0) (pa_cons (pv 1) pa_nil))) (blkOk_by (N := ["one", "other", "value", "more"]) (sc := defScope s_added) (by decide +kernel)) (fun _ _ _ _ _ => (pg_tup (n := 2) rfl (pgs_cons (pg_name (i := 2) sc_added.nd rfl (Or.inl rfl) (Or.inr rfl)) (pgs_cons (pg_name (i := 3) sc_added.nd rfl (Or.inl rfl) (Or.inr rfl)) pgs_nil)))) (fun _ _ _ _ _ => pts_nil) (fun _ _ _ _ _ => (pe_ca c_sum_of hr (by decide) pass0 (pa_cons (pv 2) (pa_cons (pv 3) pa_nil))))))), ?_⟩
  refine ⟨_, rfl, _, rfl, a, b, xs, ys, rfl, sa, sb, fun D hD => ?_⟩
  refine lc_it (walk_zip (n := l.length) (by rw [fa.1, fb.1, hlen, Nat.min_self])) (fun i H' => Ext H H' ∧ ∃ acc, H' D = some (.lst acc) ∧ Frs K H' acc (toL i (ser l + ser m))) ⟨Ext.upd hD, [], upd_same, .nil⟩ (fun i H' _ z => ⟨sa.ext z.1, sb.ext z.1⟩) (fun i x H1 H2 hi z y => ?_) (fun H' z => ?_)
  · obtain ⟨e, acc, hacc, facc⟩ := z
    obtain ⟨t, x, y, rfl, nt, rfl, hx, hy⟩ := y
    have e1 : Ext H1 (upd H1 t (.tup [x, y])) := Ext.upd nt
    have e2 := e.trans e1
    obtain ⟨q, hq1, fx⟩ := fa.at hx
    obtain ⟨r, hr1, fy⟩ := fb.at hy
    have eq : (ser l).c i = q := by show l.getD i 0 = q; rw [List.getD_eq_getElem?_getD, hq1]; rfl
    have er : (ser m).c i = r := by show m.getD i 0 = r; rw [List.getD_eq_getElem?_getD, hr1]; rfl
    have sx : Sm q := by rw [← eq]; exact hl.at hi
    have sy : Sm r := by rw [← er]; exact hm.at (by omega)
    refine ⟨t, _, rfl, SqT.of upd_same, rfl, _, _, rfl, _, _, rfl, rfl, rfl, lcT (iteT ?_)⟩
    refine ⟨_, rfl, _, rfl, _, _, q, r, rfl, (fx.ext e2).pq sx, (fy.ext e2).pq sy, fun v H3 e3 fv => ?_⟩
    have hacc3 := e3 _ _ (e1 _ _ hacc)
    refine ⟨acc, hacc3, lenLt (by rw [facc.1, toL_len]; have := hl.1; omega), ext_lst (e2.trans e3) hD, _, upd_same, ?_⟩
    rw [toL_succ]
    refine ((facc.ext (e1.trans e3)).mvL hacc3).snoc ?_
    have ec : (ser l + ser m).c i = q + r := by rw [Ser.addC, eq, er]
    rw [ec]
    exact fv.mvL hacc3
  · obtain ⟨e, acc, hacc, facc⟩ := z
    exact hq _ _ e hD (FL.of hacc facc)
theorem sc_scaled_list : FnScope ["numbers", "t", "value"] ["numbers", "t"] (defScope s_scaled_list) := sc_by (by decide +kernel)
theorem ok_scaled_list (T : Tx K mg) : Ca P w K mg base CX0 3 "scaled_list" (spScaled K) := by
  have c_product_of := ok_product_of (P := P) (w := w) (base := base) T
  refine ca_of0 T.d_scaled_list T.g_scaled_list sc_scaled_list (fun vs H Q E h => ?_) (fun _ _ _ _ _ _ us hl => match us, hl with | [_, _], _ => rfl) fun cdv A outer s H vs Q E hr h => ?_
  · obtain ⟨_, _, _, _, rfl, _⟩ := h
    rfl
  obtain ⟨a, tv, l, t, rfl, ⟨xs, sa, fa⟩, ft, hl, st, hq⟩ := h
  refine ⟨_, (pss_one (ps_ret (pe_lc (own := [("value", 2)]) rfl sc_scaled_list.nd (pi_list (pv 0)) (blkOk_by (N := ["numbers", "t", "value"]) (sc := defScope s_scaled_list) (by decide +kernel)) (fun _ _ _ _ _ => (pg_name (i := 2) sc_scaled_list.nd rfl (Or.inl rfl) (Or.inr rfl))) (fun _ _ _ _ _ => pts_nil) (fun _ _ _ _ _ => (pe_ca c_product_of hr (by decide) pass0 (pa_cons (pv 2) (pa_cons (pv 1) pa_nil))))))), ?_⟩
  refine ⟨_, rfl, a, rfl, ⟨xs, sa⟩, fun D hD => ?_⟩
  refine lc_it (walk_list (xs := xs)) (fun i H' => Ext H H' ∧ ∃ acc, H' D = some (.lst acc) ∧ Frs K H' acc ((sclL t l).take i)) ⟨Ext.upd hD, [], upd_same, .nil⟩ (fun i H' _ z => sa.ext z.1) (fun i x H1 H2 hi z y => ?_) (fun H' z => ?_)
  · obtain ⟨e, acc, hacc, facc⟩ := z
    obtain ⟨rfl, hx⟩ := y
    obtain ⟨q, hq1, fx⟩ := fa.at hx
    have hi' : i < l.length := by rw [← fa.1]; exact hi
    have sx : Sm q := by
      have := hl.at hi'
      rw [List.getD_eq_getElem?_getD, hq1] at this
      exact this
    refine ⟨rfl, lcT (iteT ?_)⟩
    refine ⟨_, rfl, _, rfl, _, _, q, t, rfl, (fx.ext e).pq sx, (ft.ext e).pq st, fun v H3 e3 fv => ?_⟩
    have hacc3 := e3 _ _ hacc
    refine ⟨acc, hacc3, lenLt (by rw [facc.1, List.length_take, sclL_len]; have := hl.1; omega), ext_lst (e.trans e3) hD, _, upd_same, ?_⟩
    have ek : (sclL t l).take (i + 1) = (sclL t l).take i ++ [q * t] := by
      rw [List.take_add_one]
      unfold sclL
      rw [List.getElem?_map, hq1]
      rfl
    rw [ek]
    exact ((facc.ext e3).mvL hacc3).snoc (fv.mvL hacc3)
  · obtain ⟨e, acc, hacc, facc⟩ := z
    refine hq _ _ e hD (FL.of hacc ?_)
    rw [List.take_of_length_le (by rw [sclL_len, fa.1]; exact Nat.le_refl _)] at facc
    exact facc
end
end K4
end
section
set_option Elab.async false
set_option linter.all false
set_option maxRecDepth 100000
set_option maxHeartbeats 4000000
/-! The walks, 5: products of rows. -/
namespace K4
open PySem PySem.Spec PyProof.Rows L2 K04
def unitL (a : Int) (n : Nat) : List Rat := toL n ⟨fun i => if (i : Int) = a then 1 else 0⟩
def spUnit (K : Frag) : Sp := fun vs H Q _ => ∃ (a : Int) (n : Nat), vs = [.int a, .int n] ∧ n ≤ 100 ∧ ∀ v H', Ext H H' → H v = none → FL K H' v (unitL a n) → Q (.ref v) H'
theorem getD_of {l : List Rat} {i : Nat} {q : Rat} (h : l[i]? = some q) : l.getD i 0 = q := by rw [List.getD_eq_getElem?_getD, h]; rfl
theorem Frs.put {K : Frag} {H : Hp} {xs : List V} {n k : Nat} {f g : Ser} {x : V} {q : Rat} (h : Frs K H xs (toL n f)) (fx : Fr K H x q) (hk : g.c k = q) (hg : ∀ i, i < n → i ≠ k → g.c i = f.c i) : Frs K H (xs.set k x) (toL n g) := by
  have z := h.set k fx
  rw [toL_set] at z
  have e : toL n ⟨fun i => if i = k then q else f.c i⟩ = toL n g := toL_eq fun i hi => by
    show (if i = k then q else f.c i) = g.c i
    by_cases e : i = k
    · rw [if_pos e, e, hk]
    · rw [if_neg e, hg i hi e]
  rw [e] at z
  exact z
theorem frAt {K : Frag} {H : Hp} {xs : List V} {n k : Nat} {f : Ser} (h : Frs K H xs (toL n f)) (hk : k < n) : ∃ x, xs[k]? = some x ∧ Fr K H x (f.c k) := h.2 k _ (toL_get hk)
section
variable {P : Program} {w : World} {K : Frag} {mg : Str → Option Value} {base : Heap}
theorem sc_unit_line : FnScope ["at", "size", "place"] ["at", "size"] (defScope s_unit_line) := sc_by (by decide +kernel)
theorem ok_unit_line (T : Tx K mg) : Ca P w K mg base CX0 1 "unit_line" (spUnit K) := by
  refine ca_of0 T.d_unit_line T.g_unit_line sc_unit_line (fun vs H Q E h => ?_) (fun _ _ _ _ _ _ us hl => match us, hl with | [_, _], _ => rfl) fun cdv A outer s H vs Q E hr h => ?_
  · obtain ⟨_, _, rfl, _⟩ := h
    rfl
  obtain ⟨a, n, rfl, hn, hq⟩ := h
  refine ⟨_, (pss_one (ps_ret (pe_lc (own := [("place", 2)]) rfl sc_unit_line.nd (pi_range1 (by rfl) T.f_range (pa_cons (pv 1) pa_nil)) (blkOk_by (N := ["at", "size", "place"]) (sc := defScope s_unit_line) (by decide +kernel)) (fun _ _ _ _ _ => (pg_name (i := 2) sc_unit_line.nd rfl (Or.inl rfl) (Or.inr rfl))) (fun _ _ _ _ _ => pts_nil) (fun _ _ _ _ _ => (pe_ifExp (pt_cmpR op_eq (pv 2) (pv 0) (nomark _)) (pe_gref (by rfl) T.g_ONE) (pe_gref (by rfl) T.g_ZERO)))))), ?_⟩
  refine ⟨_, rfl, (n : Int), rfl, by omega, by omega, fun D hD => ?_⟩
  refine lc_it walk_range (fun i H' => Ext H H' ∧ ∃ acc, H' D = some (.lst acc) ∧ Frs K H' acc (toL i ⟨fun i => if (i : Int) = a then 1 else 0⟩)) ⟨Ext.upd hD, [], upd_same, .nil⟩ (fun i H' _ z => trivial) (fun i x H1 H2 hi z y => ?_) (fun H' z => ?_)
  · obtain ⟨e, acc, hacc, facc⟩ := z
    obtain ⟨rfl, rfl⟩ := y
    refine ⟨rfl, lcT (iteT ?_)⟩
    refine ⟨_, rfl, _, rfl, rfl, _, rfl, ?_⟩
    have hi' : i < n := by simpa using hi
    have key : ∀ v q, Fr K H2 v q → (if (i : Int) = a then (1 : Rat) else 0) = q → ∃ acc', H2 D = some (.lst acc') ∧ acc'.length < sizeLine ∧ Ext H (upd H2 D (.lst (acc' ++ [v]))) ∧ ∃ acc, upd H2 D (.lst (acc' ++ [v])) D = some (.lst acc) ∧ Frs K (upd H2 D (.lst (acc' ++ [v]))) acc (toL (i + 1) ⟨fun i => if (i : Int) = a then 1 else 0⟩) := fun v q fv eq => by
      refine ⟨acc, hacc, lenLt (by rw [facc.1, toL_len]; omega), ext_lst e hD, _, upd_same, ?_⟩
      rw [toL_succ]
      refine (facc.mvL hacc).snoc ?_
      show Fr K _ v (if (i : Int) = a then (1 : Rat) else 0)
      rw [eq]
      exact fv.mvL hacc
    by_cases ea : (i : Int) = a
    · rw [show decide (V.int (0 + (i : Int)) = V.int a) = true from decide_eq_true (by rw [Int.zero_add, ea])]
      exact key _ 1 (fr_one T _) (if_pos ea)
    · rw [show decide (V.int (0 + (i : Int)) = V.int a) = false from decide_eq_false (fun z => ea (by have := V.int.inj z; omega))]
      exact key _ 0 (fr_zero T _) (if_neg ea)
  · obtain ⟨e, acc, hacc, facc⟩ := z
    rw [show ((n : Int)).toNat = n from Int.toNat_natCast n] at facc
    exact hq _ _ e hD (FL.of hacc facc)
theorem sc_multiplied : FnScope ["one", "other", "size", "result", "at", "factor", "place", "_"] ["one", "other"] (defScope s_multiplied) := sc_by (by decide +kernel)
theorem ok_multiplied (T : Tx K mg) : Ca P w K mg base CX0 3 "multiplied" (spMult K) := by
  have c_add_product := ok_add_product (P := P) (w := w) (base := base) T
  refine ca_of0 T.d_multiplied T.g_multiplied sc_multiplied (fun vs H Q E h => ?_) (fun _ _ _ _ _ _ us hl => match us, hl with | [_, _], _ => rfl) fun cdv A outer s H vs Q E hr h => ?_
  · obtain ⟨_, _, _, _, rfl, _⟩ := h
    rfl
  obtain ⟨a, b, l, m, rfl, ⟨xs, sa, fa⟩, ⟨ys, sb, fb⟩, hl, hm, hlen, hq⟩ := h
  have hl16 := hl.1
  refine ⟨_, (pss_cons (ps_set (i := 2) sc_multiplied.nd rfl (Or.inl rfl) (pe_callB call_len_seq (by rfl) T.f_len PySem.boot_len (pa_cons (pv 0) pa_nil)))
    (pss_cons (ps_setLc (i := 3) rfl sc_multiplied.nd rfl rfl (sw_true rfl rfl rfl (by decide +kernel)) (own := [("_", 7)]) (pi_range1 (by rfl) T.f_range (pa_cons (pv 2) pa_nil)) (blkOk_by (N := ["one", "other", "size", "result", "at", "factor", "place", "_"]) (sc := defScope s_multiplied) (by decide +kernel)) (fun _ _ _ _ _ => (pg_name (i := 7) sc_multiplied.nd rfl (Or.inl rfl) (Or.inr rfl))) (fun _ _ _ _ _ => pts_nil) (fun _ _ _ _ _ => (pe_gref (by rfl) T.g_ZERO)))
    (pss_cons (ps_for PassesOwn.never rfl (pi_enum (by rfl) T.f_enumerate (pa_cons (pv 0) pa_nil)) (pg_tup (n := 2) rfl (pgs_cons (pg_name (i := 4) sc_multiplied.nd rfl (Or.inl rfl) (Or.inr rfl)) (pgs_cons (pg_name (i := 5) sc_multiplied.nd rfl (Or.inl rfl) (Or.inr rfl)) pgs_nil))) (pss_one (ps_if (pt_cmpR op_ne (pe_p0 (pv 5)) pe_int (nomark _)) (pss_one (ps_for PassesOwn.never rfl (pi_range2 (by rfl) T.f_range (pa_cons (pv 4) (pa_cons (pv 2) pa_nil))) (pg_name (i := 6) sc_multiplied.nd rfl (Or.inl rfl) (Or.inr rfl)) (pss_one (ps_asg (pe_ca c_add_product hr (by decide) pass0 (pa_cons (pe_fl (pv 3) (pv 6)) (pa_cons (pv 5) (pa_cons (pe_fl (pv 1) (pe_op op_sub (pv 6) (pv 4))) pa_nil)))) (pg_sub (pv 3) (pv 6) set_list))))) pss_nil)))
    (pss_one (ps_ret (pv 3)))))), ?_⟩
  refine ⟨_, rfl, a, xs, rfl, .inl sa, ?_⟩
  rw [fa.1]
  refine ⟨_, rfl, (l.length : Int), rfl, by omega, by omega, fun D hD => ?_⟩
  refine lc_it walk_range (fun i H' => Ext H H' ∧ ∃ acc, H' D = some (.lst acc) ∧ Frs K H' acc (toL i ⟨mulP l m 0⟩)) ⟨Ext.upd hD, [], upd_same, .nil⟩ (fun i H' _ z => trivial) (fun i x H1 H2 hi z y => ?_) (fun H0 z => ?_)
  · obtain ⟨e, acc, hacc, facc⟩ := z
    obtain ⟨rfl, rfl⟩ := y
    refine ⟨rfl, lcT (iteT ?_)⟩
    have hi' : i < l.length := by simpa using hi
    refine ⟨acc, hacc, lenLt (by rw [facc.1, toL_len]; omega), ext_lst e hD, _, upd_same, ?_⟩
    rw [toL_succ]
    refine (facc.mvL hacc).snoc ?_
    have : mulP l m 0 i = 0 := by unfold mulP; rw [Nat.zero_min]; rfl
    show Fr K _ _ (mulP l m 0 i)
    rw [this]
    exact (fr_zero T _).mvL hacc
  · obtain ⟨e0, acc0, hacc0, facc0⟩ := z
    rw [show ((l.length : Int)).toNat = l.length from Int.toNat_natCast _] at facc0
    refine ⟨_, rfl, a, xs, rfl, sa.ext e0, ?_⟩
    refine for_it walk_enum (fun i σ H' => (∃ o1 o2 o3 o4, σ = [some (.ref a), some (.ref b), some (.int l.length), some (.ref D), o1, o2, o3, o4]) ∧ Ext H H' ∧ ∃ acc, H' D = some (.lst acc) ∧ Frs K H' acc (toL l.length ⟨mulP l m i⟩)) ⟨⟨_, _, _, _, rfl⟩, e0, acc0, hacc0, facc0⟩ (fun i σ H' _ z => sa.ext z.2.1) (fun i x σ H1 H2 hi z y => ?_) (fun σ H' z => ?_)
    · obtain ⟨⟨o1, o2, o3, o4, rfl⟩, e, acc, hacc, facc⟩ := z
      obtain ⟨t, x0, x, rfl, nt, rfl, e00, hx⟩ := y
      obtain rfl := Option.some.inj e00
      obtain ⟨q, hq1, fx⟩ := fa.at hx
      have hi' : i < l.length := by rw [← fa.1]; exact hi
      have eq := getD_of hq1
      have et : Ext H1 (upd H1 t (.tup [V.int (i : Nat), x])) := Ext.upd nt
      have e2 := e.trans et
      have sq : Sm q := by rw [← eq]; exact hl.at hi'
      refine ⟨t, _, rfl, SqT.of upd_same, rfl, _, _, rfl, _, _, rfl, rfl, ?_⟩
      refine ⟨_, rfl, rfl, _, _, (fx.ext e2).pr, rfl, _, rfl, ?_⟩
      by_cases q0 : q = 0
      · rw [show (!decide (V.int q.num = V.int 0)) = false from by rw [q0]; rfl]
        refine iteF ⟨⟨_, _, _, _, rfl⟩, e2, acc, et _ _ hacc, ?_⟩
        have : toL l.length ⟨mulP l m (i + 1)⟩ = toL l.length ⟨mulP l m i⟩ := toL_eq fun k _ => mulP_zero (by rw [eq, q0])
        rw [this]
        exact facc.ext et
      · rw [show (!decide (V.int q.num = V.int 0)) = true from by rw [decide_eq_false fun z => q0 (Rat.num_eq_zero.mp (V.int.inj z))]; rfl]
        refine iteT ⟨_, rfl, _, rfl, (i : Int), (l.length : Int), rfl, ⟨by omega, by omega, by omega, by omega⟩, ?_⟩
        refine for_it walk_range (fun j σ H' => (∃ o3 o4, σ = [some (.ref a), some (.ref b), some (.int l.length), some (.ref D), some (.int (i : Nat)), some x, o3, o4]) ∧ Ext H H' ∧ ∃ acc, H' D = some (.lst acc) ∧ Frs K H' acc (toL l.length (mulQ l m i (i + j)))) ⟨⟨_, _, rfl⟩, e2, acc, et _ _ hacc, ?_⟩ (fun i σ H' _ z => trivial) (fun j x1 σ H3 H4 hj z y => ?_) (fun σ H' z => ?_)
        · have : toL l.length (mulQ l m i (i + 0)) = toL l.length ⟨mulP l m i⟩ := toL_eq fun k _ => by
            show (if k < i + 0 then mulP l m (i + 1) k else mulP l m i k) = mulP l m i k
            by_cases h : k < i
            · rw [if_pos (by omega), mulP_same h]
            · rw [if_neg (by omega)]
          rw [this]
          exact facc.ext et
        · obtain ⟨⟨o3, o4, rfl⟩, e3, acc3, hacc3, facc3⟩ := z
          obtain ⟨rfl, rfl⟩ := y
          have hj' : i + j < l.length := by omega
          obtain ⟨z0, hz0, fz0⟩ := frAt facc3 hj'
          have ep : ((i : Int) + (j : Int)) = ((i + j : Nat) : Int) := by omega
          have em : ((i : Int) + (j : Int)) - (i : Int) = ((j : Nat) : Int) := by omega
          have v0 : (mulQ l m i (i + j)).c (i + j) = mulP l m i (i + j) := if_neg (Nat.lt_irrefl _)
          have v1 : mulP l m (i + 1) (i + j) = mulP l m i (i + j) + q * m.getD j 0 := by
            rw [mulP_next (by omega), eq]
            have : i + j - i = j := by omega
            rw [this]
          have s0 : Sm (mulP l m i (i + j)) := mulP_ok hl hm hlen hj'
          have s1 : Sm (mulP l m i (i + j) + q * m.getD j 0) := by rw [← v1]; exact mulP_ok hl hm hlen hj'
          rw [v0] at fz0
          refine ⟨_, rfl, _, rfl, D, _, i + j, rfl, congrArg V.int ep, FL.of hacc3 facc3, by simpa using hj', fun z1 fz1 => ?_⟩
          rw [toL_D hj', v0] at fz1
          refine ⟨_, rfl, _, rfl, _, rfl, _, rfl, _, _, rfl, rfl, b, m, j, rfl, congrArg V.int em, ⟨ys, sb.ext e3, fb.ext e3⟩, by omega, fun z2 fz2 => ?_⟩
          refine ⟨z1, x, z2, mulP l m i (i + j), q, m.getD j 0, rfl, fz1.pq s0, (fx.ext e3).pq sq, fz2.pq (hm.at (by omega)), s1, fun v H5 e5 _ fv => ?_⟩
          have fv := fv fz1
          have hacc5 := e5 _ _ hacc3
          refine ⟨_, rfl, _, rfl, D, acc3, _, i + j, rfl, rfl, hacc5, ?_, ?_⟩
          · rw [ep]
            unfold ixN
            rw [if_pos (by omega), if_pos (by rw [facc3.1, toL_len]; omega), Int.toNat_natCast]
          · refine ⟨⟨_, _, rfl⟩, ext_lst (e3.trans e5) hD, _, upd_same, ?_⟩
            refine Frs.put ((facc3.ext e5).mvL hacc5) (fv.mvL hacc5) ?_ fun k hk hne => ?_
            · show (if i + j < i + (j + 1) then mulP l m (i + 1) (i + j) else mulP l m i (i + j)) = _
              rw [if_pos (by omega), v1]
            · show (if k < i + (j + 1) then mulP l m (i + 1) k else mulP l m i k) = (if k < i + j then mulP l m (i + 1) k else mulP l m i k)
              by_cases h : k < i + j
              · rw [if_pos h, if_pos (by omega)]
              · rw [if_neg h, if_neg (by omega)]
        · obtain ⟨⟨o3, o4, rfl⟩, e3, acc3, hacc3, facc3⟩ := z
          refine ⟨⟨_, _, _, _, rfl⟩, e3, acc3, hacc3, ?_⟩
          have : toL l.length (mulQ l m i (i + ((l.length : Int) - (i : Int)).toNat)) = toL l.length ⟨mulP l m (i + 1)⟩ := toL_eq fun k hk => by
            show (if k < i + ((l.length : Int) - (i : Int)).toNat then mulP l m (i + 1) k else mulP l m i k) = mulP l m (i + 1) k
            rw [if_pos (by omega)]
          rw [← this]
          exact facc3
    · obtain ⟨⟨o1, o2, o3, o4, rfl⟩, e, acc, hacc, facc⟩ := z
      refine ⟨_, rfl, hq _ _ e hD (FL.of hacc ?_)⟩
      rw [fa.1, mulP_all rfl] at facc
      exact facc
end
end K4
end
section
set_option Elab.async false
set_option linter.all false
set_option maxRecDepth 100000
set_option maxHeartbeats 4000000
/-! The walks, 6: the class Row. -/
namespace K4
open PySem PySem.Spec PyProof.Rows L2 K04
def spRowI (K : Frag) : Sp := fun vs H Q _ => ∃ r dx a qs, vs = [.ref r, .ref a] ∧ H r = some (.ins (cRow K) dx []) ∧ FL K H a qs ∧ 3 ≤ qs.length ∧ qs.length ≤ 16 ∧ ∀ H', ExtB r H H' → RowAt K H' r qs → Q .non H'
def spNums (K : Frag) : Sp := fun vs H Q _ => ∃ r qs, vs = [.ref r] ∧ RowAt K H r qs ∧ ∀ v H', Ext H H' → H v = none → FL K H' v qs → Q (.ref v) H'
def spSame (K : Frag) : Sp := fun vs H Q _ => ∃ r s l m, vs = [.ref r, .ref s] ∧ RowAt K H r l ∧ RowAt K H s m ∧ m.length = l.length ∧ Q .non H
def spRow2 (f : List Rat → List Rat → List Rat) (K : Frag) : Sp := fun vs H Q _ => ∃ r s l m, vs = [.ref r, .ref s] ∧ RowAt K H r l ∧ RowAt K H s m ∧ m.length = l.length ∧ Ok l ∧ Ok m ∧ ∀ v H', Ext H H' → H v = none → RowAt K H' v (f l m) → Q (.ref v) H'
def spRowS (K : Frag) : Sp := fun vs H Q _ => ∃ r x l t, vs = [.ref r, x] ∧ RowAt K H r l ∧ Fr K H x t ∧ Ok l ∧ Sm t ∧ ∀ v H', Ext H H' → H v = none → RowAt K H' v (sclL t l) → Q (.ref v) H'
theorem fl_extB {K : Frag} {H H' : Hp} {r C dx : Addr} {fs : List (Str × V)} {a : Addr} {qs : List Rat} (h : FL K H a qs) (hr : H r = some (.ins C dx fs)) (e : ExtB r H H') : FL K H' a qs := by
  obtain ⟨xs, s, f⟩ := h
  have sq : SqL K H' a xs := by
    rcases s with (s | ⟨o, s⟩) | s
    · exact .inl (.inl (e _ _ (fun z => by rw [z, hr] at s; cases s) s))
    · exact .inl (.inr ⟨o, e _ _ (fun z => by rw [z, hr] at s; cases s) s⟩)
    · exact .inr s
  refine ⟨xs, sq, f.1, fun i q hq => ?_⟩
  obtain ⟨x, hx, p, rfl, t⟩ := f.2 i q hq
  refine ⟨_, hx, p, rfl, ?_⟩
  rcases t with (t | ⟨o, t⟩) | t
  · exact .inl (.inl (e _ _ (fun z => by rw [z, hr] at t; cases t) t))
  · exact .inl (.inr ⟨o, e _ _ (fun z => by rw [z, hr] at t; cases t) t⟩)
  · exact .inr t
theorem ExtB.put {r : Addr} {H : Hp} {o : HO} : ExtB r H (upd H r o) := fun a u h1 h2 => by rw [upd_ne h1]; exact h2
theorem ExtB.trans {r : Addr} {H H1 H2 : Hp} (h : ExtB r H H1) (k : ExtB r H1 H2) : ExtB r H H2 := fun a u h1 h2 => k a u h1 (h a u h1 h2)
theorem ext_b {r : Addr} {H H1 : Hp} (h : Ext H H1) : ExtB r H H1 := fun a u _ h2 => h a u h2
/-- from the heap ahead of the making -/
theorem ext_made {H H' : Hp} {x dx : Addr} {o p : HO} (hx : H x = none) (hd : H dx = none) (e : ExtB x (upd (upd H dx p) x o) H') : Ext H H' := fun a u ha => by
  have n1 := ne_of_none ha hx
  have n2 := ne_of_none ha hd
  exact e a u n1 (by rw [upd_ne n1, upd_ne n2]; exact ha)
section
variable {P : Program} {w : World} {K : Frag} {mg : Str → Option Value} {base : Heap}
theorem sc_Row_init : FnScope ["self", "numbers"] ["self", "numbers"] (defScope m_Row_init) := sc_by (by decide +kernel)
theorem ok_Row_init (T : Tx K mg) : ∃ fd ps, CaM P w K mg base CX0 4 (He.ma K (cRow K) "__init__") (spRowI K) fd ps := by
  have c_check_numbers := ok_check_numbers (P := P) (w := w) (base := base) T
  have c_least_place := ok_least_place (P := P) (w := w) (base := base) T
  refine cam_of0 T.d_Row_init sc_Row_init (fun vs H Q E h => ?_) (fun _ _ _ _ _ _ us hl => match us, hl with | [_, _], _ => rfl) fun cdv A outer s H vs Q E hr h => ?_
  · obtain ⟨_, _, _, _, rfl, _⟩ := h
    rfl
  obtain ⟨r, dx, a, qs, rfl, hin, fl, h3, h16, hq⟩ := h
  refine ⟨_, (pss_cons (ps_expr (pe_ca c_check_numbers hr (by decide) pass0 (pa_cons (pv 1) (pa_cons (pe_un un_neg pe_int) pa_nil))))
    (pss_cons (ps_fld (pv 0) (pe_callTy call_list_of (by rfl) T.f_list PyProof.Rows.Boot.«list» (pa_cons (pv 1) pa_nil)) rfl)
    (pss_cons (ps_fld (pv 0) (pe_op op_sub (pe_callB call_len_seq (by rfl) T.f_len PySem.boot_len (pa_cons (pv 1) pa_nil)) pe_int) rfl)
    (pss_one (ps_fld (pv 0) (pe_ca c_least_place hr (by decide) pass0 (pa_cons (pv 1) pa_nil)) rfl))))), ?_⟩
  refine ⟨_, rfl, _, rfl, a, qs, _, rfl, fl, by omega, by omega, fun H1 e1 => ?_⟩
  have fl1 := fl.ext e1
  have hin1 := e1 _ _ hin
  obtain ⟨xs, sq, fs⟩ := id fl1
  refine ⟨_, rfl, a, xs, rfl, .inl sq, fun n nn => ?_⟩
  have e2 := Ext.upd (o := .lst xs) nn
  have hin2 := e2 _ _ hin1
  refine ⟨_, rfl, r, cRow K, dx, _, rfl, hin2, T.c_Row, T.nR_numbers, by show 0 < 1000; decide, ?_⟩
  have b3 : ExtB r (upd H1 n (.lst xs)) _ := ExtB.put (o := .ins (cRow K) dx (putF "_numbers" (.ref n) []))
  have fl3 := fl_extB (fl1.ext e2) hin2 b3
  have fn3 : FL K _ n qs := fl_extB (FL.of upd_same (fs.ext e2)) hin2 b3
  obtain ⟨xs3, sq3, fs3⟩ := id fl3
  refine ⟨_, rfl, a, xs3, rfl, .inl sq3, _, _, rfl, rfl, _, rfl, r, cRow K, dx, _, rfl, upd_same, T.c_Row, T.nRorder, by show 1 < 1000; decide, ?_⟩
  have b4 : ExtB r _ _ := ExtB.put (r := r) (H := upd (upd H1 n (.lst xs)) r (.ins (cRow K) dx (putF "_numbers" (.ref n) []))) (o := .ins (cRow K) dx (putF "order" (.int (xs3.length - 1)) (putF "_numbers" (.ref n) [])))
  have fl4 := fl_extB fl3 upd_same b4
  have fn4 := fl_extB fn3 upd_same b4
  refine ⟨_, rfl, a, qs, rfl, fl4, fun H5 e5 => ?_⟩
  have hin5 := e5 _ _ (show (upd (upd (upd H1 n (.lst xs)) r (.ins (cRow K) dx (putF "_numbers" (.ref n) []))) r (.ins (cRow K) dx (putF "order" (.int (xs3.length - 1)) (putF "_numbers" (.ref n) [])))) r = some _ from upd_same)
  refine ⟨_, rfl, r, cRow K, dx, _, rfl, hin5, T.c_Row, T.nRheight, by show 2 < 1000; decide, ?_⟩
  have b6 : ExtB r H5 _ := ExtB.put (o := .ins (cRow K) dx (putF "height" (leastV qs) (putF "order" (.int (xs3.length - 1)) (putF "_numbers" (.ref n) []))))
  refine hq _ ((((ext_b (e1.trans e2)).trans b3).trans b4).trans ((ext_b e5).trans b6)) ⟨dx, n, leastV qs, ?_, fl_extB (fn4.ext e5) hin5 b6, h3, h16⟩
  rw [upd_same, fs3.1]
  rfl
theorem sc_Row_numbers : FnScope ["self"] ["self"] (defScope m_Row_numbers) := sc_by (by decide +kernel)
theorem ok_numbers (T : Tx K mg) : ∃ fd ps, CaM P w K mg base CX0 1 (He.ma K (cRow K) "numbers") (spNums K) fd ps := by
  refine cam_of0 T.d_Row_numbers sc_Row_numbers (fun vs H Q E h => ?_) (fun _ _ _ _ _ _ us hl => match us, hl with | [_], _ => rfl) fun cdv A outer s H vs Q E hr h => ?_
  · obtain ⟨_, _, rfl, _⟩ := h
    rfl
  obtain ⟨r, qs, rfl, ⟨dx, l, g, hin, ⟨xs, sq, fs⟩, hl⟩, hq⟩ := h
  refine ⟨_, (pss_one (ps_ret (pe_callTy call_list_of (by rfl) T.f_list PyProof.Rows.Boot.«list» (pa_cons (pe_fld (pv 0) rfl) pa_nil)))), ?_⟩
  exact ⟨_, rfl, r, cRow K, dx, _, _, rfl, hin, T.c_Row, T.nR_numbers, rfl, l, xs, rfl, .inl sq, fun n nn => hq _ _ (Ext.upd nn) nn (FL.of upd_same (fs.ext (Ext.upd nn)))⟩
theorem sc_check_same_order : FnScope ["one", "other"] ["one", "other"] (defScope s_check_same_order) := sc_by (by decide +kernel)
theorem ok_check_same_order (T : Tx K mg) : Ca P w K mg base CX0 1 "check_same_order" (spSame K) := by
  refine ca_of0 T.d_check_same_order T.g_check_same_order sc_check_same_order (fun vs H Q E h => ?_) (fun _ _ _ _ _ _ us hl => match us, hl with | [_, _], _ => rfl) fun cdv A outer s H vs Q E hr h => ?_
  · obtain ⟨_, _, _, _, rfl, _⟩ := h
    rfl
  obtain ⟨r, s, l, m, rfl, ⟨dx, a, g, hin, fl, hl⟩, ⟨dy, b, g2, hin2, fm, hm⟩, e, hq⟩ := h
  refine ⟨_, (pss_one (ps_if (pt_cmpR op_ne (pe_fld (pv 0) rfl) (pe_fld (pv 1) rfl) (nomark _)) (pss_one ps_never) pss_nil)), ?_⟩
  refine ⟨_, rfl, r, cRow K, dx, _, _, rfl, hin, T.c_Row, T.nRorder, rfl, _, rfl, s, cRow K, dy, _, _, rfl, hin2, T.c_Row, T.nRorder, rfl, rfl, _, rfl, ?_⟩
  rw [e, show (!decide (V.int ((l.length : Int) - 1) = V.int ((l.length : Int) - 1))) = false from by simp]
  exact iteF hq
theorem sc_Row_add : FnScope ["self", "other"] ["self", "other"] (defScope m_Row_add) := sc_by (by decide +kernel)
theorem ok_Row_add (T : Tx K mg) : ∃ fd ps, CaM P w K mg base CX0 6 (He.ma K (cRow K) "__add__") (spRow2 addL K) fd ps := by
  have c_check_same_order := ok_check_same_order (P := P) (w := w) (base := base) T
  have c_added := ok_added (P := P) (w := w) (base := base) T
  obtain ⟨fd1, ps1, Ri⟩ := ok_Row_init (P := P) (w := w) (base := base) T
  refine cam_of0 T.d_Row_add sc_Row_add (fun vs H Q E h => ?_) (fun _ _ _ _ _ _ us hl => match us, hl with | [_, _], _ => rfl) fun cdv A outer s H vs Q E hr h => ?_
  · obtain ⟨_, _, _, _, rfl, _⟩ := h
    rfl
  obtain ⟨r, s, l, m, rfl, rl, rm, e, ol, om, hq⟩ := h
  obtain ⟨dx, a, g, hin, fl, hl⟩ := id rl
  obtain ⟨dy, b, g2, hin2, fm, hm⟩ := id rm
  refine ⟨_, (pss_cons (ps_expr (pe_ca c_check_same_order hr (by decide) pass0 (pa_cons (pv 0) (pa_cons (pv 1) pa_nil))))
    (pss_one (ps_ret (pe_make T.k_Row Ri.ok (hr.mono (by decide)) (by rfl) T.g_Row Ri.b .nil pass0 (pa_cons (pe_ca c_added hr (by decide) pass0 (pa_cons (pe_fld (pv 0) rfl) (pa_cons (pe_fld (pv 1) rfl) pa_nil))) pa_nil))))), ?_⟩
  refine ⟨_, rfl, _, rfl, r, s, l, m, rfl, rl, rm, e, ?_⟩
  refine ⟨_, rfl, r, cRow K, dx, _, _, rfl, hin, T.c_Row, T.nR_numbers, rfl, _, rfl, s, cRow K, dy, _, _, rfl, hin2, T.c_Row, T.nR_numbers, rfl, ?_⟩
  refine ⟨a, b, l, m, rfl, fl, fm, ol, om, e, fun v H1 e1 nv fv x d hx hd hne => ?_⟩
  refine ⟨x, d, v, _, rfl, upd_same, ?_, by rw [addL_len]; exact hl.1, by rw [addL_len]; exact hl.2, fun H2 e2 rw2 => ⟨rfl, hq _ _ (e1.trans (ext_made hx hd e2)) (Ext.notIn e1 hx) rw2⟩⟩
  exact (fv.ext (Ext.upd hd)).ext (Ext.upd (by rw [upd_ne hne.symm]; exact hx))
theorem sc_Row_mul : FnScope ["self", "other"] ["self", "other"] (defScope m_Row_mul) := sc_by (by decide +kernel)
theorem ok_Row_mul (T : Tx K mg) : ∃ fd ps, CaM P w K mg base CX0 6 (He.ma K (cRow K) "__mul__") (spRow2 mulL K) fd ps := by
  have c_check_same_order := ok_check_same_order (P := P) (w := w) (base := base) T
  have c_multiplied := ok_multiplied (P := P) (w := w) (base := base) T
  obtain ⟨fd1, ps1, Ri⟩ := ok_Row_init (P := P) (w := w) (base := base) T
  refine cam_of0 T.d_Row_mul sc_Row_mul (fun vs H Q E h => ?_) (fun _ _ _ _ _ _ us hl => match us, hl with | [_, _], _ => rfl) fun cdv A outer s H vs Q E hr h => ?_
  · obtain ⟨_, _, _, _, rfl, _⟩ := h
    rfl
  obtain ⟨r, s, l, m, rfl, rl, rm, e, ol, om, hq⟩ := h
  obtain ⟨dx, a, g, hin, fl, hl⟩ := id rl
  obtain ⟨dy, b, g2, hin2, fm, hm⟩ := id rm
  refine ⟨_, (pss_cons (ps_expr (pe_ca c_check_same_order hr (by decide) pass0 (pa_cons (pv 0) (pa_cons (pv 1) pa_nil))))
    (pss_one (ps_ret (pe_make T.k_Row Ri.ok (hr.mono (by decide)) (by rfl) T.g_Row Ri.b .nil pass0 (pa_cons (pe_ca c_multiplied hr (by decide) pass0 (pa_cons (pe_fld (pv 0) rfl) (pa_cons (pe_fld (pv 1) rfl) pa_nil))) pa_nil))))), ?_⟩
  refine ⟨_, rfl, _, rfl, r, s, l, m, rfl, rl, rm, e, ?_⟩
  refine ⟨_, rfl, r, cRow K, dx, _, _, rfl, hin, T.c_Row, T.nR_numbers, rfl, _, rfl, s, cRow K, dy, _, _, rfl, hin2, T.c_Row, T.nR_numbers, rfl, ?_⟩
  refine ⟨a, b, l, m, rfl, fl, fm, ol, om, e, fun v H1 e1 nv fv x d hx hd hne => ?_⟩
  refine ⟨x, d, v, _, rfl, upd_same, ?_, by rw [mulL_len]; exact hl.1, by rw [mulL_len]; exact hl.2, fun H2 e2 rw2 => ⟨rfl, hq _ _ (e1.trans (ext_made hx hd e2)) (Ext.notIn e1 hx) rw2⟩⟩
  exact (fv.ext (Ext.upd hd)).ext (Ext.upd (by rw [upd_ne hne.symm]; exact hx))
theorem sc_Row_scaled : FnScope ["self", "t"] ["self", "t"] (defScope m_Row_scaled) := sc_by (by decide +kernel)
theorem ok_Row_scaled (T : Tx K mg) : ∃ fd ps, CaM P w K mg base CX0 6 (He.ma K (cRow K) "scaled") (spRowS K) fd ps := by
  have c_is_fraction := ok_is_fraction (P := P) (w := w) (base := base) T
  have c_scaled_list := ok_scaled_list (P := P) (w := w) (base := base) T
  obtain ⟨fd1, ps1, Ri⟩ := ok_Row_init (P := P) (w := w) (base := base) T
  refine cam_of0 T.d_Row_scaled sc_Row_scaled (fun vs H Q E h => ?_) (fun _ _ _ _ _ _ us hl => match us, hl with | [_, _], _ => rfl) fun cdv A outer s H vs Q E hr h => ?_
  · obtain ⟨_, _, _, _, rfl, _⟩ := h
    rfl
  obtain ⟨r, x, l, t, rfl, rl, ft, ol, st, hq⟩ := h
  obtain ⟨dx, a, g, hin, fl, hl⟩ := id rl
  refine ⟨_, (pss_cons (ps_if (pt_not (pt_val (pe_ca c_is_fraction hr (by decide) pass0 (pa_cons (pv 1) pa_nil)))) (pss_one ps_never) pss_nil)
    (pss_one (ps_ret (pe_make T.k_Row Ri.ok (hr.mono (by decide)) (by rfl) T.g_Row Ri.b .nil pass0 (pa_cons (pe_ca c_scaled_list hr (by decide) pass0 (pa_cons (pe_fld (pv 0) rfl) (pa_cons (pv 1) pa_nil))) pa_nil))))), ?_⟩
  refine ⟨_, rfl, x, rfl, .inl ⟨_, _, ft.pr, _, rfl, ?_⟩⟩
  rw [isF_val t]
  refine iteF ⟨_, rfl, r, cRow K, dx, _, _, rfl, hin, T.c_Row, T.nR_numbers, rfl, _, rfl, ?_⟩
  refine ⟨a, x, l, t, rfl, fl, ft, ol, st, fun v H1 e1 nv fv y d hx hd hne => ?_⟩
  refine ⟨y, d, v, _, rfl, upd_same, ?_, by rw [sclL_len]; exact hl.1, by rw [sclL_len]; exact hl.2, fun H2 e2 rw2 => ⟨rfl, hq _ _ (e1.trans (ext_made hx hd e2)) (Ext.notIn e1 hx) rw2⟩⟩
  exact (fv.ext (Ext.upd hd)).ext (Ext.upd (by rw [upd_ne hne.symm]; exact hx))
end
end K4
end
section
set_option Elab.async false
set_option linter.all false
set_option maxRecDepth 100000
set_option maxHeartbeats 4000000
/-! The walks, 7: the errors, powers of rows. -/
namespace K4
open PySem PySem.Spec PyProof.Rows L2 K04
/-- C(v): the two fields -/
def spErr2 (K : Frag) (C : Addr) (f : Str) (c : Str) : Sp := fun vs H Q _ => ∃ a v, vs = [.ref a, v] ∧ H a = some (exo a C none) ∧ ∀ d, H d = none → d ≠ a → Q .non (upd (upd (upd H d (exd d [(f, v)])) a (exo a C (some d))) d (exd d [("code", .str c), (f, v)]))
def spErr1 (K : Frag) (C : Addr) (c : Str) : Sp := fun vs H Q _ => ∃ a, vs = [.ref a] ∧ H a = some (exo a C none) ∧ ∀ d, H d = none → d ≠ a → Q .non (upd (upd H d (exd d [("code", .str c)])) a (exo a C (some d)))
/-- no fraction, as is_fraction tells it -/
def OddV (K : Frag) (H : Hp) (v : V) : Prop := (∃ n d, Pr K H v n d ∧ (decide (1 ≤ d) && decide (((Nat.gcd n.natAbs d.natAbs : Nat) : Int) = 1)) = false) ∨ NoFr K H v
/-- a power's number, within the bounds -/
abbrev Tb (t : Rat) : Prop := Sq 300 300 t
def spPow (K : Frag) : Sp := fun vs H Q E => ∃ r x l, vs = [.ref r, x] ∧ RowAt K H r l ∧
  ((l.getD 0 0 = 1 ∧ ∃ t, Fr K H x t ∧ Ok l ∧ Ok (powL t l) ∧ Tb t ∧ ∀ v H', Ext H H' → H v = none → RowAt K H' v (powL t l) → Q (.ref v) H') ∨
   (l.getD 0 0 = 1 ∧ OddV K H x ∧ ∀ d H', Ext H H' → H d = none → H' d = some (.xd [("code", .str "InvalidNumber"), ("value", x)]) → E (.ref (cInv K)) (some d) H') ∨
   (l.getD 0 0 ≠ 1 ∧ ∀ y d H', Ext H H' → H d = none → Fr K H' y (l.getD 0 0) → H' d = some (.xd [("code", .str "NotOne"), ("first", y)]) → E (.ref (cNot K)) (some d) H'))
def spLog (K : Frag) : Sp := fun vs H Q E => ∃ r l, vs = [.ref r] ∧ RowAt K H r l ∧
  ((l.getD 0 0 = 1 ∧ Ok l ∧ Ok (logL l) ∧ ∀ v H', Ext H H' → H v = none → RowAt K H' v (logL l) → Q (.ref v) H') ∨
   (l.getD 0 0 ≠ 1 ∧ ∀ y d H', Ext H H' → H d = none → Fr K H' y (l.getD 0 0) → H' d = some (.xd [("code", .str "NotOne"), ("first", y)]) → E (.ref (cNot K)) (some d) H'))
def spRec (K : Frag) : Sp := fun vs H Q E => ∃ r l, vs = [.ref r] ∧ RowAt K H r l ∧
  ((l.getD 0 0 ≠ 0 ∧ Ok l ∧ Ok (recL l) ∧ Sz (l.getD 0 0).num 5000 ∧ ∀ v H', Ext H H' → H v = none → RowAt K H' v (recL l) → Q (.ref v) H') ∨
   (l.getD 0 0 = 0 ∧ ∀ d H', Ext H H' → H d = none → H' d = some (.xd [("code", .str "DividedByZero")]) → E (.ref (cDiv K)) (some d) H'))
theorem sm_pow {t : Rat} {l : List Rat} (hl : Ok l) (hp : Ok (powL t l)) (ht : Tb t) {n j : Nat} (hn : n < l.length) (hj : j ≤ n) : Sm (sumN j (powTerm t (ser l).c (Ser.pw t (ser l)).c n)) := by
  obtain ⟨h16, Du, h1, h2, h3⟩ := hl
  obtain ⟨_, Dp, k1, k2, k3⟩ := hp
  have len : (powL t l).length = l.length := powL_len t l
  have kp : ∀ i, i < l.length → Bz Dp (2 ^ 20000) ((Ser.pw t (ser l)).c i) := fun i hi => by
    rw [← sc_pow (l := l) rfl i hi]
    exact k3 i (by omega)
  have z : Bz (t.den * (Du * Dp)) (j * ((t.num.natAbs * n + n * t.den) * (2 ^ 20000 * 2 ^ 20000))) (sumN j (powTerm t (ser l).c (Ser.pw t (ser l)).c n)) := by
    refine Bz.sum fun i hi => ?_
    unfold powTerm
    refine Bz.mul ?_ ((h3 (i + 1) (by omega)).mul (kp (n - (i + 1)) (by omega)))
    refine Bz.add ?_ ?_
    · have z := (Bz.self t).mul (Bz.nat (i + 1))
      rw [Nat.mul_one] at z
      exact z.mono (Nat.mul_le_mul (Nat.le_refl _) (by omega))
    · have z := (Bz.int (((i + 1 : Nat) : Int) - ((n : Nat) : Int))).up t.den
      rw [Nat.one_mul, Rat.intCast_sub, Rat.intCast_natCast, Rat.intCast_natCast] at z
      exact z.mono (Nat.mul_le_mul (by omega) (Nat.le_refl _))
  have n4 : n ≤ 2 ^ 4 := by have : (2 : Nat) ^ 4 = 16 := rfl; omega
  have j4 : j ≤ 2 ^ 4 := by have : (2 : Nat) ^ 4 = 16 := rfl; omega
  exact bz_sm z (Nat.mul_pos t.den_pos (Nat.mul_pos h1 k1)) (mle ht.1 (mle h2 k2)) (mle j4 (mle (ale (c := 304) (mle ht.2 n4) (Nat.le_trans (mle n4 ht.1) (pl (by omega)))) (mle (Nat.le_refl _) (Nat.le_refl _))))
theorem sm_prod {l m : List Rat} (hl : Ok l) (hm : Ok m) {i j : Nat} (hi : i < l.length) (hj : j < m.length) : Sm (l.getD i 0 * m.getD j 0) := by
  obtain ⟨_, Du, h1, h2, h3⟩ := hl
  obtain ⟨_, Dp, k1, k2, k3⟩ := hm
  exact bz_sm ((h3 i hi).mul (k3 j hj)) (Nat.mul_pos h1 k1) (mle h2 k2) (mle (Nat.le_refl _) (Nat.le_refl _))
section
variable {P : Program} {w : World} {K : Frag} {mg : Str → Option Value} {base : Heap}
theorem sc_InvalidNumber_init : FnScope ["self", "value"] ["self", "value"] (defScope m_InvalidNumber_init) := sc_by (by decide +kernel)
theorem ok_inv (T : Tx K mg) : ∃ fd ps, CaM P w K mg base CX0 1 (He.ma K (cInv K) "__init__") (spErr2 K (cInv K) "value" "InvalidNumber") fd ps := by
  refine cam_of0 T.d_InvalidNumber_init sc_InvalidNumber_init (fun vs H Q E h => ?_) (fun _ _ _ _ _ _ us hl => match us, hl with | [_, _], _ => rfl) fun cdv A outer s H vs Q E hr h => ?_
  · obtain ⟨_, _, rfl, _⟩ := h
    rfl
  obtain ⟨a, v, rfl, ha, hq⟩ := h
  refine ⟨_, (pss_cons (ps_ost (pv 0) (pv 1))
    (pss_one (ps_ost (pv 0) pe_str))), ?_⟩
  refine ⟨_, rfl, _, rfl, a, cInv K, rfl, T.e_InvalidNumber, T.n_InvalidNumber_value, .inl ⟨ha, fun d hd hne => ?_⟩⟩
  exact ⟨_, rfl, a, cInv K, rfl, T.e_InvalidNumber, T.n_InvalidNumber_code, .inr ⟨d, _, upd_same, by rw [upd_ne hne]; exact upd_same, by show 1 ≤ 900; decide, hq d hd hne⟩⟩
theorem sc_NotOne_init : FnScope ["self", "first"] ["self", "first"] (defScope m_NotOne_init) := sc_by (by decide +kernel)
theorem ok_not (T : Tx K mg) : ∃ fd ps, CaM P w K mg base CX0 1 (He.ma K (cNot K) "__init__") (spErr2 K (cNot K) "first" "NotOne") fd ps := by
  refine cam_of0 T.d_NotOne_init sc_NotOne_init (fun vs H Q E h => ?_) (fun _ _ _ _ _ _ us hl => match us, hl with | [_, _], _ => rfl) fun cdv A outer s H vs Q E hr h => ?_
  · obtain ⟨_, _, rfl, _⟩ := h
    rfl
  obtain ⟨a, v, rfl, ha, hq⟩ := h
  refine ⟨_, (pss_cons (ps_ost (pv 0) (pv 1))
    (pss_one (ps_ost (pv 0) pe_str))), ?_⟩
  refine ⟨_, rfl, _, rfl, a, cNot K, rfl, T.e_NotOne, T.n_NotOne_first, .inl ⟨ha, fun d hd hne => ?_⟩⟩
  exact ⟨_, rfl, a, cNot K, rfl, T.e_NotOne, T.n_NotOne_code, .inr ⟨d, _, upd_same, by rw [upd_ne hne]; exact upd_same, by show 1 ≤ 900; decide, hq d hd hne⟩⟩
theorem sc_DividedByZero_init : FnScope ["self"] ["self"] (defScope m_DividedByZero_init) := sc_by (by decide +kernel)
theorem ok_div (T : Tx K mg) : ∃ fd ps, CaM P w K mg base CX0 1 (He.ma K (cDiv K) "__init__") (spErr1 K (cDiv K) "DividedByZero") fd ps := by
  refine cam_of0 T.d_DividedByZero_init sc_DividedByZero_init (fun vs H Q E h => ?_) (fun _ _ _ _ _ _ us hl => match us, hl with | [_], _ => rfl) fun cdv A outer s H vs Q E hr h => ?_
  · obtain ⟨_, rfl, _⟩ := h
    rfl
  obtain ⟨a, rfl, ha, hq⟩ := h
  refine ⟨_, (pss_one (ps_aeo (pv 0) pe_str)), ?_⟩
  exact ⟨_, rfl, a, cDiv K, rfl, T.e_DividedByZero, T.tk_Div, ha, fun d hd hne => hq d hd hne⟩
/-- the heap behind the making of an error -/
theorem ext_err {H : Hp} {a d : Addr} {C : Addr} {fs fs' : List (Str × V)} {o : HO} (ha : H a = none) (hd0 : upd H a o d = none) (hne : d ≠ a) {H2 : Hp} (e : ∀ b u, H b = some u → H2 b = some u) : Ext H (upd (L2.del H2 a) d (.xd fs)) := fun b u hb => by
  have n1 := ne_of_none hb ha
  have hd : H d = none := by rw [upd_ne hne] at hd0; exact hd0
  have n2 := ne_of_none hb hd
  rw [upd_ne n2, L2.del_ne n1]
  exact e b u hb
/-- what raising C(v) asks -/
theorem mk2 {K : Frag} {C : Addr} {f c : Str} {v : V} {H : Hp} {Q : XK} (h : ∀ d H', Ext H H' → H d = none → H' d = some (.xd [("code", .str c), (f, v)]) → Q (.ref C) (some d) H') : ∀ a, H a = none → spErr2 K C f c (.ref a :: ([v] ++ [])) (upd H a (exo a C none))
    (fun u H2 => u = .non ∧ ∃ (d : Addr) (fs : List (Str × V)), H2 a = some (exo a C (some d)) ∧ H2 d = some (exd d fs) ∧ H d = none ∧ Q (.ref C) (some d) (upd (L2.del H2 a) d (.xd fs))) (fun _ _ _ => False) := fun a ha => by
  refine ⟨a, v, rfl, upd_same, fun d hd hne => ⟨rfl, d, _, by rw [upd_ne hne.symm]; exact upd_same, upd_same, by rw [upd_ne hne] at hd; exact hd, h d _ ?_ (by rw [upd_ne hne] at hd; exact hd) upd_same⟩⟩
  refine ext_err (C := C) (fs' := []) ha hd hne fun b u hb => ?_
  have n1 := ne_of_none hb ha
  have n2 : b ≠ d := by rw [upd_ne hne] at hd; exact ne_of_none hb hd
  rw [upd_ne n2, upd_ne n1, upd_ne n2, upd_ne n1]
  exact hb
theorem mk1 {K : Frag} {C : Addr} {c : Str} {H : Hp} {Q : XK} (h : ∀ d H', Ext H H' → H d = none → H' d = some (.xd [("code", .str c)]) → Q (.ref C) (some d) H') : ∀ a, H a = none → spErr1 K C c [.ref a] (upd H a (exo a C none))
    (fun u H2 => u = .non ∧ ∃ (d : Addr) (fs : List (Str × V)), H2 a = some (exo a C (some d)) ∧ H2 d = some (exd d fs) ∧ H d = none ∧ Q (.ref C) (some d) (upd (L2.del H2 a) d (.xd fs))) (fun _ _ _ => False) := fun a ha => by
  refine ⟨a, rfl, upd_same, fun d hd hne => ⟨rfl, d, _, upd_same, by rw [upd_ne hne]; exact upd_same, by rw [upd_ne hne] at hd; exact hd, h d _ ?_ (by rw [upd_ne hne] at hd; exact hd) upd_same⟩⟩
  refine ext_err (C := C) (fs' := []) ha hd hne fun b u hb => ?_
  have n1 := ne_of_none hb ha
  have n2 : b ≠ d := by rw [upd_ne hne] at hd; exact ne_of_none hb hd
  rw [upd_ne n1, upd_ne n2, upd_ne n1]
  exact hb
end
end K4
end
section
set_option Elab.async false
set_option linter.all false
set_option maxRecDepth 100000
set_option maxHeartbeats 4000000
/-! The walks, 8: powers, logs, reciprocals of rows. -/
namespace K4
open PySem PySem.Spec PyProof.Rows L2 K04
theorem Ok.len {l : List Rat} (h : Ok l) : l.length ≤ 16 := h.1
theorem snocT {K : Frag} {H : Hp} {xs : List V} {n : Nat} {f : Ser} {x : V} (h : Frs K H xs (toL n f)) (fx : Fr K H x (f.c n)) : Frs K H (xs ++ [x]) (toL (n + 1) f) := by
  rw [toL_succ]
  exact h.snoc fx
theorem NoFr.ext {K : Frag} {H H' : Hp} {v : V} (h : NoFr K H v) (e : Ext H H') : NoFr K H' v := by
  rcases h with ⟨k, hk, n⟩ | ⟨a, xs, rfl, sq, h⟩
  · exact .inl ⟨k, hk.ext e, n⟩
  · refine .inr ⟨a, xs, rfl, sq.ext e, ?_⟩
    rcases h with h | ⟨x, y, kx, ky, rfl, h1, h2, h3⟩
    · exact .inl h
    · exact .inr ⟨x, y, kx, ky, rfl, h1.ext e, h2.ext e, h3⟩
section
variable {P : Program} {w : World} {K : Frag} {mg : Str → Option Value} {base : Heap}
theorem sc_row_power : FnScope ["row", "t", "numbers", "result", "place", "total", "at", "factor"] ["row", "t"] (defScope s_row_power) := sc_by (by decide +kernel)
theorem okp_row_power (T : Tx K mg) : CaP P w K mg base (L2.CX P w) 7 "row_power" ["row", "t"] (spPow K) := by
  have c_is_fraction := ok_is_fraction (P := P) (w := w) (base := base) T
  have c_product_of := ok_product_of (P := P) (w := w) (base := base) T
  have c_add_product := ok_add_product (P := P) (w := w) (base := base) T
  have c_ratio := ok_ratio (P := P) (w := w) (base := base) T
  obtain ⟨fd1, ps1, Ri⟩ := ok_Row_init (P := P) (w := w) (base := base) T
  obtain ⟨fd2, ps2, Rn⟩ := ok_numbers (P := P) (w := w) (base := base) T
  obtain ⟨fd3, ps3, In⟩ := ok_not (P := P) (w := w) (base := base) T
  obtain ⟨fd4, ps4, Iv⟩ := ok_inv (P := P) (w := w) (base := base) T
  refine cap_of T.d_row_power T.g_row_power sc_row_power (fun vs H Q E h => ?_) (fun _ _ _ _ _ _ us hl => match us, hl with | [_, _], _ => rfl) fun cdv A outer s H vs Q E hr h => ?_
  · obtain ⟨_, _, _, rfl, _⟩ := h
    rfl
  obtain ⟨r, x, l, rfl, rl, h⟩ := h
  obtain ⟨dx, a, g, hin, fl, h3, h16⟩ := id rl
  refine ⟨_, (pss_cons (ps_set (i := 2) sc_row_power.nd rfl (Or.inl rfl) (pe_meth0 (pv 0) T.c_Row T.m_numbers Rn.ok (hr.mono (by decide)) Rn.b .nil pass0))
    (pss_cons (ps_if (pt_cmpR (op_neF (hrU hr)) (pe_fl (pv 2) pe_int) (pe_gref (by rfl) T.g_ONE) (nomark _)) (pss_one (ps_raise rfl (takes_of rfl rfl rfl rfl) (pmk_oex T.e_NotOne T.in_NotOne T.ty_NotOne In.ok (hr.mono (by decide)) In.b .nil pass0 (by rfl) T.g_NotOne (pa_cons (pe_fl (pv 2) pe_int) pa_nil)))) pss_nil)
    (pss_cons (ps_if (pt_not (pt_val (pe_ca c_is_fraction hr (by decide) pass0 (pa_cons (pv 1) pa_nil)))) (pss_one (ps_raise rfl (takes_of rfl rfl rfl rfl) (pmk_oex T.e_InvalidNumber T.in_InvalidNumber T.ty_InvalidNumber Iv.ok (hr.mono (by decide)) Iv.b .nil pass0 (by rfl) T.g_InvalidNumber (pa_cons (pv 1) pa_nil)))) pss_nil)
    (PSs.nox (pss_cons (ps_set (i := 3) sc_row_power.nd rfl (Or.inl rfl) (pe_lst (pa_cons (pe_gref (by rfl) T.g_ONE) pa_nil)))
    (pss_cons (ps_for PassesOwn.never rfl (pi_range2 (by rfl) T.f_range (pa_cons pe_int (pa_cons (pe_callB call_len_seq (by rfl) T.f_len PySem.boot_len (pa_cons (pv 2) pa_nil)) pa_nil))) (pg_name (i := 4) sc_row_power.nd rfl (Or.inl rfl) (Or.inr rfl)) (pss_cons (ps_set (i := 5) sc_row_power.nd rfl (Or.inl rfl) (pe_gref (by rfl) T.g_ZERO))
    (pss_cons (ps_for PassesOwn.never rfl (pi_range2 (by rfl) T.f_range (pa_cons pe_int (pa_cons (pe_op op_add (pv 4) pe_int) pa_nil))) (pg_name (i := 6) sc_row_power.nd rfl (Or.inl rfl) (Or.inr rfl)) (pss_cons (ps_set (i := 7) sc_row_power.nd rfl (Or.inl rfl) (pe_tup (pa_cons (pe_op op_add (pe_op op_mulW (pe_p0 (pv 1)) (pv 6)) (pe_op op_mulW (pe_p1 (pv 1)) (pe_op op_sub (pv 6) (pv 4)))) (pa_cons (pe_p1 (pv 1)) pa_nil))))
    (pss_one (ps_set (i := 5) sc_row_power.nd rfl (Or.inl rfl) (pe_ca c_add_product hr (by decide) pass0 (pa_cons (pv 5) (pa_cons (pv 7) (pa_cons (pe_ca c_product_of hr (by decide) pass0 (pa_cons (pe_fl (pv 2) (pv 6)) (pa_cons (pe_fl (pv 3) (pe_op op_sub (pv 4) (pv 6))) pa_nil))) pa_nil))))))))
    (pss_one (ps_expr (pe_bm PySem.F.plainAttrs_list PySem.F.slot_list_append PySem.F.type_list_append mt_append (pv 3) (pa_cons (pe_ca c_ratio hr (by decide) pass0 (pa_cons (pe_p0 (pv 5)) (pa_cons (pe_op op_mulW (pe_p1 (pv 5)) (pv 4)) pa_nil))) pa_nil)))))))
    (pss_one (ps_ret (pe_make T.k_Row Ri.ok (hr.mono (by decide)) (by rfl) T.g_Row Ri.b .nil pass0 (pa_cons (pv 3) pa_nil)))))))))), ?_⟩
  refine ⟨_, rfl, r, dx, _, rfl, hin, rfl, r, l, rfl, rl, fun n H1 e1 nn fn => ?_⟩
  refine ⟨_, rfl, n, l, 0, rfl, rfl, fn, by omega, fun z fz => ⟨_, 1, fz, fr_one T H1, _, rfl, ?_⟩⟩
  rcases h with ⟨h0, t, ft, ol, op, tb, hq⟩ | ⟨h0, ov, he⟩ | ⟨h0, he⟩
  case inr.inr =>
    rw [decide_eq_false h0]
    refine iteT ⟨_, rfl, n, l, 0, rfl, rfl, fn, by omega, fun z fz => ⟨by show 1 ≤ 1000; decide, ?_⟩⟩
    exact mk2 (K := K) fun d H' e nd hd => he z d H' (e1.trans e) (Ext.notIn e1 nd) (fz.ext e) hd
  case inr.inl =>
    rw [decide_eq_true h0]
    refine iteF ⟨_, rfl, x, rfl, ?_⟩
    rcases ov with ⟨m, k, pr, hv⟩ | nf
    · refine .inl ⟨m, k, pr.ext e1, _, rfl, ?_⟩
      rw [hv]
      refine iteT ⟨_, rfl, by show 1 ≤ 1000; decide, ?_⟩
      exact mk2 (K := K) fun d H' e nd hd => he d H' (e1.trans e) (Ext.notIn e1 nd) hd
    · refine .inr ⟨NoFr.ext nf e1, _, rfl, ?_⟩
      refine iteT ⟨_, rfl, by show 1 ≤ 1000; decide, ?_⟩
      exact mk2 (K := K) fun d H' e nd hd => he d H' (e1.trans e) (Ext.notIn e1 nd) hd
  case inl =>
    rw [decide_eq_true h0]
    refine iteF ⟨_, rfl, x, rfl, .inl ⟨_, _, (ft.ext e1).pr, _, rfl, ?_⟩⟩
    rw [isF_val t]
    refine iteF ⟨lenOk (by show 1 ≤ 1000; decide), fun D hD => ?_⟩
    have eD := Ext.upd (o := .lst [V.ref (He.ga K "ONE")]) hD
    have fn2 := fn.ext eD
    obtain ⟨xs, sq, fs⟩ := id fn2
    refine ⟨_, rfl, n, xs, rfl, .inl sq, 1, (xs.length : Int), rfl, ⟨by omega, by omega, by have := fs.1; omega, by have := fs.1; omega⟩, ?_⟩
    rw [fs.1]
    let p : Ser := Ser.pw t (ser l)
    have p0 : p.c 0 = 1 := by show (Ser.pw t (ser l)).c 0 = 1; rw [Ser.pw_eq]; rfl
    refine for_it walk_range (fun i σ H' => (∃ o4 o5 o6 o7, σ = [some (.ref r), some x, some (.ref n), some (.ref D), o4, o5, o6, o7]) ∧ Ext H1 H' ∧ ∃ acc, H' D = some (.lst acc) ∧ Frs K H' acc (toL (i + 1) p)) ⟨⟨_, _, _, _, rfl⟩, eD, _, upd_same, ?_⟩ (fun i σ H' _ z => trivial) (fun i x1 σ H2 H3 hi z y => ?_) (fun σ H' z => ?_)
    · exact Frs.cons (by rw [p0]; exact fr_one T _) .nil
    · obtain ⟨⟨o4, o5, o6, o7, rfl⟩, e2, acc, hacc, facc⟩ := z
      obtain ⟨rfl, rfl⟩ := y
      have hi' : i + 1 < l.length := by omega
      refine ⟨_, rfl, _, _, rfl, rfl, 1, 1 + (i : Int) + 1, rfl, ⟨by omega, by omega, by omega, by omega⟩, ?_⟩
      have cnt : (1 + (i : Int) + 1 - 1).toNat = i + 1 := by omega
      rw [cnt]
      refine for_it walk_range (fun j σ H' => (∃ tv o6 o7, σ = [some (.ref r), some x, some (.ref n), some (.ref D), some (.int (1 + (i : Int))), some tv, o6, o7] ∧ Pq K H' tv (sumN j (powTerm t (ser l).c p.c (i + 1)))) ∧ Ext H1 H' ∧ H' D = some (.lst acc) ∧ Frs K H' acc (toL (i + 1) p)) ⟨⟨_, _, _, rfl, (fr_zero T _).pq ⟨pp _, Nat.zero_le _⟩⟩, e2, hacc, facc⟩ (fun i σ H' _ z => trivial) (fun j x1 σ H4 H5 hj z y => ?_) (fun σ H' z => ?_)
      · obtain ⟨⟨tv, o6, o7, rfl, ptv⟩, e4, hacc4, facc4⟩ := z
        obtain ⟨rfl, rfl⟩ := y
        have ft4 := (ft.ext (e1.trans e4)).pr
        have sa : Sz (1 + (j : Int)) 5 := by unfold Sz; have : (2 : Nat) ^ 5 = 32 := rfl; omega
        have sb : Sz (1 + (j : Int) - (1 + (i : Int))) 5 := by unfold Sz; have : (2 : Nat) ^ 5 = 32 := rfl; omega
        have sn : Sz t.num 300 := tb.2
        have sd : Sz (t.den : Int) 300 := by unfold Sz; rw [Int.natAbs_natCast]; exact tb.1
        refine ⟨_, rfl, rfl, _, _, ft4, _, rfl, _, _, rfl, rfl, sn.cmul sa, ?_⟩
        refine ⟨_, rfl, rfl, _, _, ft4, _, rfl, _, rfl, _, _, rfl, rfl, _, _, rfl, rfl, sd.cmul sb, ?_⟩
        refine ⟨_, _, rfl, rfl, _, rfl, rfl, _, _, ft4, lenOk (by show 2 ≤ 1000; decide), fun f hf => ?_⟩
        have ef := Ext.upd (o := .tup [V.int (t.num * (1 + (j : Int)) + (t.den : Int) * (1 + (j : Int) - (1 + (i : Int)))), V.int (t.den : Int)]) hf
        have e5 := e4.trans ef
        let fq : Rat := t * ((j + 1 : Nat) : Rat) + (((j + 1 : Nat) : Rat) - ((i + 1 : Nat) : Rat))
        have pf : Pq K (upd H5 f (.tup [V.int (t.num * (1 + (j : Int)) + (t.den : Int) * (1 + (j : Int) - (1 + (i : Int)))), V.int (t.den : Int)])) (.ref f) fq := by
          refine ⟨_, _, Pr.of upd_same, by have := t.den_pos; omega, ?_, ?_, sd.mono (by omega)⟩
          · have e1 : ((1 + (j : Int) : Int) : Rat) = ((j + 1 : Nat) : Rat) := by
              rw [← Rat.intCast_natCast]; congr 1; omega
            have e2 : ((1 + (i : Int) : Int) : Rat) = ((i + 1 : Nat) : Rat) := by
              rw [← Rat.intCast_natCast]; congr 1; omega
            rw [Rat.intCast_add, Rat.intCast_mul, Rat.intCast_mul, Rat.intCast_sub, e1, e2, ← mulDen t, Rat.intCast_natCast]
            show _ = (t * ((j + 1 : Nat) : Rat) + (((j + 1 : Nat) : Rat) - ((i + 1 : Nat) : Rat))) * (t.den : Rat)
            grind
          · exact (Sz.add (n := 305) ((sn.mul sa).mono (by omega)) ((sd.mul sb).mono (by omega))).mono (by omega)
        have hj' : j + 1 < l.length := by omega
        refine ⟨_, rfl, _, rfl, _, rfl, _, rfl, n, l, j + 1, rfl, congrArg V.int (by omega), fn.ext e5, hj', fun z1 fz1 => ?_⟩
        refine ⟨_, rfl, _, rfl, _, rfl, _, _, rfl, rfl, D, _, i - j, rfl, congrArg V.int (by omega), FL.of (ef _ _ hacc4) (facc4.ext ef), by rw [toL_len]; omega, fun z2 fz2 => ?_⟩
        rw [toL_D (by omega)] at fz2
        have s1 : Sm (l.getD (j + 1) 0) := ol.at hj'
        have pk : ∀ k, k < l.length → (powL t l).getD k 0 = p.c k := fun k hk => sc_pow (l := l) (t := t) rfl k hk
        have s2 : Sm (p.c (i - j)) := by rw [← pk (i - j) (by omega)]; exact op.at (by rw [powL_len]; omega)
        have s3 : Sm (l.getD (j + 1) 0 * p.c (i - j)) := by rw [← pk (i - j) (by omega)]; exact sm_prod ol op hj' (by rw [powL_len]; omega)
        refine ⟨z1, z2, _, _, rfl, fz1.pq s1, fz2.pq s2, fun v H6 e6 fv => ?_⟩
        have st : sumN (j + 1) (powTerm t (ser l).c p.c (i + 1)) = sumN j (powTerm t (ser l).c p.c (i + 1)) + fq * (l.getD (j + 1) 0 * p.c (i - j)) := by
          have : i + 1 - (j + 1) = i - j := by omega
          show _ + powTerm t (ser l).c p.c (i + 1) j = _
          unfold powTerm
          rw [this]
          rfl
        refine ⟨tv, .ref f, v, _, _, _, rfl, ptv.ext (ef.trans e6), pf.ext e6, fv.pq s3, by rw [← st]; exact sm_pow ol op tb hi' (by omega), fun v7 H7 e7 pv7 _ => ?_⟩
        rw [← st] at pv7
        exact ⟨⟨v7, _, _, rfl, pv7⟩, (e5.trans e6).trans e7, e7 _ _ (e6 _ _ (ef _ _ hacc4)), facc4.ext ((ef.trans e6).trans e7)⟩
      · obtain ⟨⟨tv, o6, o7, rfl, ⟨m, k, pr, k0, em, sm, sk⟩⟩, e4, hacc4, facc4⟩ := z
        have sp : Sz (1 + (i : Int)) 5 := by unfold Sz; have : (2 : Nat) ^ 5 = 32 := rfl; omega
        have kp : 0 < k * (1 + (i : Int)) := Int.mul_pos k0 (by omega)
        refine ⟨_, rfl, .inl ⟨rfl, _, SqL.of hacc4⟩, _, rfl, rfl, m, k, pr, _, rfl, rfl, m, k, pr, _, rfl, _, _, rfl, rfl, sk.cmul sp, ?_⟩
        refine ⟨_, _, rfl, by omega, (sk.mul sp).mono (by omega), fun v H6 e6 fv => ?_⟩
        have hacc6 := e6 _ _ hacc4
        refine ⟨D, acc, v, rfl, rfl, hacc6, lenLt (by rw [facc4.1, toL_len]; omega), ⟨_, _, _, _, rfl⟩, ext_lst (e4.trans e6) hD, _, upd_same, ?_⟩
        refine snocT ((facc4.ext e6).mvL hacc6) ?_
        have val : Rat.divInt m (k * (1 + (i : Int))) = p.c (i + 1) := by
          have e1 : ((1 + (i : Int) : Int) : Rat) = ((i + 1 : Nat) : Rat) := by
            rw [← Rat.intCast_natCast]; congr 1; omega
          have hp : p.c (i + 1) = sumN (i + 1) (powTerm t (ser l).c p.c (i + 1)) / ((i + 1 : Nat) : Rat) := by
            show (Ser.pw t (ser l)).c (i + 1) = _
            rw [Ser.pw_eq]; unfold powSt; rw [if_neg (by omega)]
          refine divInt_val (by omega) ?_
          have := Ser.natNe (i + 1) (by omega)
          rw [hp, Rat.intCast_mul, e1, em]; grind
        rw [val] at fv
        exact fv.mvL hacc6
    · obtain ⟨⟨o4, o5, o6, o7, rfl⟩, e2, acc, hacc, facc⟩ := z
      have cnt : ((l.length : Int) - 1).toNat + 1 = l.length := by omega
      rw [cnt] at facc
      refine ⟨_, rfl, fun y d hy hd hne => ?_⟩
      have fD : FL K H' D (powL t l) := FL.of hacc facc
      refine ⟨y, d, D, _, rfl, upd_same, (fD.ext (Ext.upd hd)).ext (Ext.upd (by rw [upd_ne hne.symm]; exact hy)), by rw [powL_len]; exact h3, by rw [powL_len]; exact h16, fun H6 e6 rw6 => ⟨rfl, hq _ _ ((e1.trans e2).trans (ext_made hy hd e6)) (Ext.notIn (e1.trans e2) hy) rw6⟩⟩
theorem ok_row_power (T : Tx K mg) : Ca P w K mg base (L2.CX P w) 7 "row_power" (spPow K) := (okp_row_power T).ca
end
end K4
end
section
set_option Elab.async false
set_option linter.all false
set_option maxRecDepth 100000
set_option maxHeartbeats 4000000
/-! The walks, 9: logs, reciprocals of rows. -/
namespace K4
open PySem PySem.Spec PyProof.Rows L2 K04
theorem i1 (i : Nat) : ((1 + (i : Int) : Int) : Rat) = ((i + 1 : Nat) : Rat) := by
  rw [← Rat.intCast_natCast]; congr 1; omega
theorem sm_log {l : List Rat} (hl : Ok l) (hp : Ok (logL l)) {n j : Nat} (hn : n < l.length) (hj : j < n) : Sm ((ser l).c n * (n : Rat) + sumN j (logTerm (ser l).c (Ser.lg (ser l)).c n)) := by
  obtain ⟨h16, Du, h1, h2, h3⟩ := hl
  obtain ⟨_, Dp, k1, k2, k3⟩ := hp
  have len : (logL l).length = l.length := logL_len l
  have kp : ∀ i, i < l.length → Bz Dp (2 ^ 20000) ((Ser.lg (ser l)).c i) := fun i hi => by
    rw [← sc_log (l := l) rfl i hi]
    exact k3 i (by omega)
  have z1 : Bz (Du * Dp) (2 ^ 20000 * n * Dp) ((ser l).c n * (n : Rat)) := by
    have z := ((h3 n hn).mul (Bz.nat n)).up Dp
    rw [Nat.mul_one] at z
    exact z
  have z2 : Bz (Du * Dp) (j * (n * 2 ^ 20000 * 2 ^ 20000)) (sumN j (logTerm (ser l).c (Ser.lg (ser l)).c n)) := by
    refine Bz.sum fun i hi => ?_
    unfold logTerm
    have z := (((Bz.nat (i + 1)).neg.mul (kp (i + 1) (by omega))).mul (h3 (n - (i + 1)) (by omega)))
    rw [Nat.one_mul, Nat.mul_comm Dp Du] at z
    exact z.mono (Nat.mul_le_mul (Nat.mul_le_mul (by omega) (Nat.le_refl _)) (Nat.le_refl _))
  have n4 : n ≤ 2 ^ 4 := by have : (2 : Nat) ^ 4 = 16 := rfl; omega
  have j4 : j ≤ 2 ^ 4 := by have : (2 : Nat) ^ 4 = 16 := rfl; omega
  exact bz_sm (z1.add z2) (Nat.mul_pos h1 k1) (mle h2 k2) (ale (c := 50000) (Nat.le_trans (mle (mle (Nat.le_refl _) n4) k2) (pl (by omega))) (Nat.le_trans (mle j4 (mle (mle n4 (Nat.le_refl _)) (Nat.le_refl _))) (pl (by omega))))
theorem sm_rec {l : List Rat} (hl : Ok l) (hp : Ok (recL l)) {n j : Nat} (hn : n < l.length) (hj : j ≤ n) : Sm (sumN j (recTerm (ser l).c (Ser.rc (ser l)).c n)) := by
  obtain ⟨h16, Du, h1, h2, h3⟩ := hl
  obtain ⟨_, Dp, k1, k2, k3⟩ := hp
  have len : (recL l).length = l.length := recL_len l
  have kp : ∀ i, i < l.length → Bz Dp (2 ^ 20000) ((Ser.rc (ser l)).c i) := fun i hi => by
    rw [← sc_rec (l := l) rfl i hi]
    exact k3 i (by omega)
  have z2 : Bz (Du * Dp) (j * (2 ^ 20000 * 2 ^ 20000)) (sumN j (recTerm (ser l).c (Ser.rc (ser l)).c n)) := by
    refine Bz.sum fun i hi => ?_
    unfold recTerm
    exact (h3 (i + 1) (by omega)).mul (kp (n - (i + 1)) (by omega))
  have j4 : j ≤ 2 ^ 4 := by have : (2 : Nat) ^ 4 = 16 := rfl; omega
  exact bz_sm z2 (Nat.mul_pos h1 k1) (mle h2 k2) (mle j4 (mle (Nat.le_refl _) (Nat.le_refl _)))
section
variable {P : Program} {w : World} {K : Frag} {mg : Str → Option Value} {base : Heap}
theorem sc_row_log : FnScope ["row", "numbers", "result", "place", "total", "at", "factor"] ["row"] (defScope s_row_log) := sc_by (by decide +kernel)
theorem okp_row_log (T : Tx K mg) : CaP P w K mg base (L2.CX P w) 7 "row_log" ["row"] (spLog K) := by
  have c_add_product := ok_add_product (P := P) (w := w) (base := base) T
  have c_ratio := ok_ratio (P := P) (w := w) (base := base) T
  obtain ⟨fd1, ps1, Ri⟩ := ok_Row_init (P := P) (w := w) (base := base) T
  obtain ⟨fd2, ps2, Rn⟩ := ok_numbers (P := P) (w := w) (base := base) T
  obtain ⟨fd3, ps3, In⟩ := ok_not (P := P) (w := w) (base := base) T
  refine cap_of T.d_row_log T.g_row_log sc_row_log (fun vs H Q E h => ?_) (fun _ _ _ _ _ _ us hl => match us, hl with | [_], _ => rfl) fun cdv A outer s H vs Q E hr h => ?_
  · obtain ⟨_, _, rfl, _⟩ := h
    rfl
  obtain ⟨r, l, rfl, rl, h⟩ := h
  obtain ⟨dx, a, g, hin, fl, h3, h16⟩ := id rl
  refine ⟨_, (pss_cons (ps_set (i := 1) sc_row_log.nd rfl (Or.inl rfl) (pe_meth0 (pv 0) T.c_Row T.m_numbers Rn.ok (hr.mono (by decide)) Rn.b .nil pass0))
    (pss_cons (ps_if (pt_cmpR (op_neF (hrU hr)) (pe_fl (pv 1) pe_int) (pe_gref (by rfl) T.g_ONE) (nomark _)) (pss_one (ps_raise rfl (takes_of rfl rfl rfl rfl) (pmk_oex T.e_NotOne T.in_NotOne T.ty_NotOne In.ok (hr.mono (by decide)) In.b .nil pass0 (by rfl) T.g_NotOne (pa_cons (pe_fl (pv 1) pe_int) pa_nil)))) pss_nil)
    (PSs.nox (pss_cons (ps_set (i := 2) sc_row_log.nd rfl (Or.inl rfl) (pe_lst (pa_cons (pe_gref (by rfl) T.g_ZERO) pa_nil)))
    (pss_cons (ps_for PassesOwn.never rfl (pi_range2 (by rfl) T.f_range (pa_cons pe_int (pa_cons (pe_callB call_len_seq (by rfl) T.f_len PySem.boot_len (pa_cons (pv 1) pa_nil)) pa_nil))) (pg_name (i := 3) sc_row_log.nd rfl (Or.inl rfl) (Or.inr rfl)) (pss_cons (ps_set (i := 4) sc_row_log.nd rfl (Or.inl rfl) (pe_tup (pa_cons (pe_op op_mulW (pe_p0 (pe_fl (pv 1) (pv 3))) (pv 3)) (pa_cons (pe_p1 (pe_fl (pv 1) (pv 3))) pa_nil))))
    (pss_cons (ps_for PassesOwn.never rfl (pi_range2 (by rfl) T.f_range (pa_cons pe_int (pa_cons (pv 3) pa_nil))) (pg_name (i := 5) sc_row_log.nd rfl (Or.inl rfl) (Or.inr rfl)) (pss_cons (ps_set (i := 6) sc_row_log.nd rfl (Or.inl rfl) (pe_tup (pa_cons (pe_op op_mulW (pe_un un_neg (pv 5)) (pe_p0 (pe_fl (pv 2) (pv 5)))) (pa_cons (pe_p1 (pe_fl (pv 2) (pv 5))) pa_nil))))
    (pss_one (ps_set (i := 4) sc_row_log.nd rfl (Or.inl rfl) (pe_ca c_add_product hr (by decide) pass0 (pa_cons (pv 4) (pa_cons (pv 6) (pa_cons (pe_fl (pv 1) (pe_op op_sub (pv 3) (pv 5))) pa_nil))))))))
    (pss_one (ps_expr (pe_bm PySem.F.plainAttrs_list PySem.F.slot_list_append PySem.F.type_list_append mt_append (pv 2) (pa_cons (pe_ca c_ratio hr (by decide) pass0 (pa_cons (pe_p0 (pv 4)) (pa_cons (pe_op op_mulW (pe_p1 (pv 4)) (pv 3)) pa_nil))) pa_nil)))))))
    (pss_one (ps_ret (pe_make T.k_Row Ri.ok (hr.mono (by decide)) (by rfl) T.g_Row Ri.b .nil pass0 (pa_cons (pv 2) pa_nil))))))))), ?_⟩
  refine ⟨_, rfl, r, dx, _, rfl, hin, rfl, r, l, rfl, rl, fun n H1 e1 nn fn => ?_⟩
  refine ⟨_, rfl, n, l, 0, rfl, rfl, fn, by omega, fun z fz => ⟨_, 1, fz, fr_one T H1, _, rfl, ?_⟩⟩
  rcases h with ⟨h0, ol, op, hq⟩ | ⟨h0, he⟩
  case inr =>
    rw [decide_eq_false h0]
    refine iteT ⟨_, rfl, n, l, 0, rfl, rfl, fn, by omega, fun z fz => ⟨by show 1 ≤ 1000; decide, ?_⟩⟩
    exact mk2 (K := K) fun d H' e nd hd => he z d H' (e1.trans e) (Ext.notIn e1 nd) (fz.ext e) hd
  case inl =>
    rw [decide_eq_true h0]
    refine iteF ⟨lenOk (by show 1 ≤ 1000; decide), fun D hD => ?_⟩
    have eD := Ext.upd (o := .lst [V.ref (He.ga K "ZERO")]) hD
    have fn2 := fn.ext eD
    obtain ⟨xs, sq, fs⟩ := id fn2
    refine ⟨_, rfl, n, xs, rfl, .inl sq, 1, (xs.length : Int), rfl, ⟨by omega, by omega, by have := fs.1; omega, by have := fs.1; omega⟩, ?_⟩
    rw [fs.1]
    let p : Ser := Ser.lg (ser l)
    have p0 : p.c 0 = 0 := by show (Ser.lg (ser l)).c 0 = 0; rw [Ser.lg_eq]; rfl
    have pk : ∀ k, k < l.length → (logL l).getD k 0 = p.c k := fun k hk => sc_log (l := l) rfl k hk
    refine for_it walk_range (fun i σ H' => (∃ o4 o5 o6 o7, σ = [some (.ref r), some (.ref n), some (.ref D), o4, o5, o6, o7]) ∧ Ext H1 H' ∧ ∃ acc, H' D = some (.lst acc) ∧ Frs K H' acc (toL (i + 1) p)) ⟨⟨_, _, _, _, rfl⟩, eD, _, upd_same, ?_⟩ (fun i σ H' _ z => trivial) (fun i x1 σ H2 H3 hi z y => ?_) (fun σ H' z => ?_)
    · exact Frs.cons (by rw [p0]; exact fr_zero T _) .nil
    · obtain ⟨⟨o4, o5, o6, o7, rfl⟩, e2, acc, hacc, facc⟩ := z
      obtain ⟨rfl, rfl⟩ := y
      have hi' : i + 1 < l.length := by omega
      have sp : Sz (1 + (i : Int)) 5 := by unfold Sz; have : (2 : Nat) ^ 5 = 32 := rfl; omega
      have su : Sm (l.getD (i + 1) 0) := ol.at hi'
      refine ⟨_, rfl, _, rfl, n, l, i + 1, rfl, congrArg V.int (by omega), fn.ext e2, hi', fun z1 fz1 => ?_⟩
      refine ⟨rfl, _, _, fz1.pr, _, rfl, _, _, rfl, rfl, su.num.cmul sp, ?_⟩
      refine ⟨_, rfl, _, rfl, n, l, i + 1, rfl, congrArg V.int (by omega), fn.ext e2, hi', fun z2 fz2 => ?_⟩
      refine ⟨rfl, _, _, fz2.pr, lenOk (by show 2 ≤ 1000; decide), fun f hf => ?_⟩
      have ef := Ext.upd (o := .tup [V.int ((l.getD (i + 1) 0).num * (1 + (i : Int))), V.int ((l.getD (i + 1) 0).den : Int)]) hf
      refine ⟨_, rfl, 1, 1 + (i : Int), rfl, ⟨by omega, by omega, by omega, by omega⟩, ?_⟩
      have cnt : (1 + (i : Int) - 1).toNat = i := by omega
      rw [cnt]
      refine for_it walk_range (fun j σ H' => (∃ tv o6 o7, σ = [some (.ref r), some (.ref n), some (.ref D), some (.int (1 + (i : Int))), some tv, o6, o7] ∧ Pq K H' tv ((ser l).c (i + 1) * ((i + 1 : Nat) : Rat) + sumN j (logTerm (ser l).c p.c (i + 1)))) ∧ Ext H1 H' ∧ H' D = some (.lst acc) ∧ Frs K H' acc (toL (i + 1) p)) ⟨⟨_, _, _, rfl, ?_⟩, e2.trans ef, ef _ _ hacc, facc.ext ef⟩ (fun i σ H' _ z => trivial) (fun j x1 σ H4 H5 hj z y => ?_) (fun σ H' z => ?_)
      · refine ⟨_, _, Pr.of upd_same, by have := (l.getD (i + 1) 0).den_pos; omega, ?_, (su.num.mul sp).mono (by omega), su.den.mono (by omega)⟩
        rw [Rat.intCast_mul, i1, ← mulDen, Rat.intCast_natCast]
        show _ = (l.getD (i + 1) 0 * ((i + 1 : Nat) : Rat) + 0) * _
        grind
      · obtain ⟨⟨tv, o6, o7, rfl, ptv⟩, e4, hacc4, facc4⟩ := z
        obtain ⟨rfl, rfl⟩ := y
        have sa : Sz (-(1 + (j : Int))) 5 := by unfold Sz; have : (2 : Nat) ^ 5 = 32 := rfl; omega
        have fl4 : FL K _ D (toL (i + 1) p) := FL.of hacc4 facc4
        have sw : Sm (p.c (j + 1)) := by rw [← pk (j + 1) (by omega)]; exact op.at (by rw [logL_len]; omega)
        refine ⟨_, rfl, _, rfl, _, rfl, _, rfl, D, _, j + 1, rfl, congrArg V.int (by omega), fl4, by rw [toL_len]; omega, fun z1 fz1 => ?_⟩
        rw [toL_D (by omega)] at fz1
        refine ⟨rfl, _, _, fz1.pr, _, _, rfl, rfl, sa.cmul sw.num, ?_⟩
        refine ⟨_, rfl, _, rfl, D, _, j + 1, rfl, congrArg V.int (by omega), fl4, by rw [toL_len]; omega, fun z2 fz2 => ?_⟩
        rw [toL_D (by omega)] at fz2
        refine ⟨rfl, _, _, fz2.pr, lenOk (by show 2 ≤ 1000; decide), fun f2 hf2 => ?_⟩
        have ef2 := Ext.upd (o := .tup [V.int (-(1 + (j : Int)) * (p.c (j + 1)).num), V.int ((p.c (j + 1)).den : Int)]) hf2
        have e5 := e4.trans ef2
        let fq : Rat := -((j + 1 : Nat) : Rat) * p.c (j + 1)
        have pf : Pq K (upd H5 f2 (.tup [V.int (-(1 + (j : Int)) * (p.c (j + 1)).num), V.int ((p.c (j + 1)).den : Int)])) (.ref f2) fq := by
          refine ⟨_, _, Pr.of upd_same, by have := (p.c (j + 1)).den_pos; omega, ?_, (sa.mul sw.num).mono (by omega), sw.den.mono (by omega)⟩
          rw [Rat.intCast_mul, Rat.intCast_neg, i1, ← mulDen (p.c (j + 1)), Rat.intCast_natCast]
          show _ = (-((j + 1 : Nat) : Rat) * p.c (j + 1)) * ((p.c (j + 1)).den : Rat)
          grind
        refine ⟨_, rfl, _, rfl, _, rfl, _, rfl, _, rfl, _, _, rfl, rfl, n, l, i - j, rfl, congrArg V.int (by omega), fn.ext e5, by omega, fun z3 fz3 => ?_⟩
        have s3 : Sm (l.getD (i - j) 0) := ol.at (by omega)
        have st : (ser l).c (i + 1) * ((i + 1 : Nat) : Rat) + sumN (j + 1) (logTerm (ser l).c p.c (i + 1)) = ((ser l).c (i + 1) * ((i + 1 : Nat) : Rat) + sumN j (logTerm (ser l).c p.c (i + 1))) + fq * l.getD (i - j) 0 := by
          have e : i + 1 - (j + 1) = i - j := by omega
          show _ + (_ + logTerm (ser l).c p.c (i + 1) j) = _
          unfold logTerm
          rw [e]
          show _ + (_ + -((j + 1 : Nat) : Rat) * p.c (j + 1) * l.getD (i - j) 0) = _ + (-((j + 1 : Nat) : Rat) * p.c (j + 1)) * l.getD (i - j) 0
          grind
        refine ⟨tv, .ref f2, z3, _, _, _, rfl, ptv.ext ef2, pf, fz3.pq s3, by rw [← st]; exact sm_log ol op hi' (by omega), fun v7 H7 e7 pv7 _ => ?_⟩
        rw [← st] at pv7
        exact ⟨⟨v7, _, _, rfl, pv7⟩, e5.trans e7, e7 _ _ (ef2 _ _ hacc4), facc4.ext (ef2.trans e7)⟩
      · obtain ⟨⟨tv, o6, o7, rfl, ⟨m, k, pr, k0, em, sm, sk⟩⟩, e4, hacc4, facc4⟩ := z
        have kp : 0 < k * (1 + (i : Int)) := Int.mul_pos k0 (by omega)
        refine ⟨_, rfl, .inl ⟨rfl, _, SqL.of hacc4⟩, _, rfl, rfl, m, k, pr, _, rfl, rfl, m, k, pr, _, rfl, _, _, rfl, rfl, sk.cmul sp, ?_⟩
        refine ⟨_, _, rfl, by omega, (sk.mul sp).mono (by omega), fun v H6 e6 fv => ?_⟩
        have hacc6 := e6 _ _ hacc4
        refine ⟨D, acc, v, rfl, rfl, hacc6, lenLt (by rw [facc4.1, toL_len]; omega), ⟨_, _, _, _, rfl⟩, ext_lst (e4.trans e6) hD, _, upd_same, ?_⟩
        refine snocT ((facc4.ext e6).mvL hacc6) ?_
        have val : Rat.divInt m (k * (1 + (i : Int))) = p.c (i + 1) := by
          have hp : p.c (i + 1) = ((ser l).c (i + 1) * ((i + 1 : Nat) : Rat) + sumN i (logTerm (ser l).c p.c (i + 1))) / ((i + 1 : Nat) : Rat) := by
            show (Ser.lg (ser l)).c (i + 1) = _
            rw [Ser.lg_eq]; unfold logSt; rw [if_neg (by omega)]; rfl
          refine divInt_val (by omega) ?_
          have := Ser.natNe (i + 1) (by omega)
          rw [hp, Rat.intCast_mul, i1, em]; grind
        rw [val] at fv
        exact fv.mvL hacc6
    · obtain ⟨⟨o4, o5, o6, o7, rfl⟩, e2, acc, hacc, facc⟩ := z
      have cnt : ((l.length : Int) - 1).toNat + 1 = l.length := by omega
      rw [cnt] at facc
      refine ⟨_, rfl, fun y d hy hd hne => ?_⟩
      have fD : FL K H' D (logL l) := FL.of hacc facc
      refine ⟨y, d, D, _, rfl, upd_same, (fD.ext (Ext.upd hd)).ext (Ext.upd (by rw [upd_ne hne.symm]; exact hy)), by rw [logL_len]; exact h3, by rw [logL_len]; exact h16, fun H6 e6 rw6 => ⟨rfl, hq _ _ ((e1.trans e2).trans (ext_made hy hd e6)) (Ext.notIn (e1.trans e2) hy) rw6⟩⟩
theorem ok_row_log (T : Tx K mg) : Ca P w K mg base (L2.CX P w) 7 "row_log" (spLog K) := (okp_row_log T).ca
theorem sc_reciprocal : FnScope ["row", "numbers", "result", "place", "total", "at"] ["row"] (defScope s_reciprocal) := sc_by (by decide +kernel)
theorem okp_reciprocal (T : Tx K mg) : CaP P w K mg base (L2.CX P w) 7 "reciprocal" ["row"] (spRec K) := by
  have c_add_product := ok_add_product (P := P) (w := w) (base := base) T
  have c_quotient_of := ok_quotient_of (P := P) (w := w) (base := base) T
  obtain ⟨fd1, ps1, Ri⟩ := ok_Row_init (P := P) (w := w) (base := base) T
  obtain ⟨fd2, ps2, Rn⟩ := ok_numbers (P := P) (w := w) (base := base) T
  obtain ⟨fd3, ps3, Id⟩ := ok_div (P := P) (w := w) (base := base) T
  refine cap_of T.d_reciprocal T.g_reciprocal sc_reciprocal (fun vs H Q E h => ?_) (fun _ _ _ _ _ _ us hl => match us, hl with | [_], _ => rfl) fun cdv A outer s H vs Q E hr h => ?_
  · obtain ⟨_, _, rfl, _⟩ := h
    rfl
  obtain ⟨r, l, rfl, rl, h⟩ := h
  obtain ⟨dx, a, g, hin, fl, h3, h16⟩ := id rl
  refine ⟨_, (pss_cons (ps_set (i := 1) sc_reciprocal.nd rfl (Or.inl rfl) (pe_meth0 (pv 0) T.c_Row T.m_numbers Rn.ok (hr.mono (by decide)) Rn.b .nil pass0))
    (pss_cons (ps_if (pt_cmpR (op_eqF (hrU hr)) (pe_fl (pv 1) pe_int) (pe_gref (by rfl) T.g_ZERO) (nomark _)) (pss_one (ps_raise rfl (takes_of rfl rfl rfl rfl) (pmk_ae T.e_DividedByZero T.in_DividedByZero T.ty_DividedByZero Id.ok (hr.mono (by decide)) Id.b pass0 (by rfl) T.g_DividedByZero))) pss_nil)
    (PSs.nox (pss_cons (ps_set (i := 2) sc_reciprocal.nd rfl (Or.inl rfl) (pe_lst (pa_cons (pe_ca c_quotient_of hr (by decide) pass0 (pa_cons (pe_gref (by rfl) T.g_ONE) (pa_cons (pe_fl (pv 1) pe_int) pa_nil))) pa_nil)))
    (pss_cons (ps_for PassesOwn.never rfl (pi_range2 (by rfl) T.f_range (pa_cons pe_int (pa_cons (pe_callB call_len_seq (by rfl) T.f_len PySem.boot_len (pa_cons (pv 1) pa_nil)) pa_nil))) (pg_name (i := 3) sc_reciprocal.nd rfl (Or.inl rfl) (Or.inr rfl)) (pss_cons (ps_set (i := 4) sc_reciprocal.nd rfl (Or.inl rfl) (pe_gref (by rfl) T.g_ZERO))
    (pss_cons (ps_for PassesOwn.never rfl (pi_range2 (by rfl) T.f_range (pa_cons pe_int (pa_cons (pe_op op_add (pv 3) pe_int) pa_nil))) (pg_name (i := 5) sc_reciprocal.nd rfl (Or.inl rfl) (Or.inr rfl)) (pss_one (ps_set (i := 4) sc_reciprocal.nd rfl (Or.inl rfl) (pe_ca c_add_product hr (by decide) pass0 (pa_cons (pv 4) (pa_cons (pe_fl (pv 1) (pv 5)) (pa_cons (pe_fl (pv 2) (pe_op op_sub (pv 3) (pv 5))) pa_nil)))))))
    (pss_one (ps_expr (pe_bm PySem.F.plainAttrs_list PySem.F.slot_list_append PySem.F.type_list_append mt_append (pv 2) (pa_cons (pe_ca c_quotient_of hr (by decide) pass0 (pa_cons (pe_tup (pa_cons (pe_un un_neg (pe_p0 (pv 4))) (pa_cons (pe_p1 (pv 4)) pa_nil))) (pa_cons (pe_fl (pv 1) pe_int) pa_nil))) pa_nil)))))))
    (pss_one (ps_ret (pe_make T.k_Row Ri.ok (hr.mono (by decide)) (by rfl) T.g_Row Ri.b .nil pass0 (pa_cons (pv 2) pa_nil))))))))), ?_⟩
  refine ⟨_, rfl, r, dx, _, rfl, hin, rfl, r, l, rfl, rl, fun n H1 e1 nn fn => ?_⟩
  refine ⟨_, rfl, n, l, 0, rfl, rfl, fn, by omega, fun z fz => ⟨_, 0, fz, fr_zero T H1, _, rfl, ?_⟩⟩
  rcases h with ⟨h0, ol, op, s0, hq⟩ | ⟨h0, he⟩
  case inr =>
    rw [decide_eq_true h0]
    refine iteT ?_
    exact mk1 (K := K) fun d H' e nd hd => he d H' (e1.trans e) (Ext.notIn e1 nd) hd
  case inl =>
    rw [decide_eq_false h0]
    let p : Ser := Ser.rc (ser l)
    have p0 : p.c 0 = 1 / l.getD 0 0 := by show (Ser.rc (ser l)).c 0 = _; rw [Ser.rc_eq]; rfl
    have pk : ∀ k, k < l.length → (recL l).getD k 0 = p.c k := fun k hk => sc_rec (l := l) rfl k hk
    have sn0 : Sz (l.getD 0 0).num 6000 := s0.mono (by omega)
    have sd0 : Sz ((l.getD 0 0).den : Int) 2500 := (ol.at (by omega)).den.mono (by omega)
    refine iteF ⟨_, rfl, n, l, 0, rfl, rfl, fn, by omega, fun z0 fz0 => ?_⟩
    refine ⟨_, z0, 1, l.getD 0 0, rfl, (fr_one T _).pq ⟨pp _, pp _⟩, fz0, h0, sn0, sd0, fun q0 H2 e2 fq0 => ⟨lenOk (by show 1 ≤ 1000; decide), fun D hD => ?_⟩⟩
    have hD1 : H1 D = none := Ext.notIn e2 hD
    have eD0 := Ext.upd (o := .lst [q0]) hD
    have eD := e2.trans eD0
    have fn2 := fn.ext eD
    obtain ⟨xs, sq, fs⟩ := id fn2
    refine ⟨_, rfl, n, xs, rfl, .inl sq, 1, (xs.length : Int), rfl, ⟨by omega, by omega, by have := fs.1; omega, by have := fs.1; omega⟩, ?_⟩
    rw [fs.1]
    refine for_it walk_range (fun i σ H' => (∃ o4 o5 o6, σ = [some (.ref r), some (.ref n), some (.ref D), o4, o5, o6]) ∧ Ext H1 H' ∧ ∃ acc, H' D = some (.lst acc) ∧ Frs K H' acc (toL (i + 1) p)) ⟨⟨_, _, _, rfl⟩, eD, _, upd_same, ?_⟩ (fun i σ H' _ z => trivial) (fun i x1 σ H2 H3 hi z y => ?_) (fun σ H' z => ?_)
    · exact Frs.cons (by rw [p0]; exact fq0.ext eD0) .nil
    · obtain ⟨⟨o4, o5, o6, rfl⟩, e2, acc, hacc, facc⟩ := z
      obtain ⟨rfl, rfl⟩ := y
      have hi' : i + 1 < l.length := by omega
      refine ⟨_, rfl, _, _, rfl, rfl, 1, 1 + (i : Int) + 1, rfl, ⟨by omega, by omega, by omega, by omega⟩, ?_⟩
      have cnt : (1 + (i : Int) + 1 - 1).toNat = i + 1 := by omega
      rw [cnt]
      refine for_it walk_range (fun j σ H' => (∃ tv o6, σ = [some (.ref r), some (.ref n), some (.ref D), some (.int (1 + (i : Int))), some tv, o6] ∧ Pq K H' tv (sumN j (recTerm (ser l).c p.c (i + 1)))) ∧ Ext H1 H' ∧ H' D = some (.lst acc) ∧ Frs K H' acc (toL (i + 1) p)) ⟨⟨_, _, rfl, (fr_zero T _).pq ⟨pp _, Nat.zero_le _⟩⟩, e2, hacc, facc⟩ (fun i σ H' _ z => trivial) (fun j x1 σ H4 H5 hj z y => ?_) (fun σ H' z => ?_)
      · obtain ⟨⟨tv, o6, rfl, ptv⟩, e4, hacc4, facc4⟩ := z
        obtain ⟨rfl, rfl⟩ := y
        have hj' : j + 1 < l.length := by omega
        refine ⟨_, rfl, _, rfl, _, rfl, n, l, j + 1, rfl, congrArg V.int (by omega), fn.ext e4, hj', fun z1 fz1 => ?_⟩
        refine ⟨_, rfl, _, rfl, _, rfl, _, _, rfl, rfl, D, _, i - j, rfl, congrArg V.int (by omega), FL.of hacc4 facc4, by rw [toL_len]; omega, fun z2 fz2 => ?_⟩
        rw [toL_D (by omega)] at fz2
        have s1 : Sm (l.getD (j + 1) 0) := ol.at hj'
        have s2 : Sm (p.c (i - j)) := by rw [← pk (i - j) (by omega)]; exact op.at (by rw [recL_len]; omega)
        have st : sumN (j + 1) (recTerm (ser l).c p.c (i + 1)) = sumN j (recTerm (ser l).c p.c (i + 1)) + l.getD (j + 1) 0 * p.c (i - j) := by
          have e : i + 1 - (j + 1) = i - j := by omega
          show _ + recTerm (ser l).c p.c (i + 1) j = _
          unfold recTerm
          rw [e]
          rfl
        refine ⟨tv, z1, z2, _, _, _, rfl, ptv, fz1.pq s1, fz2.pq s2, by rw [← st]; exact sm_rec ol op hi' (by omega), fun v7 H7 e7 pv7 _ => ?_⟩
        rw [← st] at pv7
        exact ⟨⟨v7, _, rfl, pv7⟩, e4.trans e7, e7 _ _ hacc4, facc4.ext e7⟩
      · obtain ⟨⟨tv, o6, rfl, ⟨m, k, pr, k0, em, sm, sk⟩⟩, e4, hacc4, facc4⟩ := z
        refine ⟨_, rfl, .inl ⟨rfl, _, SqL.of hacc4⟩, _, rfl, rfl, m, k, pr, _, rfl, _, rfl, rfl, m, k, pr, lenOk (by show 2 ≤ 1000; decide), fun f hf => ?_⟩
        have ef := Ext.upd (o := .tup [V.int (-m), V.int k]) hf
        refine ⟨_, rfl, n, l, 0, rfl, rfl, fn.ext (e4.trans ef), by omega, fun z0 fz0 => ?_⟩
        refine ⟨.ref f, z0, -sumN (i + 1) (recTerm (ser l).c p.c (i + 1)), l.getD 0 0, rfl, ⟨_, _, Pr.of upd_same, k0, by rw [Rat.intCast_neg, em]; grind, sm.neg, sk⟩, fz0, h0, sn0, sd0, fun v H6 e6 fv => ?_⟩
        have e56 := ef.trans e6
        have hacc6 := e56 _ _ hacc4
        refine ⟨D, acc, v, rfl, rfl, hacc6, lenLt (by rw [facc4.1, toL_len]; omega), ⟨_, _, _, rfl⟩, ext_lst (e4.trans e56) hD1, _, upd_same, ?_⟩
        refine snocT ((facc4.ext e56).mvL hacc6) ?_
        have val : -sumN (i + 1) (recTerm (ser l).c p.c (i + 1)) / l.getD 0 0 = p.c (i + 1) := by
          show _ = (Ser.rc (ser l)).c (i + 1)
          rw [Ser.rc_eq]; unfold recSt; rw [if_neg (by omega)]; rfl
        rw [val] at fv
        exact fv.mvL hacc6
    · obtain ⟨⟨o4, o5, o6, rfl⟩, e2, acc, hacc, facc⟩ := z
      have cnt : ((l.length : Int) - 1).toNat + 1 = l.length := by omega
      rw [cnt] at facc
      refine ⟨_, rfl, fun y d hy hd hne => ?_⟩
      have fD : FL K H' D (recL l) := FL.of hacc facc
      refine ⟨y, d, D, _, rfl, upd_same, (fD.ext (Ext.upd hd)).ext (Ext.upd (by rw [upd_ne hne.symm]; exact hy)), by rw [recL_len]; exact h3, by rw [recL_len]; exact h16, fun H6 e6 rw6 => ⟨rfl, hq _ _ ((e1.trans e2).trans (ext_made hy hd e6)) (Ext.notIn (e1.trans e2) hy) rw6⟩⟩
theorem ok_reciprocal (T : Tx K mg) : Ca P w K mg base (L2.CX P w) 7 "reciprocal" (spRec K) := (okp_reciprocal T).ca
end
end K4
end
section
set_option Elab.async false
set_option linter.all false
set_option maxRecDepth 100000
set_option maxHeartbeats 4000000
/-! The walks, 10: the law's own fractions and products. -/
namespace K4
open PySem PySem.Spec PyProof.Rows L2 K04
def spLow (K : Frag) : Sp := fun vs H Q _ => ∃ p q : Int, vs = [.int p, .int q] ∧ q ≠ 0 ∧ Sz q 8900 ∧ ∀ v H', Ext H H' → Fr K H' v (Rat.divInt p q) → Q v H'
def spTwoF (f : Rat → Rat → Rat) (K : Frag) : Sp := fun vs H Q _ => ∃ x y q r, vs = [x, y] ∧ Fr K H x q ∧ Fr K H y r ∧ Sm q ∧ Sm r ∧ ∀ v H', Ext H H' → Fr K H' v (f q r) → Q v H'
def spTimes (K : Frag) : Sp := fun vs H Q _ => ∃ a b l m, vs = [.ref a, .ref b] ∧ FL K H a l ∧ FL K H b m ∧ Ok l ∧ Ok m ∧ m.length = l.length ∧ ∀ v H', Ext H H' → H v = none → FL K H' v (mulL l m) → Q (.ref v) H'
def spSlope (K : Frag) : Sp := fun vs H Q _ => ∃ a l, vs = [.ref a] ∧ FL K H a l ∧ Ok l ∧ 1 ≤ l.length ∧ ∀ v H', Ext H H' → H v = none → FL K H' v (slopeL l) → Q (.ref v) H'
def spIs (K : Frag) : Sp := fun vs H Q _ => ∃ x q, vs = [x] ∧ Fr K H x q ∧ Sm q ∧ ∀ H', Ext H H' → Q (.bl true) H'
theorem whole_fr {K : Frag} {H : Hp} {p : Addr} {n : Int} {q : Rat} (h : H p = some (.tup [.int n, .int 1])) (e : q = (n : Rat)) : Fr K H (.ref p) q := by
  subst e
  exact Fr.of h (by simp) (by simp)
theorem den1 {q : Rat} (h : q.den = 1) : q = (q.num : Rat) := by
  have e := mulDen q
  rw [h] at e
  simpa using e
theorem Frs.by_take {K : Frag} {H : Hp} {xs : List V} {l : List Rat} {i : Nat} {x : V} {q : Rat} (h : Frs K H xs (l.take i)) (hi : l[i]? = some q) (fx : Fr K H x q) : Frs K H (xs ++ [x]) (l.take (i + 1)) := by
  rw [List.take_add_one, hi]
  exact h.snoc fx
theorem nf (i j : Int) : i.fdiv (-j) = (-i).fdiv j := by
  have e := Int.neg_fdiv_neg (-i) j
  rw [Int.neg_neg] at e
  exact e
section
variable {P : Program} {w : World} {K : Frag} {mg : Str → Option Value} {base : Heap}
theorem sc_law_low : FnScope ["_law_p", "_law_q", "_law_a", "_law_b"] ["_law_p", "_law_q"] (defScope s__law_low) := sc_by (by decide +kernel)
theorem ok_law_low (T : Tx K mg) : Ca P w K mg base CX0 1 "_law_low" (spLow K) := by
  refine ca_of0 T.d__law_low T.g__law_low sc_law_low (fun vs H Q E h => ?_) (fun _ _ _ _ _ _ us hl => match us, hl with | [_, _], _ => rfl) fun cdv A outer s H vs Q E hr h => ?_
  · obtain ⟨_, _, rfl, _⟩ := h
    rfl
  obtain ⟨p, q, rfl, h0, hz, hq⟩ := h
  refine ⟨_, (pss_cons (ps_par (i := 2) (j := 3) rfl sc_law_low.nd rfl rfl (by decide) rfl rfl (pa_cons (pe_callB call_abs (by rfl) T.f_abs PyProof.Rows.Boot.«abs» (pa_cons (pv 0) pa_nil)) (pa_cons (pe_callB call_abs (by rfl) T.f_abs PyProof.Rows.Boot.«abs» (pa_cons (pv 1) pa_nil)) pa_nil)) rfl)
    (pss_cons (ps_while PassesOwn.never (pt_cmpR op_gt (pv 3) pe_int (nomark _)) (pss_one (ps_par (i := 2) (j := 3) rfl sc_law_low.nd rfl rfl (by decide) rfl rfl (pa_cons (pv 3) (pa_cons (pe_op op_mod (pe_callTy call_int1 (by rfl) T.f_int PyProof.Rows.Boot.«int» (pa_cons (pv 2) pa_nil)) (pv 3)) pa_nil)) rfl)))
    (pss_cons (ps_if (pt_cmpR op_lt (pv 1) pe_int (nomark _)) (pss_one (ps_set (i := 2) sc_law_low.nd rfl (Or.inl rfl) (pe_un un_neg (pv 2)))) pss_nil)
    (pss_one (ps_ret (pe_tup (pa_cons (pe_op op_fdivZ (pv 0) (pv 2)) (pa_cons (pe_op op_fdivZ (pv 1) (pv 2)) pa_nil)))))))), ?_⟩
  have ab : ∀ i : Int, (if i < 0 then -i else i) = (i.natAbs : Int) := fun i => by split <;> omega
  refine ⟨_, rfl, p, rfl, _, rfl, q, rfl, _, _, rfl, ?_⟩
  rw [ab p, ab q]
  refine while_by (fun σ H' => H' = H ∧ ∃ a b : Nat, σ = [some (.int p), some (.int q), some (.int a), some (.int b)] ∧ Nat.gcd a b = Nat.gcd p.natAbs q.natAbs) (fun σ H' => match σ with
    | [_, _, _, some (.int b)] => b.toNat
    | _ => 0) ⟨rfl, _, _, rfl, rfl⟩ (fun σ H' z => ?_) (fun σ H Q Q' hh hc => ?_)
  · obtain ⟨rfl, a, b, rfl, hg⟩ := z
    refine ⟨_, rfl, _, _, rfl, rfl, _, rfl, ?_⟩
    by_cases hb : b = 0
    · subst hb
      rw [decide_eq_false (by omega : ¬ ((0 : Int) < ((0 : Nat) : Int)))]
      have ha : a = Nat.gcd p.natAbs q.natAbs := by rw [← hg, Nat.gcd_zero_right]
      have hc : ((Nat.gcd p.natAbs q.natAbs : Nat) : Int) ≠ 0 := gcd_ne h0
      have sg := Sz.gcd (u := p) hz h0
      rw [← ha] at hc sg
      refine iteF ⟨_, rfl, _, _, rfl, rfl, _, rfl, ?_⟩
      by_cases hn : q < 0
      · rw [decide_eq_true hn]
        refine iteT ⟨_, rfl, _, rfl, ?_⟩
        have hd : ∀ i, CDivZ i (-(a : Int)) := sg.neg.div (by omega)
        refine ⟨_, rfl, _, rfl, _, _, rfl, rfl, hd _, _, rfl, _, rfl, _, _, rfl, rfl, hd _, lenOk (by show 2 ≤ 1000; decide), fun t ht => hq _ _ (Ext.upd ht) (Fr.of upd_same ?_ ?_)⟩
        · rw [divInt_num' hn, ← ha, nf, fdiv_e (Int.natCast_nonneg _)]
        · rw [divInt_den' hn, ← ha, nf, fdiv_e (Int.natCast_nonneg _)]
      · rw [decide_eq_false hn]
        have hd : ∀ i, CDivZ i (a : Int) := sg.div hc
        have hp : 0 < q := by omega
        refine iteF ⟨_, rfl, _, rfl, _, _, rfl, rfl, hd _, _, rfl, _, rfl, _, _, rfl, rfl, hd _, lenOk (by show 2 ≤ 1000; decide), fun t ht => hq _ _ (Ext.upd ht) (Fr.of upd_same ?_ ?_)⟩
        · rw [divInt_num hp, ← ha, fdiv_e (Int.natCast_nonneg _)]
        · rw [divInt_den hp, ← ha, fdiv_e (Int.natCast_nonneg _)]
    · rw [decide_eq_true (by omega : ((0 : Int) < (b : Int)))]
      refine iteT ⟨_, rfl, _, rfl, .inl ⟨_, rfl, _, rfl, _, _, rfl, rfl, by show (0 : Int) < (b : Int); omega, ?_⟩⟩
      refine ⟨_, _, rfl, ⟨rfl, b, a % b, ?_, ?_⟩, ?_⟩
      · show [some (V.int p), some (V.int q), some (V.int (b : Int)), some (V.int ((a : Int) % (b : Int)))] = _
        rw [Int.natCast_emod]
      · rw [← hg, Nat.gcd_comm b, ← Nat.gcd_rec, Nat.gcd_comm]
      · show ((a : Int) % (b : Int)).toNat < ((b : Nat) : Int).toNat
        rw [← Int.natCast_emod, Int.toNat_natCast, Int.toNat_natCast]
        exact Nat.mod_lt _ (by omega)
  · obtain ⟨v, e, i, j, e1, e2, k, e3, q⟩ := hc
    exact ⟨v, e, i, j, e1, e2, k, e3, hh _ _ q⟩
theorem sc_law_add : FnScope ["_law_a", "_law_b"] ["_law_a", "_law_b"] (defScope s__law_add) := sc_by (by decide +kernel)
theorem ok_law_add (T : Tx K mg) : Ca P w K mg base CX0 2 "_law_add" (spTwoF (· + ·) K) := by
  have c_law_low := ok_law_low (P := P) (w := w) (base := base) T
  refine ca_of0 T.d__law_add T.g__law_add sc_law_add (fun vs H Q E h => ?_) (fun _ _ _ _ _ _ us hl => match us, hl with | [_, _], _ => rfl) fun cdv A outer s H vs Q E hr h => ?_
  · obtain ⟨_, _, _, _, rfl, _⟩ := h
    rfl
  obtain ⟨x, y, q, r, rfl, fx, fy, sx, sy, hq⟩ := h
  have px := fx.pr
  have py := fy.pr
  refine ⟨_, (pss_cons (ps_if (pw_and (pt_cmpR op_eq (pe_p1 (pv 0)) pe_int (nomark _)) (pw_and1 (pt_cmpR op_eq (pe_p1 (pv 1)) pe_int (nomark _)))).pt (pss_one (ps_ret (pe_tup (pa_cons (pe_op op_add (pe_p0 (pv 0)) (pe_p0 (pv 1))) (pa_cons pe_int pa_nil))))) pss_nil)
    (pss_one (ps_ret (pe_ca c_law_low hr (by decide) pass0 (pa_cons (pe_op op_add (pe_op op_mulW (pe_p0 (pv 0)) (pe_p1 (pv 1))) (pe_op op_mulW (pe_p0 (pv 1)) (pe_p1 (pv 0)))) (pa_cons (pe_op op_mulW (pe_p1 (pv 0)) (pe_p1 (pv 1))) pa_nil)))))), ?_⟩
  have gen : ∀ D : Ends, (∀ v H', Ext H H' → Fr K H' v (q + r) → D.rt v H') → tRet (tCd (spLow K) E0 (tCons (tOp (rI0 fun i j => .int (i + j)) (tOp (rI CMulW fun i j => .int (i * j)) (tOp (rP0 K) (tVar 0) (tC (.int 0))) (tOp (rP1 K) (tVar 1) (tC (.int 1)))) (tOp (rI CMulW fun i j => .int (i * j)) (tOp (rP0 K) (tVar 1) (tC (.int 0))) (tOp (rP1 K) (tVar 0) (tC (.int 1))))) (tCons (tOp (rI CMulW fun i j => .int (i * j)) (tOp (rP1 K) (tVar 0) (tC (.int 1))) (tOp (rP1 K) (tVar 1) (tC (.int 1)))) tNil))) D (start ["_law_a", "_law_b"] [x, y]) H := fun D hD => by
    have hk : (0 : Int) < (q.den : Int) * (r.den : Int) := Int.mul_pos (by have := q.den_pos; omega) (by have := r.den_pos; omega)
    refine ⟨_, rfl, rfl, _, _, px, _, rfl, rfl, _, _, py, _, _, rfl, rfl, sx.num.cmul sy.den, ?_⟩
    refine ⟨_, rfl, rfl, _, _, py, _, rfl, rfl, _, _, px, _, _, rfl, rfl, sy.num.cmul sx.den, ?_⟩
    refine ⟨_, _, rfl, rfl, _, rfl, rfl, _, _, px, _, rfl, rfl, _, _, py, _, _, rfl, rfl, sx.den.cmul sy.den, ?_⟩
    refine ⟨_, _, rfl, by omega, (sx.den.mul sy.den).mono (by omega), fun v H' e fv => hD v H' e ?_⟩
    have z : Rat.divInt (q.num * (r.den : Int) + r.num * (q.den : Int)) ((q.den : Int) * (r.den : Int)) = q + r := by
      refine divInt_val (by omega) ?_
      rw [Rat.intCast_add, Rat.intCast_mul, Rat.intCast_mul, Rat.intCast_mul, Rat.intCast_natCast, Rat.intCast_natCast, ← mulDen q, ← mulDen r]; grind
    rw [z] at fv
    exact fv
  refine ⟨_, rfl, rfl, _, _, px, rfl, _, rfl, ?_⟩
  by_cases d1 : q.den = 1
  · rw [show decide (V.int (q.den : Int) = V.int 1) = true from decide_eq_true (by rw [d1]; rfl)]
    refine iteT ⟨_, rfl, rfl, _, _, py, rfl, _, rfl, ?_⟩
    by_cases d2 : r.den = 1
    · rw [show decide (V.int (r.den : Int) = V.int 1) = true from decide_eq_true (by rw [d2]; rfl)]
      refine iteT ⟨_, rfl, rfl, _, _, px, _, rfl, rfl, _, _, py, _, _, rfl, rfl, lenOk (by show 2 ≤ 1000; decide), fun t ht => hq _ _ (Ext.upd ht) (whole_fr upd_same ?_)⟩
      rw [Rat.intCast_add, ← den1 d1, ← den1 d2]
    · rw [show decide (V.int (r.den : Int) = V.int 1) = false from decide_eq_false fun z => d2 (by have := V.int.inj z; omega)]
      exact iteF (gen _ hq)
  · rw [show decide (V.int (q.den : Int) = V.int 1) = false from decide_eq_false fun z => d1 (by have := V.int.inj z; omega)]
    exact iteF (gen _ hq)
theorem sc_law_mul : FnScope ["_law_a", "_law_b"] ["_law_a", "_law_b"] (defScope s__law_mul) := sc_by (by decide +kernel)
theorem ok_law_mul (T : Tx K mg) : Ca P w K mg base CX0 2 "_law_mul" (spTwoF (· * ·) K) := by
  have c_law_low := ok_law_low (P := P) (w := w) (base := base) T
  refine ca_of0 T.d__law_mul T.g__law_mul sc_law_mul (fun vs H Q E h => ?_) (fun _ _ _ _ _ _ us hl => match us, hl with | [_, _], _ => rfl) fun cdv A outer s H vs Q E hr h => ?_
  · obtain ⟨_, _, _, _, rfl, _⟩ := h
    rfl
  obtain ⟨x, y, q, r, rfl, fx, fy, sx, sy, hq⟩ := h
  have px := fx.pr
  have py := fy.pr
  refine ⟨_, (pss_cons (ps_if (pw_and (pt_cmpR op_eq (pe_p1 (pv 0)) pe_int (nomark _)) (pw_and1 (pt_cmpR op_eq (pe_p1 (pv 1)) pe_int (nomark _)))).pt (pss_one (ps_ret (pe_tup (pa_cons (pe_op op_mulW (pe_p0 (pv 0)) (pe_p0 (pv 1))) (pa_cons pe_int pa_nil))))) pss_nil)
    (pss_one (ps_ret (pe_ca c_law_low hr (by decide) pass0 (pa_cons (pe_op op_mulW (pe_p0 (pv 0)) (pe_p0 (pv 1))) (pa_cons (pe_op op_mulW (pe_p1 (pv 0)) (pe_p1 (pv 1))) pa_nil)))))), ?_⟩
  have gen : ∀ D : Ends, (∀ v H', Ext H H' → Fr K H' v (q * r) → D.rt v H') → tRet (tCd (spLow K) E0 (tCons (tOp (rI CMulW fun i j => .int (i * j)) (tOp (rP0 K) (tVar 0) (tC (.int 0))) (tOp (rP0 K) (tVar 1) (tC (.int 0)))) (tCons (tOp (rI CMulW fun i j => .int (i * j)) (tOp (rP1 K) (tVar 0) (tC (.int 1))) (tOp (rP1 K) (tVar 1) (tC (.int 1)))) tNil))) D (start ["_law_a", "_law_b"] [x, y]) H := fun D hD => by
    have hk : (0 : Int) < (q.den : Int) * (r.den : Int) := Int.mul_pos (by have := q.den_pos; omega) (by have := r.den_pos; omega)
    refine ⟨_, rfl, rfl, _, _, px, _, rfl, rfl, _, _, py, _, _, rfl, rfl, sx.num.cmul sy.num, ?_⟩
    refine ⟨_, rfl, rfl, _, _, px, _, rfl, rfl, _, _, py, _, _, rfl, rfl, sx.den.cmul sy.den, ?_⟩
    refine ⟨_, _, rfl, by omega, (sx.den.mul sy.den).mono (by omega), fun v H' e fv => hD v H' e ?_⟩
    have z : Rat.divInt (q.num * r.num) ((q.den : Int) * (r.den : Int)) = q * r := by
      refine divInt_val (by omega) ?_
      rw [Rat.intCast_mul, Rat.intCast_mul, Rat.intCast_natCast, Rat.intCast_natCast, ← mulDen q, ← mulDen r]; grind
    rw [z] at fv
    exact fv
  refine ⟨_, rfl, rfl, _, _, px, rfl, _, rfl, ?_⟩
  by_cases d1 : q.den = 1
  · rw [show decide (V.int (q.den : Int) = V.int 1) = true from decide_eq_true (by rw [d1]; rfl)]
    refine iteT ⟨_, rfl, rfl, _, _, py, rfl, _, rfl, ?_⟩
    by_cases d2 : r.den = 1
    · rw [show decide (V.int (r.den : Int) = V.int 1) = true from decide_eq_true (by rw [d2]; rfl)]
      refine iteT ⟨_, rfl, rfl, _, _, px, _, rfl, rfl, _, _, py, _, _, rfl, rfl, sx.num.cmul sy.num, lenOk (by show 2 ≤ 1000; decide), fun t ht => hq _ _ (Ext.upd ht) (whole_fr upd_same ?_)⟩
      rw [Rat.intCast_mul, ← den1 d1, ← den1 d2]
    · rw [show decide (V.int (r.den : Int) = V.int 1) = false from decide_eq_false fun z => d2 (by have := V.int.inj z; omega)]
      exact iteF (gen _ hq)
  · rw [show decide (V.int (q.den : Int) = V.int 1) = false from decide_eq_false fun z => d1 (by have := V.int.inj z; omega)]
    exact iteF (gen _ hq)
end
end K4
end
section
set_option Elab.async false
set_option linter.all false
set_option maxRecDepth 100000
set_option maxHeartbeats 4000000
/-! The walks, 11: the law's own products of rows. -/
namespace K4
open PySem PySem.Spec PyProof.Rows L2 K04
theorem slope_at {l : List Rat} {i : Nat} (h : i + 1 < l.length) : (slopeL l)[i]? = some (((i + 1 : Nat) : Rat) * l.getD (i + 1) 0) := by
  unfold slopeL
  rw [toL_get (by omega)]
  rfl
theorem sm_nat {n : Nat} (h : n ≤ 16) : Sm (n : Rat) := by
  refine ⟨by rw [Rat.den_natCast]; exact pp _, ?_⟩
  rw [Rat.num_natCast, Int.natAbs_natCast]
  have : (2 : Nat) ^ 4 = 16 := rfl
  exact Nat.le_trans (by omega) (pl (by omega : 4 ≤ 90000))
/-- k's terms of the place n -/
def timP (l m : List Rat) (n k : Nat) : Rat := sumN k fun j => l.getD j 0 * m.getD (n - j) 0
theorem timP_ok {l m : List Rat} (hl : Ok l) (hm : Ok m) (e : m.length = l.length) {n k : Nat} (hn : n < l.length) (hk : k ≤ n + 1) : Sm (timP l m n k) := by
  obtain ⟨D, h1, h2, h3⟩ := Bd.psum (i := n) (p := k) hl.2 (by rw [← e]; exact hm.2) hn hk hl.1
  exact bz_sm h3 h1 h2 (Nat.le_refl _)
theorem timP_all {l m : List Rat} {n : Nat} : timP l m n (n + 1) = (ser l * ser m).c n := by
  rw [Ser.mulCC, mulC_sum]
  rfl
section
variable {P : Program} {w : World} {K : Frag} {mg : Str → Option Value} {base : Heap}
theorem sc_law_scale : FnScope ["_law_u", "_law_c", "_law_a"] ["_law_u", "_law_c"] (defScope s__law_scale) := sc_by (by decide +kernel)
theorem ok_law_scale (T : Tx K mg) : Ca P w K mg base CX0 3 "_law_scale" (spScaled K) := by
  have c_law_mul := ok_law_mul (P := P) (w := w) (base := base) T
  refine ca_of0 T.d__law_scale T.g__law_scale sc_law_scale (fun vs H Q E h => ?_) (fun _ _ _ _ _ _ us hl => match us, hl with | [_, _], _ => rfl) fun cdv A outer s H vs Q E hr h => ?_
  · obtain ⟨_, _, _, _, rfl, _⟩ := h
    rfl
  obtain ⟨a, tv, l, t, rfl, ⟨xs, sa, fa⟩, ft, hl, st, hq⟩ := h
  refine ⟨_, (pss_one (ps_ret (pe_lc (own := [("_law_a", 2)]) rfl sc_law_scale.nd (pi_list (pv 0)) (blkOk_by (N := ["_law_u", "_law_c", "_law_a"]) (sc := defScope s__law_scale) (by decide +kernel)) (fun _ _ _ _ _ => (pg_name (i := 2) sc_law_scale.nd rfl (Or.inl rfl) (Or.inr rfl))) (fun _ _ _ _ _ => pts_nil) (fun _ _ _ _ _ => (pe_ca c_law_mul hr (by decide) pass0 (pa_cons (pv 2) (pa_cons (pv 1) pa_nil))))))), ?_⟩
  refine ⟨_, rfl, a, rfl, ⟨xs, sa⟩, fun D hD => ?_⟩
  refine lc_it (walk_list (xs := xs)) (fun i H' => Ext H H' ∧ ∃ acc, H' D = some (.lst acc) ∧ Frs K H' acc ((sclL t l).take i)) ⟨Ext.upd hD, [], upd_same, .nil⟩ (fun i H' _ z => sa.ext z.1) (fun i x H1 H2 hi z y => ?_) (fun H' z => ?_)
  · obtain ⟨e, acc, hacc, facc⟩ := z
    obtain ⟨rfl, hx⟩ := y
    obtain ⟨q, hq1, fx⟩ := fa.at hx
    have hi' : i < l.length := by rw [← fa.1]; exact hi
    have sx : Sm q := by
      have := hl.at hi'
      rw [getD_of hq1] at this
      exact this
    refine ⟨rfl, lcT (iteT ?_)⟩
    refine ⟨_, rfl, _, rfl, _, _, q, t, rfl, fx.ext e, ft.ext e, sx, st, fun v H3 e3 fv => ?_⟩
    have hacc3 := e3 _ _ hacc
    refine ⟨acc, hacc3, lenLt (by rw [facc.1, List.length_take, sclL_len]; have := hl.1; omega), ext_lst (e.trans e3) hD, _, upd_same, ?_⟩
    exact Frs.by_take ((facc.ext e3).mvL hacc3) (by unfold sclL; rw [List.getElem?_map, hq1]; rfl) (fv.mvL hacc3)
  · obtain ⟨e, acc, hacc, facc⟩ := z
    refine hq _ _ e hD (FL.of hacc ?_)
    rw [List.take_of_length_le (by rw [sclL_len, fa.1]; exact Nat.le_refl _)] at facc
    exact facc
theorem sc_law_slope : FnScope ["_law_a", "_law_k"] ["_law_a"] (defScope s__law_slope) := sc_by (by decide +kernel)
theorem ok_law_slope (T : Tx K mg) : Ca P w K mg base CX0 3 "_law_slope" (spSlope K) := by
  have c_law_mul := ok_law_mul (P := P) (w := w) (base := base) T
  refine ca_of0 T.d__law_slope T.g__law_slope sc_law_slope (fun vs H Q E h => ?_) (fun _ _ _ _ _ _ us hl => match us, hl with | [_], _ => rfl) fun cdv A outer s H vs Q E hr h => ?_
  · obtain ⟨_, _, rfl, _⟩ := h
    rfl
  obtain ⟨a, l, rfl, fl, hl, h1, hq⟩ := h
  have h16 := hl.1
  obtain ⟨xs, sa, fa⟩ := id fl
  refine ⟨_, (pss_one (ps_ret (pe_lc (own := [("_law_k", 1)]) rfl sc_law_slope.nd (pi_range2 (by rfl) T.f_range (pa_cons pe_int (pa_cons (pe_callB call_len_seq (by rfl) T.f_len PySem.boot_len (pa_cons (pv 0) pa_nil)) pa_nil))) (blkOk_by (N := ["_law_a", "_law_k"]) (sc := defScope s__law_slope) (by decide +kernel)) (fun _ _ _ _ _ => (pg_name (i := 1) sc_law_slope.nd rfl (Or.inl rfl) (Or.inr rfl))) (fun _ _ _ _ _ => pts_nil) (fun _ _ _ _ _ => (pe_ca c_law_mul hr (by decide) pass0 (pa_cons (pe_tup (pa_cons (pv 1) (pa_cons pe_int pa_nil))) (pa_cons (pe_flK K rfl (pv 0) (pv 1)) pa_nil))))))), ?_⟩
  refine ⟨_, rfl, a, xs, rfl, .inl sa, 1, (xs.length : Int), rfl, ⟨by omega, by omega, by have := fa.1; omega, by have := fa.1; omega⟩, fun D hD => ?_⟩
  rw [fa.1]
  refine lc_it walk_range (fun i H' => Ext H H' ∧ ∃ acc, H' D = some (.lst acc) ∧ Frs K H' acc ((slopeL l).take i)) ⟨Ext.upd hD, [], upd_same, .nil⟩ (fun i H' _ z => trivial) (fun i x H1 H2 hi z y => ?_) (fun H' z => ?_)
  · obtain ⟨e, acc, hacc, facc⟩ := z
    obtain ⟨rfl, rfl⟩ := y
    have hi' : i + 1 < l.length := by omega
    refine ⟨rfl, lcT (iteT ?_)⟩
    refine ⟨_, rfl, lenOk (by show 2 ≤ 1000; decide), fun f hf => ?_⟩
    have ef := Ext.upd (o := .tup [V.int (1 + (i : Int)), V.int 1]) hf
    refine ⟨_, rfl, _, rfl, a, l, i + 1, rfl, congrArg V.int (by omega), fl.ext (e.trans ef), hi', fun z1 fz1 => ?_⟩
    refine ⟨.ref f, z1, ((i + 1 : Nat) : Rat), _, rfl, whole_fr upd_same (i1 i).symm, fz1, sm_nat (by omega), hl.at hi', fun v H3 e3 fv => ?_⟩
    have e13 := ef.trans e3
    have hacc3 := e13 _ _ hacc
    refine ⟨acc, hacc3, lenLt (by rw [facc.1, List.length_take, slopeL_len]; omega), ext_lst (e.trans e13) hD, _, upd_same, ?_⟩
    exact Frs.by_take ((facc.ext e13).mvL hacc3) (slope_at hi') (fv.mvL hacc3)
  · obtain ⟨e, acc, hacc, facc⟩ := z
    refine hq _ _ e hD (FL.of hacc ?_)
    rw [List.take_of_length_le (by rw [slopeL_len]; omega)] at facc
    exact facc
theorem sc_law_is : FnScope ["_law_thing", "_law_part"] ["_law_thing"] (defScope s__law_is) := sc_by (by decide +kernel)
theorem ok_law_is (T : Tx K mg) : Ca P w K mg base CX0 2 "_law_is" (spIs K) := by
  have c_law_low := ok_law_low (P := P) (w := w) (base := base) T
  refine ca_of0 T.d__law_is T.g__law_is sc_law_is (fun vs H Q E h => ?_) (fun _ _ _ _ _ _ us hl => match us, hl with | [_], _ => rfl) fun cdv A outer s H vs Q E hr h => ?_
  · obtain ⟨_, _, rfl, _⟩ := h
    rfl
  obtain ⟨x, q, rfl, fx, sx, hq⟩ := h
  obtain ⟨a, rfl, sq⟩ := id fx
  refine ⟨_, (pss_cons (ps_if (pw_or (pt_not (pt_val (pe_callB (call_isK T "tuple") (by rfl) T.f_isinstance PyProof.Rows.Boot.«isinstance» (pa_cons (pv 0) (pa_cons (pe_bty (by rfl) T.f_tuple PyProof.Rows.Boot.«tuple») pa_nil))))) (pw_or1 (pt_cmpR op_ne (pe_callB call_len_seq (by rfl) T.f_len PySem.boot_len (pa_cons (pv 0) pa_nil)) pe_int (nomark _)))).pt (pss_one (ps_ret pe_bl)) pss_nil)
    (pss_cons (ps_if (pt_not (pt_val (pe_callB (cr_all rfl) (by rfl) T.f_all PyProof.Rows.Boot.«all» (pa_cons (pe_lc (own := [("_law_part", 1)]) rfl sc_law_is.nd (pi_tup (pv 0)) (blkOk_by (N := ["_law_thing", "_law_part"]) (sc := defScope s__law_is) (by decide +kernel)) (fun _ _ _ _ _ => (pg_name (i := 1) sc_law_is.nd rfl (Or.inl rfl) (Or.inr rfl))) (fun _ _ _ _ _ => pts_nil) (fun _ _ _ _ _ => (pe_and (pe_callB (call_isKK T rfl "int") (by rfl) T.f_isinstance PyProof.Rows.Boot.«isinstance» (pa_cons (pv 1) (pa_cons (pe_bty (by rfl) T.f_int PyProof.Rows.Boot.«int») pa_nil))) (pe_one (pe_not (pe_callB (call_isKK T rfl "bool") (by rfl) T.f_isinstance PyProof.Rows.Boot.«isinstance» (pa_cons (pv 1) (pa_cons (pe_bty (by rfl) T.f_bool PyProof.Rows.Boot.«bool») pa_nil)))))))) pa_nil)))) (pss_one (ps_ret pe_bl)) pss_nil)
    (pss_one (ps_ret (pe_and (pe_cmpR op_ge (pe_p1 (pv 0)) pe_int (nomark _)) (pe_one (pe_cmpR (op_eqF (hrU hr)) (pe_ca c_law_low hr (by decide) pass0 (pa_cons (pe_p0 (pv 0)) (pa_cons (pe_p1 (pv 0)) pa_nil))) (pv 0) (nomark _)))))))), ?_⟩
  refine ⟨_, rfl, _, _, rfl, .tup sq, _, rfl, ?_⟩
  refine iteF ⟨_, rfl, a, _, rfl, .inr sq, rfl, _, rfl, ?_⟩
  refine iteF ⟨_, rfl, a, rfl, ⟨_, sq⟩, fun D hD => ?_⟩
  refine lc_it (walk_tup (xs := [.int q.num, .int (q.den : Int)])) (fun i H' => Ext H H' ∧ H' D = some (.lst ((List.replicate i true).map V.bl))) ⟨Ext.upd hD, upd_same⟩ (fun i H' _ z => sq.ext z.1) (fun i x H1 H2 hi z y => ?_) (fun H' z => ?_)
  · obtain ⟨e, hacc⟩ := z
    obtain ⟨rfl, hx⟩ := y
    obtain ⟨j, rfl⟩ : ∃ j, x = .int j := by
      have hi2 : i < 2 := hi
      match i, hi2 with
      | 0, _ => exact ⟨_, (Option.some.inj hx).symm⟩
      | 1, _ => exact ⟨_, (Option.some.inj hx).symm⟩
    have hi2 : i < 2 := hi
    refine ⟨rfl, lcT (iteT ?_)⟩
    refine ⟨_, rfl, _, _, rfl, .int j, true, rfl, ?_⟩
    refine iteT ⟨_, rfl, _, _, rfl, .int j, false, rfl, ?_⟩
    refine ⟨_, hacc, lenLt (by simp; omega), ext_lst e hD, ?_⟩
    rw [upd_same, List.replicate_succ', List.map_append]
    rfl
  · obtain ⟨e, hacc⟩ := z
    refine ⟨D, _, rfl, SqL.of hacc, _, rfl, ?_⟩
    rw [show ((List.replicate [V.int q.num, V.int (q.den : Int)].length true).all id) = true from rfl]
    have fx2 := fx.ext e
    refine iteF ⟨_, rfl, rfl, _, _, fx2.pr, _, _, rfl, rfl, _, rfl, ?_⟩
    rw [decide_eq_true (by have := q.den_pos; omega : (1 : Int) ≤ (q.den : Int))]
    refine iteT ⟨_, rfl, rfl, _, _, fx2.pr, _, rfl, rfl, _, _, fx2.pr, _, _, rfl, by have := q.den_pos; omega, sx.den.mono (by omega), fun v H3 e3 fv => ?_⟩
    have z : Rat.divInt q.num (q.den : Int) = q := Rat.num_divInt_den q
    rw [z] at fv
    refine ⟨_, rfl, q, q, fv, fx2.ext e3, ?_⟩
    show Q (.bl (decide (q = q))) H3
    rw [decide_eq_true rfl]
    exact hq _ (e.trans e3)
theorem sc_law_times : FnScope ["_law_u", "_law_w", "_law_some", "_law_k", "_law_total", "_law_j"] ["_law_u", "_law_w"] (defScope s__law_times) := sc_by (by decide +kernel)
theorem ok_law_times (T : Tx K mg) : Ca P w K mg base CX0 3 "_law_times" (spTimes K) := by
  have c_law_mul := ok_law_mul (P := P) (w := w) (base := base) T
  have c_law_add := ok_law_add (P := P) (w := w) (base := base) T
  refine ca_of0 T.d__law_times T.g__law_times sc_law_times (fun vs H Q E h => ?_) (fun _ _ _ _ _ _ us hl => match us, hl with | [_, _], _ => rfl) fun cdv A outer s H vs Q E hr h => ?_
  · obtain ⟨_, _, _, _, rfl, _⟩ := h
    rfl
  obtain ⟨a, b, l, m, rfl, fl, fm, hl, hm, hlen, hq⟩ := h
  have h16 := hl.1
  refine ⟨_, (pss_cons (ps_set (i := 2) sc_law_times.nd rfl (Or.inl rfl) (pe_lst pa_nil))
    (pss_cons (ps_for PassesOwn.never rfl (pi_range1 (by rfl) T.f_range (pa_cons (pe_callB call_len_seq (by rfl) T.f_len PySem.boot_len (pa_cons (pv 0) pa_nil)) pa_nil)) (pg_name (i := 3) sc_law_times.nd rfl (Or.inl rfl) (Or.inr rfl)) (pss_cons (ps_set (i := 4) sc_law_times.nd rfl (Or.inl rfl) (pe_tup (pa_cons pe_int (pa_cons pe_int pa_nil))))
    (pss_cons (ps_for PassesOwn.never rfl (pi_range1 (by rfl) T.f_range (pa_cons (pe_op op_add (pv 3) pe_int) pa_nil)) (pg_name (i := 5) sc_law_times.nd rfl (Or.inl rfl) (Or.inr rfl)) (pss_one (ps_if (pw_and (pt_cmpR op_ne (pe_p0 (pe_fl (pv 0) (pv 5))) pe_int (nomark _)) (pw_and1 (pt_cmpR op_ne (pe_p0 (pe_fl (pv 1) (pe_op op_sub (pv 3) (pv 5)))) pe_int (nomark _)))).pt (pss_one (ps_set (i := 4) sc_law_times.nd rfl (Or.inl rfl) (pe_ca c_law_add hr (by decide) pass0 (pa_cons (pv 4) (pa_cons (pe_ca c_law_mul hr (by decide) pass0 (pa_cons (pe_fl (pv 0) (pv 5)) (pa_cons (pe_fl (pv 1) (pe_op op_sub (pv 3) (pv 5))) pa_nil))) pa_nil))))) pss_nil)))
    (pss_one (ps_expr (pe_bm PySem.F.plainAttrs_list PySem.F.slot_list_append PySem.F.type_list_append mt_append (pv 2) (pa_cons (pv 4) pa_nil)))))))
    (pss_one (ps_ret (pv 2))))), ?_⟩
  refine ⟨lenOk (by show 0 ≤ 1000; decide), fun D hD => ?_⟩
  have eD := Ext.upd (o := .lst []) hD
  obtain ⟨xs, sa, fa⟩ := fl.ext eD
  refine ⟨_, rfl, a, xs, rfl, .inl sa, (xs.length : Int), rfl, by omega, by have := fa.1; omega, ?_⟩
  rw [fa.1]
  refine for_it walk_range (fun i σ H' => (∃ o3 o4 o5, σ = [some (.ref a), some (.ref b), some (.ref D), o3, o4, o5]) ∧ Ext H H' ∧ ∃ acc, H' D = some (.lst acc) ∧ Frs K H' acc (toL i (ser l * ser m))) ⟨⟨_, _, _, rfl⟩, eD, _, upd_same, .nil⟩ (fun i σ H' _ z => trivial) (fun i x1 σ H2 H3 hi z y => ?_) (fun σ H' z => ?_)
  · obtain ⟨⟨o3, o4, o5, rfl⟩, e2, acc, hacc, facc⟩ := z
    obtain ⟨rfl, rfl⟩ := y
    have hi' : i < l.length := by omega
    refine ⟨lenOk (by show 2 ≤ 1000; decide), fun f hf => ?_⟩
    have ef := Ext.upd (o := .tup [V.int 0, V.int 1]) hf
    refine ⟨_, rfl, _, _, rfl, rfl, 0 + (i : Int) + 1, rfl, by omega, by omega, ?_⟩
    have cnt : (0 + (i : Int) + 1).toNat = i + 1 := by omega
    rw [cnt]
    refine for_it walk_range (fun j σ H' => (∃ tv o5, σ = [some (.ref a), some (.ref b), some (.ref D), some (.int (0 + (i : Int))), some tv, o5] ∧ Fr K H' tv (timP l m i j)) ∧ Ext H H' ∧ H' D = some (.lst acc) ∧ Frs K H' acc (toL i (ser l * ser m))) ⟨⟨_, _, rfl, whole_fr upd_same rfl⟩, e2.trans ef, ef _ _ hacc, facc.ext ef⟩ (fun i σ H' _ z => trivial) (fun j x1 σ H4 H5 hj z y => ?_) (fun σ H' z => ?_)
    · obtain ⟨⟨tv, o5, rfl, ptv⟩, e4, hacc4, facc4⟩ := z
      obtain ⟨rfl, rfl⟩ := y
      have st : timP l m i (j + 1) = timP l m i j + l.getD j 0 * m.getD (i - j) 0 := rfl
      have sj : Sm (l.getD j 0) := hl.at (by omega)
      have sk : Sm (m.getD (i - j) 0) := hm.at (by omega)
      have s0 : Sm (timP l m i j) := timP_ok hl hm hlen hi' (by omega)
      have sp : Sm (l.getD j 0 * m.getD (i - j) 0) := sm_prod hl hm (by omega) (by omega)
      refine ⟨_, rfl, _, rfl, a, l, j, rfl, congrArg V.int (by omega), fl.ext e4, by omega, fun z1 fz1 => ?_⟩
      refine ⟨rfl, _, _, fz1.pr, rfl, _, rfl, ?_⟩
      by_cases u0 : l.getD j 0 = 0
      · rw [show (!decide (V.int (l.getD j 0).num = V.int 0)) = false from by rw [u0]; rfl]
        refine iteF ⟨⟨tv, _, rfl, ?_⟩, e4, hacc4, facc4⟩
        rw [st, u0, show timP l m i j + 0 * m.getD (i - j) 0 = timP l m i j from by grind]
        exact ptv
      · rw [show (!decide (V.int (l.getD j 0).num = V.int 0)) = true from by rw [decide_eq_false fun z => u0 (Rat.num_eq_zero.mp (V.int.inj z))]; rfl]
        refine iteT ⟨_, rfl, _, rfl, _, rfl, _, _, rfl, rfl, b, m, i - j, rfl, congrArg V.int (by omega), fm.ext e4, by omega, fun z2 fz2 => ?_⟩
        refine ⟨rfl, _, _, fz2.pr, rfl, _, rfl, ?_⟩
        by_cases w0 : m.getD (i - j) 0 = 0
        · rw [show (!decide (V.int (m.getD (i - j) 0).num = V.int 0)) = false from by rw [w0]; rfl]
          refine iteF ⟨⟨tv, _, rfl, ?_⟩, e4, hacc4, facc4⟩
          rw [st, w0, show timP l m i j + l.getD j 0 * 0 = timP l m i j from by grind]
          exact ptv
        · rw [show (!decide (V.int (m.getD (i - j) 0).num = V.int 0)) = true from by rw [decide_eq_false fun z => w0 (Rat.num_eq_zero.mp (V.int.inj z))]; rfl]
          refine iteT ⟨_, rfl, _, rfl, _, rfl, a, l, j, rfl, congrArg V.int (by omega), fl.ext e4, by omega, fun z3 fz3 => ?_⟩
          refine ⟨_, rfl, _, rfl, _, rfl, _, _, rfl, rfl, b, m, i - j, rfl, congrArg V.int (by omega), fm.ext e4, by omega, fun z4 fz4 => ?_⟩
          refine ⟨z3, z4, _, _, rfl, fz3, fz4, sj, sk, fun v H6 e6 fv => ?_⟩
          refine ⟨tv, v, _, _, rfl, ptv.ext e6, fv, s0, sp, fun v7 H7 e7 fv7 => ?_⟩
          exact ⟨⟨v7, _, rfl, fv7⟩, (e4.trans e6).trans e7, e7 _ _ (e6 _ _ hacc4), facc4.ext (e6.trans e7)⟩
    · obtain ⟨⟨tv, o5, rfl, ptv⟩, e4, hacc4, facc4⟩ := z
      rw [timP_all] at ptv
      exact ⟨_, rfl, .inl ⟨rfl, _, SqL.of hacc4⟩, _, rfl, D, acc, tv, rfl, rfl, hacc4, lenLt (by rw [facc4.1, toL_len]; omega), ⟨_, _, _, rfl⟩, ext_lst e4 hD, _, upd_same, snocT (facc4.mvL hacc4) (ptv.mvL hacc4)⟩
  · obtain ⟨⟨o3, o4, o5, rfl⟩, e2, acc, hacc, facc⟩ := z
    rw [Int.toNat_natCast] at facc
    exact ⟨_, rfl, hq _ _ e2 hD (FL.of hacc facc)⟩
end
end K4
end
section
set_option Elab.async false
set_option linter.all false
set_option maxRecDepth 100000
set_option maxHeartbeats 4000000
/-! The walks, 12: the bag of draws. -/
namespace K4
open PySem PySem.Spec PyProof.Rows L2 K04
/-- at b: a bag over the items at l -/
structure Bag (K : Frag) (H : Hp) (b l : Addr) (ns : List Int) : Prop where
  at_ : ∃ i g s n : Int, H b = some (.lst [.ref l, .int i, .int g, .int s, .int n]) ∧ 0 ≤ i ∧ 0 ≤ g ∧ 0 ≤ s ∧ s < 2147483629
  its : SqL K H l (ns.map V.int)
theorem Bag.ne {K : Frag} {H : Hp} {b l : Addr} {ns : List Int} (B : Bag K H b l ns) : (∃ xs, H b = some (.lst xs)) := by
  obtain ⟨i, g, s, n, h, _⟩ := B.at_
  exact ⟨_, h⟩
theorem Bag.ext {K : Frag} {H H' : Hp} {b l : Addr} {ns : List Int} (B : Bag K H b l ns) (e : Ext H H') : Bag K H' b l ns := by
  obtain ⟨i, g, s, n, h, r⟩ := B.at_
  exact ⟨⟨i, g, s, n, e _ _ h, r⟩, B.its.ext e⟩
theorem sqL_extB {K : Frag} {H H' : Hp} {a b : Addr} {zs xs : List V} (h : SqL K H a zs) (hb : H b = some (.lst xs)) (hne : a ≠ b ∨ xs ≠ zs) (e : ExtB b H H') : SqL K H' a zs := by
  rcases h with (h | ⟨o, h⟩) | h
  · have n : a ≠ b := by
      rcases hne with q | q
      · exact q
      · intro z
        rw [z, hb] at h
        exact q (HO.lst.inj (Option.some.inj h))
    exact .inl (.inl (e _ _ n h))
  · have n : a ≠ b := fun z => by rw [z, hb] at h; cases h
    exact .inl (.inr ⟨o, e _ _ n h⟩)
  · exact .inr h
theorem Bag.its_mv {K : Frag} {H H' : Hp} {b l : Addr} {ns : List Int} (B : Bag K H b l ns) (e : ExtB b H H') : SqL K H' l (ns.map V.int) := by
  obtain ⟨i, g, s, n, h, _⟩ := B.at_
  refine sqL_extB B.its h (.inr fun z => ?_) e
  cases ns with
  | nil => cases z
  | cons x ns => cases z
/-- the bag may have turned, no more -/
structure Mv (K : Frag) (b l : Addr) (ns : List Int) (H H' : Hp) : Prop where
  bag : Bag K H' b l ns
  ext : ExtB b H H'
theorem Mv.trans {K : Frag} {b l : Addr} {ns : List Int} {H H1 H2 : Hp} (h : Mv K b l ns H H1) (k : Mv K b l ns H1 H2) : Mv K b l ns H H2 := ⟨k.bag, h.ext.trans k.ext⟩
theorem Mv.of {K : Frag} {b l : Addr} {ns : List Int} {H H1 : Hp} (B : Bag K H b l ns) (e : Ext H H1) : Mv K b l ns H H1 := ⟨B.ext e, ext_b e⟩
theorem Mv.rfl' {K : Frag} {b l : Addr} {ns : List Int} {H : Hp} (B : Bag K H b l ns) : Mv K b l ns H H := ⟨B, fun _ _ _ h => h⟩
/-- a list that H did not know is changed -/
theorem Mv.at {K : Frag} {b l : Addr} {ns : List Int} {H H1 : Hp} {D : Addr} {o : HO} (B : Bag K H b l ns) (m : Mv K b l ns H H1) (hD : H D = none) : Mv K b l ns H (upd H1 D o) := by
  obtain ⟨i, g, s, n, h, _⟩ := B.at_
  have e : ExtB b H (upd H1 D o) := fun a u h1 h2 => by rw [upd_ne (ne_of_none h2 hD)]; exact m.ext a u h1 h2
  obtain ⟨i', g', s', n', h', r⟩ := m.bag.at_
  exact ⟨⟨⟨i', g', s', n', by rw [upd_ne (ne_of_none h hD)]; exact h', r⟩, B.its_mv e⟩, e⟩
theorem sqT_extB {K : Frag} {H H' : Hp} {a b : Addr} {zs xs : List V} (h : SqT K H a zs) (hb : H b = some (.lst xs)) (e : ExtB b H H') : SqT K H' a zs := by
  rcases h with (h | ⟨o, h⟩) | h
  · exact .inl (.inl (e _ _ (fun z => by rw [z, hb] at h; cases h) h))
  · exact .inl (.inr ⟨o, e _ _ (fun z => by rw [z, hb] at h; cases h) h⟩)
  · exact .inr h
section
variable {K : Frag} {H H' : Hp} {b l a : Addr} {ns : List Int} {v : V} {q : Rat} {qs : List Rat} {xs : List V}
theorem Fr.mv (h : Fr K H v q) (B : Bag K H b l ns) (e : ExtB b H H') : Fr K H' v q := by
  obtain ⟨a, rfl, t⟩ := h
  obtain ⟨_, _, _, _, hb, _⟩ := B.at_
  exact ⟨a, rfl, sqT_extB t hb e⟩
theorem Frs.mv (h : Frs K H xs qs) (B : Bag K H b l ns) (e : ExtB b H H') : Frs K H' xs qs := ⟨h.1, fun i q hq => by
  obtain ⟨x, hx, f⟩ := h.2 i q hq
  exact ⟨x, hx, f.mv B e⟩⟩
theorem FL.mv (h : FL K H a qs) (B : Bag K H b l ns) (e : ExtB b H H') : FL K H' a qs := by
  obtain ⟨xs, s, f⟩ := h
  obtain ⟨i, _, _, _, hb, _⟩ := B.at_
  refine ⟨xs, sqL_extB s hb (.inr fun z => ?_) e, f.mv B e⟩
  subst z
  have hl := f.1
  have hq : qs[1]? = some (qs.getD 1 0) := by
    rw [List.getD_eq_getElem?_getD, List.getElem?_eq_getElem (by rw [← hl]; show 1 < 5; decide)]; rfl
  obtain ⟨x, hx, p, hp, _⟩ := f.2 1 _ hq
  have e1 : V.int i = x := Option.some.inj hx
  rw [← e1] at hp
  cases hp
theorem RowAt.mv {r : Addr} (h : RowAt K H r qs) (B : Bag K H b l ns) (e : ExtB b H H') : RowAt K H' r qs := by
  obtain ⟨dx, n, g, h1, h2, h3⟩ := h
  obtain ⟨i, _, _, _, hb, _⟩ := B.at_
  exact ⟨dx, n, g, e _ _ (fun z => by rw [z, hb] at h1; cases h1) h1, h2.mv B e, h3⟩
end
def spBag (K : Frag) : Sp := fun vs H Q _ => ∃ a ns, vs = [.ref a] ∧ SqL K H a (List.map V.int ns) ∧ ∀ b l ms H', Ext H H' → H b = none → Bag K H' b l ms → Q (.ref b) H'
def spDraw (K : Frag) : Sp := fun vs H Q _ => ∃ b l ns lim, vs = [.ref b, .int lim] ∧ Bag K H b l ns ∧ 1 ≤ lim ∧ lim ≤ 10000000 ∧ ∀ d H', 0 ≤ d → d < lim → Mv K b l ns H H' → Q (.int d) H'
def spOf (K : Frag) : Sp := fun vs H Q _ => ∃ (b l : Addr) (ns : List Int) (t : Addr) (xs : List V), vs = [.ref b, .ref t] ∧ Bag K H b l ns ∧ SqL K H t xs ∧ t ≠ b ∧ xs ≠ [] ∧ xs.length ≤ 1000 ∧ ∀ (i : Nat) (x : V) (H' : Hp), xs[i]? = some x → Mv K b l ns H H' → Q x H'
section
variable {P : Program} {w : World} {K : Frag} {mg : Str → Option Value} {base : Heap}
theorem cut_ints (ns : List Int) (lo hi : Option Int) : ∃ ms : List Int, cutV (ns.map V.int) lo hi = ms.map V.int := by
  unfold cutV
  rw [← List.map_drop, ← List.map_take]
  exact ⟨_, rfl⟩
theorem sc_law_bag : FnScope ["_law_script", "_law_seed", "_law_item"] ["_law_script"] (defScope s__law_bag) := sc_by (by decide +kernel)
theorem ok_law_bag (T : Tx K mg) : Ca P w K mg base CX0 1 "_law_bag" (spBag K) := by
  refine ca_of0 T.d__law_bag T.g__law_bag sc_law_bag (fun vs H Q E h => ?_) (fun _ _ _ _ _ _ us hl => match us, hl with | [_], _ => rfl) fun cdv A outer s H vs Q E hr h => ?_
  · obtain ⟨_, _, rfl, _⟩ := h
    rfl
  obtain ⟨a, ns, rfl, sa, hq⟩ := h
  refine ⟨_, (pss_cons (ps_set (i := 1) sc_law_bag.nd rfl (Or.inl rfl) pe_int)
    (pss_cons (ps_for PassesOwn.never rfl (pi_list (pe_slice sl_list (pv 0) po_none (po_some pe_int))) (pg_name (i := 2) sc_law_bag.nd rfl (Or.inl rfl) (Or.inr rfl)) (pss_one (ps_set (i := 1) sc_law_bag.nd rfl (Or.inl rfl) (pe_op op_mod (pe_callTy call_int1 (by rfl) T.f_int PyProof.Rows.Boot.«int» (pa_cons (pe_op op_add (pe_op op_add (pe_op op_mul (pv 1) pe_int) (pe_op op_mod (pe_callTy call_int1 (by rfl) T.f_int PyProof.Rows.Boot.«int» (pa_cons (pv 2) pa_nil)) pe_int)) pe_int) pa_nil)) pe_int))))
    (pss_one (ps_ret (pe_lst (pa_cons (pe_callTy call_list_of (by rfl) T.f_list PyProof.Rows.Boot.«list» (pa_cons (pe_slice sl_list (pv 0) po_none (po_some pe_int)) pa_nil)) (pa_cons pe_int (pa_cons pe_int (pa_cons (pv 1) (pa_cons pe_int pa_nil)))))))))), ?_⟩
  obtain ⟨ms, hms⟩ := cut_ints ns none (some 63)
  refine ⟨_, rfl, _, rfl, a, _, rfl, sa, fun p np => ⟨p, rfl, ⟨_, SqL.of upd_same⟩, ?_⟩⟩
  rw [hms]
  have ep := Ext.upd (o := .lst (ms.map V.int)) np
  refine for_it (walk_list (xs := ms.map V.int)) (fun i σ H' => (∃ (sd : Int) (o : Option V), σ = [some (.ref a), some (.int sd), o] ∧ 0 ≤ sd ∧ sd < 2147483629) ∧ Ext H H' ∧ H' p = some (.lst (ms.map V.int))) ⟨⟨13960, _, rfl, by decide, by decide⟩, ep, upd_same⟩ (fun i σ H' _ z => SqL.of z.2.2) (fun i x σ H1 H2 hi z y => ?_) (fun σ H' z => ?_)
  · obtain ⟨⟨sd, o, rfl, s1, s2⟩, e, hp⟩ := z
    obtain ⟨rfl, hx⟩ := y
    obtain ⟨j, rfl⟩ : ∃ j, x = .int j := by
      rw [List.getElem?_map] at hx
      cases q : ms[i]? with
      | none => rw [q] at hx; cases hx
      | some j => rw [q] at hx; exact ⟨j, (Option.some.inj hx).symm⟩
    refine ⟨_, rfl, _, _, rfl, rfl, .inr ⟨by decide, by decide⟩, _, rfl, .inl ⟨_, rfl, _, _, rfl, rfl, by show (0 : Int) < 2147483587; decide, _, _, rfl, rfl, _, _, rfl, rfl, .inl ⟨_, rfl, _, _, rfl, rfl, by show (0 : Int) < 2147483629; decide, ?_⟩⟩⟩
    exact ⟨⟨_, _, rfl, Int.emod_nonneg _ (by decide), Int.emod_lt_of_pos _ (by decide)⟩, e, hp⟩
  · obtain ⟨⟨sd, o, rfl, s1, s2⟩, e, hp⟩ := z
    refine ⟨_, rfl, _, rfl, a, _, rfl, sa.ext e, fun p2 np2 => ?_⟩
    rw [hms]
    refine ⟨p2, _, rfl, .inl (SqL.of upd_same), fun p3 np3 => ⟨_, rfl, lenOk (by show 5 ≤ 1000; decide), fun b nb => ?_⟩⟩
    have e2 := (e.trans (Ext.upd np2)).trans (Ext.upd (o := .lst (ms.map V.int)) np3)
    refine hq b p3 ms _ (e2.trans (Ext.upd nb)) (Ext.notIn e2 nb) ⟨⟨0, 0, sd, 0, upd_same, by decide, by decide, s1, s2⟩, SqL.of (Ext.upd nb _ _ upd_same)⟩
theorem sc_law_draw : FnScope ["_law_bag_here", "_law_limit", "_law_item", "_law_digit"] ["_law_bag_here", "_law_limit"] (defScope s__law_draw) := sc_by (by decide +kernel)
theorem ok_law_draw (T : Tx K mg) : Ca P w K mg base CX0 1 "_law_draw" (spDraw K) := by
  refine ca_of0 T.d__law_draw T.g__law_draw sc_law_draw (fun vs H Q E h => ?_) (fun _ _ _ _ _ _ us hl => match us, hl with | [_, _], _ => rfl) fun cdv A outer s H vs Q E hr h => ?_
  · obtain ⟨_, _, _, _, rfl, _⟩ := h
    rfl
  obtain ⟨b, l, ns, lim, rfl, B, l1, l2, hq⟩ := h
  refine ⟨_, (pss_cons (ps_asg (pe_op op_add (pe_ix ix_list (pv 0) pe_int (fun _ _ => rfl)) pe_int) (pg_sub (pv 0) pe_int set_list))
    (C8.pss_cut (ps_if (pw_and (pt_cmpR op_eq (pe_ix ix_list (pv 0) pe_int (fun _ _ => rfl)) pe_int (nomark _)) (pw_and1 (pt_cmpR op_lt (pe_ix ix_list (pv 0) pe_int (fun _ _ => rfl)) (pe_callB call_len_seq (by rfl) T.f_len PySem.boot_len (pa_cons (pe_ix ix_list (pv 0) pe_int (fun _ _ => rfl)) pa_nil)) (nomark _)))).pt (pss_cons (ps_set (i := 2) sc_law_draw.nd rfl (Or.inl rfl) (pe_ix ix_list (pe_ix ix_list (pv 0) pe_int (fun _ _ => rfl)) (pe_ix ix_list (pv 0) pe_int (fun _ _ => rfl)) (fun _ _ => rfl)))
    (pss_cons (ps_asg (pe_op op_add (pe_ix ix_list (pv 0) pe_int (fun _ _ => rfl)) pe_int) (pg_sub (pv 0) pe_int set_list))
    (pss_one (ps_if (pt_cmpR op_ge (pv 2) (pe_op op_pow pe_int pe_int) (nomark _)) (pss_one (ps_asg (pv 2) (pg_sub (pv 0) pe_int set_list))) (pss_one (ps_asg (pe_op op_mod (pe_callTy call_int1 (by rfl) T.f_int PyProof.Rows.Boot.«int» (pa_cons (pe_op op_add (pe_op op_add (pe_op op_mul (pe_ix ix_list (pv 0) pe_int (fun _ _ => rfl)) pe_int) (pe_op op_mul (pe_op op_mod (pe_callTy call_int1 (by rfl) T.f_int PyProof.Rows.Boot.«int» (pa_cons (pv 2) pa_nil)) pe_int) pe_int)) pe_int) pa_nil)) pe_int) (pg_sub (pv 0) pe_int set_list))))))) pss_nil)
    (pss_cons (ps_if (pt_cmpR op_gt (pe_ix ix_list (pv 0) pe_int (fun _ _ => rfl)) pe_int (nomark _)) (pss_cons (ps_set (i := 3) sc_law_draw.nd rfl (Or.inl rfl) (pe_op op_mod (pe_callTy call_int1 (by rfl) T.f_int PyProof.Rows.Boot.«int» (pa_cons (pe_ix ix_list (pv 0) pe_int (fun _ _ => rfl)) pa_nil)) (pv 1)))
    (pss_cons (ps_asg (pe_op op_fdivZ (pe_ix ix_list (pv 0) pe_int (fun _ _ => rfl)) (pv 1)) (pg_sub (pv 0) pe_int set_list))
    (pss_one (ps_ret (pv 3))))) pss_nil)
    (pss_cons (ps_asg (pe_op op_mod (pe_callTy call_int1 (by rfl) T.f_int PyProof.Rows.Boot.«int» (pa_cons (pe_op op_add (pe_op op_add (pe_op op_pow (pe_ix ix_list (pv 0) pe_int (fun _ _ => rfl)) pe_int) (pe_op op_mul (pe_ix ix_list (pv 0) pe_int (fun _ _ => rfl)) pe_int)) pe_int) pa_nil)) pe_int) (pg_sub (pv 0) pe_int set_list))
    (pss_one (ps_ret (pe_op op_mod (pe_callTy call_int1 (by rfl) T.f_int PyProof.Rows.Boot.«int» (pa_cons (pe_op op_add (pe_op op_fdivZ (pe_ix ix_list (pv 0) pe_int (fun _ _ => rfl)) pe_int) (pe_op op_mul (pe_op op_mod (pe_callTy call_int1 (by rfl) T.f_int PyProof.Rows.Boot.«int» (pa_cons (pe_ix ix_list (pv 0) pe_int (fun _ _ => rfl)) pa_nil)) pe_int) pe_int)) pa_nil)) (pv 1)))))))), ?_⟩
  obtain ⟨i, g, sd, n, hb, i0, g0, s0, s1⟩ := B.at_
  refine ⟨_, rfl, b, _, 4, _, rfl, rfl, SqL.of hb, rfl, _, _, rfl, rfl, _, rfl, b, _, 4, 4, rfl, rfl, hb, rfl, ?_⟩
  have hb1 : upd H b (.lst ([V.ref l, .int i, .int g, .int sd, .int n].set 4 (.int (n + 1)))) b = some (.lst [.ref l, .int i, .int g, .int sd, .int (n + 1)]) := upd_same
  have e1 : ExtB b H (upd H b (.lst ([V.ref l, .int i, .int g, .int sd, .int n].set 4 (.int (n + 1))))) := ExtB.put
  refine ⟨fun σ H' => ∃ o1 o2, ∃ i g sd n : Int, σ = [some (.ref b), some (.int lim), o1, o2] ∧ ExtB b H H' ∧ H' b = some (.lst [.ref l, .int i, .int g, .int sd, .int n]) ∧ 0 ≤ i ∧ 0 ≤ g ∧ 0 ≤ sd ∧ sd < 2147483629, ?_, fun σ H1 z => ?_⟩
  · refine ⟨_, rfl, b, _, 2, _, rfl, rfl, SqL.of hb1, rfl, rfl, _, rfl, ?_⟩
    by_cases gz : g = 0
    case neg =>
      rw [show decide (V.int g = V.int 0) = false from decide_eq_false fun z => gz (V.int.inj z)]
      exact iteF ⟨_, _, i, g, sd, n + 1, rfl, e1, hb1, i0, g0, s0, s1⟩
    rw [show decide (V.int g = V.int 0) = true from decide_eq_true (by rw [gz])]
    have its1 := B.its_mv e1
    refine iteT ⟨_, rfl, b, _, 1, _, rfl, rfl, SqL.of hb1, rfl, _, rfl, b, _, 0, _, rfl, rfl, SqL.of hb1, rfl, l, _, rfl, .inl its1, _, _, rfl, rfl, _, rfl, ?_⟩
    by_cases il : i < ((ns.map V.int).length : Int)
    case neg =>
      rw [decide_eq_false il]
      exact iteF ⟨_, _, i, g, sd, n + 1, rfl, e1, hb1, i0, g0, s0, s1⟩
    rw [decide_eq_true il]
    obtain ⟨k, rfl⟩ : ∃ k : Nat, i = (k : Int) := ⟨i.toNat, by omega⟩
    have kl : k < ns.length := by rw [List.length_map] at il; omega
    obtain ⟨it, hit⟩ : ∃ it : Int, (ns.map V.int)[k]? = some (.int it) := ⟨ns[k], by rw [List.getElem?_map, List.getElem?_eq_getElem kl]; rfl⟩
    refine iteT ⟨_, rfl, b, _, 0, _, rfl, rfl, SqL.of hb1, rfl, _, rfl, b, _, 1, _, rfl, rfl, SqL.of hb1, rfl, l, _, _, _, rfl, rfl, its1, atI_nat hit, ?_⟩
    refine ⟨_, rfl, b, _, 1, _, rfl, rfl, SqL.of hb1, rfl, _, _, rfl, rfl, _, rfl, b, _, 1, 1, rfl, rfl, hb1, rfl, ?_⟩
    have hb2 : upd (upd H b (.lst ([V.ref l, .int k, .int g, .int sd, .int n].set 4 (.int (n + 1))))) b (.lst ([V.ref l, .int k, .int g, .int sd, .int (n + 1)].set 1 (.int (k + 1)))) b = some (.lst [.ref l, .int (k + 1), .int g, .int sd, .int (n + 1)]) := upd_same
    have e2 := e1.trans (ExtB.put (o := .lst ([V.ref l, .int k, .int g, .int sd, .int (n + 1)].set 1 (.int (k + 1)))))
    refine ⟨_, rfl, _, _, rfl, rfl, ⟨by decide, by decide, by decide⟩, _, _, rfl, rfl, _, rfl, ?_⟩
    by_cases big : (10 : Int) ^ (18 : Int).toNat ≤ it
    · rw [decide_eq_true big]
      refine iteT ⟨_, rfl, _, rfl, b, _, 2, 2, rfl, rfl, hb2, rfl, ?_⟩
      have p0 : (0 : Int) ≤ it := Int.le_trans (by decide) big
      exact ⟨_, _, _, it, sd, n + 1, rfl, e2.trans ExtB.put, upd_same, by omega, p0, s0, s1⟩
    · rw [decide_eq_false big]
      refine iteF ⟨_, rfl, b, _, 3, _, rfl, rfl, SqL.of hb2, rfl, _, _, rfl, rfl, .inr ⟨by decide, by decide⟩, ?_⟩
      refine ⟨_, rfl, .inl ⟨_, rfl, _, _, rfl, rfl, by show (0 : Int) < 2147483549; decide, _, _, rfl, rfl, .inr ⟨by decide, by decide⟩, _, _, rfl, rfl, _, _, rfl, rfl, .inl ⟨_, rfl, _, _, rfl, rfl, by show (0 : Int) < 2147483629; decide, ?_⟩⟩⟩
      refine ⟨_, rfl, b, _, 3, 3, rfl, rfl, hb2, rfl, ?_⟩
      exact ⟨_, _, _, g, _, n + 1, rfl, e2.trans ExtB.put, upd_same, by omega, g0, Int.emod_nonneg _ (by decide), Int.emod_lt_of_pos _ (by decide)⟩
  · obtain ⟨o1, o2, i, g, sd, n, rfl, e, hb, i0, g0, s0, s1⟩ := z
    have lp : (0 : Int) < lim := by omega
    refine ⟨_, rfl, b, _, 2, _, rfl, rfl, SqL.of hb, rfl, _, _, rfl, rfl, _, rfl, ?_⟩
    by_cases gp : 0 < g
    · rw [decide_eq_true gp]
      have sl : Sz lim 30 := by unfold Sz; have : (2 : Nat) ^ 30 = 1073741824 := rfl; omega
      refine iteT ⟨_, rfl, b, _, 2, _, rfl, rfl, SqL.of hb, rfl, .inl ⟨_, rfl, _, rfl, _, _, rfl, rfl, lp, ?_⟩⟩
      refine ⟨_, rfl, b, _, 2, _, rfl, rfl, SqL.of hb, rfl, _, rfl, _, _, rfl, rfl, sl.div (by omega) (by omega) _, ?_⟩
      refine ⟨_, rfl, b, _, 2, 2, rfl, rfl, hb, rfl, ?_⟩
      have e2 := e.trans (ExtB.put (o := .lst ([V.ref l, .int i, .int g, .int sd, .int n].set 2 (.int (g.fdiv lim)))))
      exact ⟨_, rfl, hq _ _ (Int.emod_nonneg _ (by omega)) (Int.emod_lt_of_pos _ lp) ⟨⟨⟨i, g.fdiv lim, sd, n, upd_same, i0, by rw [fdiv_e (by omega)]; exact Int.ediv_nonneg g0 (by omega), s0, s1⟩, B.its_mv e2⟩, e2⟩⟩
    · rw [decide_eq_false gp]
      refine iteF ⟨_, rfl, b, _, 3, _, rfl, rfl, SqL.of hb, rfl, _, _, rfl, rfl, ⟨by decide, by decide, by have : (2 : Nat) ^ 64 = 18446744073709551616 := rfl; omega⟩, ?_⟩
      refine ⟨_, rfl, b, _, 4, _, rfl, rfl, SqL.of hb, rfl, _, _, rfl, rfl, .inr ⟨by decide, by decide⟩, _, _, rfl, rfl, _, _, rfl, rfl, .inl ⟨_, rfl, _, _, rfl, rfl, by show (0 : Int) < 2147483629; decide, ?_⟩⟩
      refine ⟨_, rfl, b, _, 3, 3, rfl, rfl, hb, rfl, ?_⟩
      let sd2 : Int := (sd ^ (3 : Int).toNat + n * 1299709 + 60013) % 2147483629
      have p0 : 0 ≤ sd2 := Int.emod_nonneg _ (by decide)
      have p1 : sd2 < 2147483629 := Int.emod_lt_of_pos _ (by decide)
      have e2 := e.trans (ExtB.put (o := .lst ([V.ref l, .int i, .int g, .int sd, .int n].set 3 (.int sd2))))
      have hb2 : upd H1 b (.lst ([V.ref l, .int i, .int g, .int sd, .int n].set 3 (.int sd2))) b = some (.lst [.ref l, .int i, .int g, .int sd2, .int n]) := upd_same
      have s97 : Sz 97 10 := by unfold Sz; decide
      refine ⟨_, rfl, b, _, 3, _, rfl, rfl, SqL.of hb2, rfl, _, _, rfl, rfl, s97.div (by decide) (by omega) _, ?_⟩
      refine ⟨_, rfl, b, _, 3, _, rfl, rfl, SqL.of hb2, rfl, .inl ⟨_, rfl, _, _, rfl, rfl, by show (0 : Int) < 7901; decide, _, _, rfl, rfl, .inr ⟨by decide, by decide⟩, _, _, rfl, rfl, .inl ⟨_, rfl, _, rfl, _, _, rfl, rfl, lp, ?_⟩⟩⟩
      exact hq _ _ (Int.emod_nonneg _ (by omega)) (Int.emod_lt_of_pos _ lp) ⟨⟨⟨i, g, sd2, n, upd_same, i0, g0, p0, p1⟩, B.its_mv e2⟩, e2⟩
theorem sc_law_of : FnScope ["_law_bag_here", "_law_things"] ["_law_bag_here", "_law_things"] (defScope s__law_of) := sc_by (by decide +kernel)
theorem ok_law_of (T : Tx K mg) : Ca P w K mg base CX0 2 "_law_of" (spOf K) := by
  have c_law_draw := ok_law_draw (P := P) (w := w) (base := base) T
  refine ca_of0 T.d__law_of T.g__law_of sc_law_of (fun vs H Q E h => ?_) (fun _ _ _ _ _ _ us hl => match us, hl with | [_, _], _ => rfl) fun cdv A outer s H vs Q E hr h => ?_
  · obtain ⟨_, _, _, _, _, rfl, _⟩ := h
    rfl
  obtain ⟨b, l, ns, t, xs, rfl, B, st, hne, h0, h1, hq⟩ := h
  have h2 : 0 < xs.length := List.length_pos_iff.mpr h0
  obtain ⟨_, _, _, _, hb, _⟩ := B.at_
  refine ⟨_, (pss_one (ps_ret (pe_ix ix_list (pv 1) (pe_ca c_law_draw hr (by decide) pass0 (pa_cons (pv 0) (pa_cons (pe_callB call_len_seq (by rfl) T.f_len PySem.boot_len (pa_cons (pv 1) pa_nil)) pa_nil))) (fun _ _ => rfl)))), ?_⟩
  refine ⟨_, rfl, _, rfl, _, rfl, t, xs, rfl, .inl st, b, l, ns, _, rfl, B, by omega, by omega, fun d H' d0 d1 m => ?_⟩
  obtain ⟨k, rfl⟩ : ∃ k : Nat, d = (k : Int) := ⟨d.toNat, by omega⟩
  have kl : k < xs.length := by omega
  exact ⟨t, xs, _, _, rfl, rfl, sqL_extB st hb (.inl hne) m.ext, atI_nat (List.getElem?_eq_getElem kl), hq k _ _ (List.getElem?_eq_getElem kl) m⟩
end
end K4
end
section
set_option Elab.async false
set_option linter.all false
set_option maxRecDepth 100000
set_option maxHeartbeats 4000000
/-! The walks, 13: drawn numbers, drawn rows. -/
namespace K4
open PySem PySem.Spec PyProof.Rows L2 K04
theorem Bag.fresh {K : Frag} {H : Hp} {b l t : Addr} {ns : List Int} (B : Bag K H b l ns) (ht : H t = none) : t ≠ b := fun z => by
  obtain ⟨_, _, _, _, hb, _⟩ := B.at_
  rw [z, hb] at ht
  cases ht
theorem sgn (z : Int) : ∃ s : Int, s.natAbs = 1 ∧ ((z.natAbs : Nat) : Rat) = (s : Rat) * (z : Rat) := by
  by_cases q : 0 ≤ z
  · refine ⟨1, rfl, ?_⟩
    have : ((z.natAbs : Nat) : Int) = 1 * z := by omega
    rw [← Rat.intCast_mul, ← this, Rat.intCast_natCast]
  · refine ⟨-1, rfl, ?_⟩
    have : ((z.natAbs : Nat) : Int) = -1 * z := by omega
    rw [← Rat.intCast_mul, ← this, Rat.intCast_natCast]
theorem divInt_bz (p : Int) {q : Int} (h : q ≠ 0) : Bz q.natAbs p.natAbs (Rat.divInt p q) := by
  obtain ⟨s, hs, e⟩ := sgn q
  have hq : (q : Rat) ≠ 0 := by
    intro z
    exact h (by exact_mod_cast z)
  refine ⟨s * p, ?_, by rw [Int.natAbs_mul, hs, Nat.one_mul]; exact Nat.le_refl _⟩
  rw [e, Rat.divInt_eq_div, Rat.intCast_mul]; grind
theorem divInt_sq {p q : Int} {a b : Nat} (h : q ≠ 0) (hq : Sz q a) (hp : Sz p b) : Sq a b (Rat.divInt p q) := by
  obtain ⟨x, y⟩ := (divInt_bz p h).size (by omega)
  exact ⟨Nat.le_trans x hq, Nat.le_trans y hp⟩
/-- a number of a drawn row -/
abbrev NumB (q : Rat) : Prop := Bz 6 (2 ^ 23) q
theorem numB_of {p q : Int} (hq : q = 1 ∨ q = 2 ∨ q = 3) (hp : p.natAbs ≤ 1000008) : NumB (Rat.divInt p q) := by
  have e : (2 : Nat) ^ 23 = 8388608 := rfl
  rcases hq with rfl | rfl | rfl
  · exact ((divInt_bz p (by decide)).up 6).mono (by omega)
  · exact ((divInt_bz p (by decide)).up 3).mono (by omega)
  · exact ((divInt_bz p (by decide)).up 2).mono (by omega)
theorem numB_0 : NumB 0 := .zero
theorem numB_1 : NumB 1 := ⟨6, by rw [Rat.one_mul]; rfl, by decide⟩
theorem cut_to (xs : List V) (k : Nat) : cutV xs none (some (k : Int)) = xs.take k := by
  unfold cutV
  rw [HT.sIx_nat, HT.sIx_none, List.drop_zero, Nat.sub_zero]
  by_cases h : k ≤ xs.length
  · rw [Nat.min_eq_left h]
  · rw [Nat.min_eq_right (by omega), List.take_length, List.take_of_length_le (by omega)]
theorem cut_m1 (xs : List V) : cutV xs none (some (-1)) = xs.take (xs.length - 1) := by
  unfold cutV
  have e : HT.sIx xs.length xs.length (some (-1)) = xs.length - 1 := by
    show (if (-1 : Int) < 0 then ((-1 : Int) + (xs.length : Int)).toNat else min (-1 : Int).toNat xs.length) = _
    rw [if_pos (by decide)]
    omega
  rw [e, HT.sIx_none, List.drop_zero, Nat.sub_zero]
theorem flat_rep {α : Type} (z : α) : ∀ g : Nat, (List.replicate g [z]).flatten = List.replicate g z
  | 0 => rfl
  | g + 1 => by rw [List.replicate_succ, List.flatten_cons, flat_rep z g]; rfl
def spSmall (K : Frag) : Sp := fun vs H Q _ => ∃ b l ns, vs = [.ref b] ∧ Bag K H b l ns ∧ ∀ v q H', Fr K H' v q → Sq 2 2 q → Mv K b l ns H H' → Q v H'
def spBig (K : Frag) : Sp := fun vs H Q _ => ∃ b l ns, vs = [.ref b] ∧ Bag K H b l ns ∧ ∀ d H', Sz d 200 → Mv K b l ns H H' → Q (.int d) H'
def spWide (K : Frag) : Sp := fun vs H Q _ => ∃ b l ns, vs = [.ref b] ∧ Bag K H b l ns ∧ ∀ v q H', Fr K H' v q → Sq 200 200 q → Mv K b l ns H H' → Q v H'
def spNum (K : Frag) : Sp := fun vs H Q _ => ∃ b l ns, vs = [.ref b] ∧ Bag K H b l ns ∧ ∀ v q H', Fr K H' v q → NumB q → Mv K b l ns H H' → Q v H'
def spLRow (K : Frag) : Sp := fun vs H Q _ => ∃ b l ns x f, ∃ n : Nat, vs = [.ref b, .int n, x] ∧ Bag K H b l ns ∧ Fr K H x f ∧ NumB f ∧ 1 ≤ n ∧ n ≤ 10 ∧ ∀ v qs H', Mv K b l ns H H' → H v = none → FL K H' v qs → qs.length = n + 1 → qs.getD 0 0 = f → (∀ i, i < n + 1 → NumB (qs.getD i 0)) → Q (.ref v) H'
theorem bagU {K : Frag} {H : Hp} {b l t : Addr} {ns : List Int} {xs : List V} (B : Bag K H b l ns) (ht : H t = none) : Bag K (upd H t (.lst xs)) b l ns := B.ext (Ext.upd ht)
section
variable {P : Program} {w : World} {K : Frag} {mg : Str → Option Value} {base : Heap}
theorem sc_law_small : FnScope ["_law_bag_here", "_law_p"] ["_law_bag_here"] (defScope s__law_small) := sc_by (by decide +kernel)
theorem ok_law_small (T : Tx K mg) : Ca P w K mg base CX0 3 "_law_small" (spSmall K) := by
  have c_law_draw := ok_law_draw (P := P) (w := w) (base := base) T
  have c_law_of := ok_law_of (P := P) (w := w) (base := base) T
  have c_law_low := ok_law_low (P := P) (w := w) (base := base) T
  refine ca_of0 T.d__law_small T.g__law_small sc_law_small (fun vs H Q E h => ?_) (fun _ _ _ _ _ _ us hl => match us, hl with | [_], _ => rfl) fun cdv A outer s H vs Q E hr h => ?_
  · obtain ⟨_, _, _, rfl, _⟩ := h
    rfl
  obtain ⟨b, l, ns, rfl, B, hq⟩ := h
  refine ⟨_, (pss_cons (ps_set (i := 1) sc_law_small.nd rfl (Or.inl rfl) (pe_op op_sub (pe_ca c_law_draw hr (by decide) pass0 (pa_cons (pv 0) (pa_cons pe_int pa_nil))) pe_int))
    (pss_one (ps_ret (pe_ca c_law_low hr (by decide) pass0 (pa_cons (pv 1) (pa_cons (pe_ca c_law_of hr (by decide) pass0 (pa_cons (pv 0) (pa_cons (pe_lst (pa_cons pe_int (pa_cons pe_int (pa_cons pe_int (pa_cons pe_int (pa_cons pe_int pa_nil)))))) pa_nil))) pa_nil)))))), ?_⟩
  refine ⟨_, rfl, b, l, ns, 7, rfl, B, by decide, by decide, fun d H1 d0 d1 m1 => ⟨_, _, rfl, rfl, ?_⟩⟩
  refine ⟨_, rfl, _, rfl, lenOk (by show 5 ≤ 1000; decide), fun t ht => ⟨b, l, ns, t, _, rfl, bagU m1.bag ht, SqL.of upd_same, m1.bag.fresh ht, by simp, by show 5 ≤ 1000; decide, fun i x H2 hx m2 => ?_⟩⟩
  have m := m1.trans ((Mv.of m1.bag (Ext.upd ht)).trans m2)
  obtain ⟨q, rfl, q1, q2⟩ : ∃ q : Int, x = .int q ∧ 1 ≤ q ∧ q ≤ 4 := by
    have := List.mem_of_getElem? hx
    simp only [List.mem_cons, List.not_mem_nil, or_false] at this
    rcases this with rfl | rfl | rfl | rfl | rfl
    · exact ⟨1, rfl, by decide, by decide⟩
    · exact ⟨2, rfl, by decide, by decide⟩
    · exact ⟨1, rfl, by decide, by decide⟩
    · exact ⟨3, rfl, by decide, by decide⟩
    · exact ⟨4, rfl, by decide, by decide⟩
  have e2 : (2 : Nat) ^ 2 = 4 := rfl
  have sq : Sz q 2 := by unfold Sz; omega
  have sp : Sz (d - 3) 2 := by unfold Sz; omega
  exact ⟨_, q, rfl, by omega, sq.mono (by omega), fun v H3 e3 fv => hq v _ _ fv (divInt_sq (by omega) sq sp) (m.trans (Mv.of m.bag e3))⟩
theorem sc_law_big : FnScope ["_law_bag_here", "_law_p", "_law_k"] ["_law_bag_here"] (defScope s__law_big) := sc_by (by decide +kernel)
theorem ok_law_big (T : Tx K mg) : Ca P w K mg base CX0 3 "_law_big" (spBig K) := by
  have c_law_draw := ok_law_draw (P := P) (w := w) (base := base) T
  have c_law_of := ok_law_of (P := P) (w := w) (base := base) T
  refine ca_of0 T.d__law_big T.g__law_big sc_law_big (fun vs H Q E h => ?_) (fun _ _ _ _ _ _ us hl => match us, hl with | [_], _ => rfl) fun cdv A outer s H vs Q E hr h => ?_
  · obtain ⟨_, _, _, rfl, _⟩ := h
    rfl
  obtain ⟨b, l, ns, rfl, B, hq⟩ := h
  refine ⟨_, (pss_cons (ps_set (i := 1) sc_law_big.nd rfl (Or.inl rfl) (pe_ca c_law_draw hr (by decide) pass0 (pa_cons (pv 0) (pa_cons (pe_ca c_law_of hr (by decide) pass0 (pa_cons (pv 0) (pa_cons (pe_lst (pa_cons pe_int (pa_cons pe_int (pa_cons pe_int (pa_cons pe_int (pa_cons pe_int (pa_cons pe_int pa_nil))))))) pa_nil))) pa_nil))))
    (pss_cons (ps_for PassesOwn.never rfl (pi_range1 (by rfl) T.f_range (pa_cons (pe_ca c_law_of hr (by decide) pass0 (pa_cons (pv 0) (pa_cons (pe_lst (pa_cons pe_int (pa_cons pe_int (pa_cons pe_int (pa_cons pe_int (pa_cons pe_int (pa_cons pe_int (pa_cons pe_int pa_nil)))))))) pa_nil))) pa_nil)) (pg_name (i := 2) sc_law_big.nd rfl (Or.inl rfl) (Or.inr rfl)) (pss_one (ps_set (i := 1) sc_law_big.nd rfl (Or.inl rfl) (pe_op op_add (pe_op op_mul (pv 1) (pe_op op_pow pe_int pe_int)) (pe_ca c_law_draw hr (by decide) pass0 (pa_cons (pv 0) (pa_cons (pe_op op_pow pe_int pe_int) pa_nil)))))))
    (pss_one (ps_ret (pe_ifExp (pt_cmpR op_eq (pe_ca c_law_draw hr (by decide) pass0 (pa_cons (pv 0) (pa_cons pe_int pa_nil))) pe_int (nomark _)) (pe_un un_neg (pv 1)) (pv 1)))))), ?_⟩
  refine ⟨_, rfl, _, rfl, lenOk (by show 6 ≤ 1000; decide), fun t ht => ⟨b, l, ns, t, _, rfl, bagU B ht, SqL.of upd_same, B.fresh ht, by simp, by show 6 ≤ 1000; decide, fun i x H1 hx m1 => ?_⟩⟩
  have m1 := (Mv.of B (Ext.upd ht)).trans m1
  obtain ⟨lim, rfl, q1, q2⟩ : ∃ q : Int, x = .int q ∧ 1 ≤ q ∧ q ≤ 10000 := by
    have := List.mem_of_getElem? hx
    simp only [List.mem_cons, List.not_mem_nil, or_false] at this
    rcases this with rfl | rfl | rfl | rfl | rfl | rfl
    · exact ⟨2, rfl, by decide, by decide⟩
    · exact ⟨4, rfl, by decide, by decide⟩
    · exact ⟨10, rfl, by decide, by decide⟩
    · exact ⟨10, rfl, by decide, by decide⟩
    · exact ⟨100, rfl, by decide, by decide⟩
    · exact ⟨10000, rfl, by decide, by decide⟩
  refine ⟨b, l, ns, lim, rfl, m1.bag, q1, by omega, fun p H2 p0 p1 m2 => ?_⟩
  have m2 := m1.trans m2
  refine ⟨_, rfl, lenOk (by show 7 ≤ 1000; decide), fun t2 ht2 => ⟨b, l, ns, t2, _, rfl, bagU m2.bag ht2, SqL.of upd_same, m2.bag.fresh ht2, by simp, by show 7 ≤ 1000; decide, fun i2 x2 H3 hx2 m3 => ?_⟩⟩
  have m3 := m2.trans ((Mv.of m2.bag (Ext.upd ht2)).trans m3)
  obtain ⟨k, rfl, k8⟩ : ∃ k : Nat, x2 = .int (k : Int) ∧ k ≤ 8 := by
    have := List.mem_of_getElem? hx2
    simp only [List.mem_cons, List.not_mem_nil, or_false] at this
    rcases this with rfl | rfl | rfl | rfl | rfl | rfl | rfl
    · exact ⟨0, rfl, by decide⟩
    · exact ⟨0, rfl, by decide⟩
    · exact ⟨0, rfl, by decide⟩
    · exact ⟨0, rfl, by decide⟩
    · exact ⟨1, rfl, by decide⟩
    · exact ⟨2, rfl, by decide⟩
    · exact ⟨8, rfl, by decide⟩
  refine ⟨(k : Int), rfl, by omega, by omega, ?_⟩
  rw [Int.toNat_natCast]
  refine for_it walk_range (fun i σ H' => (∃ (p : Int) (o : Option V), σ = [some (.ref b), some (.int p), o] ∧ 0 ≤ p ∧ p < 10000 * (10000000 : Int) ^ i) ∧ Mv K b l ns H H') ⟨⟨p, _, rfl, p0, by omega⟩, m3⟩ (fun i σ H' _ z => trivial) (fun i x σ H1 H2 hi z y => ?_) (fun σ H' z => ?_)
  · obtain ⟨⟨p, o, rfl, p0, p1⟩, m⟩ := z
    obtain ⟨rfl, rfl⟩ := y
    refine ⟨_, rfl, _, _, rfl, rfl, ⟨by decide, by decide, by decide⟩, _, _, rfl, rfl, .inr ⟨by decide, by decide⟩, _, rfl, _, _, rfl, rfl, ⟨by decide, by decide, by decide⟩, ?_⟩
    refine ⟨b, l, ns, _, rfl, m.bag, by decide, by decide, fun d H3 d0 d1 m4 => ⟨_, _, rfl, rfl, ⟨⟨_, _, rfl, ?_, ?_⟩, m.trans m4⟩⟩⟩
    · have : (0 : Int) ≤ p * (10 : Int) ^ (7 : Int).toNat := Int.mul_nonneg p0 (by decide)
      omega
    · have e7 : (10 : Int) ^ (7 : Int).toNat = 10000000 := by decide
      rw [e7] at d1 ⊢
      have e8 : (10000000 : Int) ^ (i + 1) = (10000000 : Int) ^ i * 10000000 := Int.pow_succ ..
      rw [e8]
      omega
  · obtain ⟨⟨p, o, rfl, p0, p1⟩, m⟩ := z
    have sp : Sz p 200 := by
      unfold Sz
      have h1 : (10000000 : Int) ^ k ≤ (10000000 : Int) ^ 8 := by
        rcases (by omega : k = 0 ∨ k = 1 ∨ k = 2 ∨ k = 3 ∨ k = 4 ∨ k = 5 ∨ k = 6 ∨ k = 7 ∨ k = 8) with q | q | q | q | q | q | q | q | q <;> rw [q] <;> decide
      have h2 : p < 10000 * (10000000 : Int) ^ 8 := Int.lt_of_lt_of_le p1 (Int.mul_le_mul_of_nonneg_left h1 (by decide))
      have h3 : (10000 * (10000000 : Int) ^ 8) ≤ ((2 ^ 200 : Nat) : Int) := by decide
      omega
    refine ⟨_, rfl, b, l, ns, 2, rfl, m.bag, by decide, by decide, fun d H3 d0 d1 m4 => ⟨rfl, _, rfl, ?_⟩⟩
    by_cases e : d = 1
    · rw [show decide (V.int d = V.int 1) = true from decide_eq_true (by rw [e])]
      exact iteT ⟨_, rfl, _, rfl, hq _ _ sp.neg (m.trans m4)⟩
    · rw [show decide (V.int d = V.int 1) = false from decide_eq_false fun z => e (V.int.inj z)]
      exact iteF ⟨_, rfl, hq _ _ sp (m.trans m4)⟩
theorem sc_law_wide : FnScope ["_law_bag_here", "_law_p", "_law_q"] ["_law_bag_here"] (defScope s__law_wide) := sc_by (by decide +kernel)
theorem ok_law_wide (T : Tx K mg) : Ca P w K mg base CX0 4 "_law_wide" (spWide K) := by
  have c_law_draw := ok_law_draw (P := P) (w := w) (base := base) T
  have c_law_big := ok_law_big (P := P) (w := w) (base := base) T
  have c_law_low := ok_law_low (P := P) (w := w) (base := base) T
  refine ca_of0 T.d__law_wide T.g__law_wide sc_law_wide (fun vs H Q E h => ?_) (fun _ _ _ _ _ _ us hl => match us, hl with | [_], _ => rfl) fun cdv A outer s H vs Q E hr h => ?_
  · obtain ⟨_, _, _, rfl, _⟩ := h
    rfl
  obtain ⟨b, l, ns, rfl, B, hq⟩ := h
  refine ⟨_, (pss_cons (ps_set (i := 1) sc_law_wide.nd rfl (Or.inl rfl) (pe_ca c_law_big hr (by decide) pass0 (pa_cons (pv 0) pa_nil)))
    (pss_cons (ps_set (i := 2) sc_law_wide.nd rfl (Or.inl rfl) (pe_ifExp (pt_cmpR op_gt (pe_ca c_law_draw hr (by decide) pass0 (pa_cons (pv 0) (pa_cons pe_int pa_nil))) pe_int (nomark _)) (pe_ca c_law_big hr (by decide) pass0 (pa_cons (pv 0) pa_nil)) pe_int))
    (pss_one (ps_ret (pe_ca c_law_low hr (by decide) pass0 (pa_cons (pv 1) (pa_cons (pe_ifExp (pt_cmpR op_ne (pv 2) pe_int (nomark _)) (pv 2) pe_int) pa_nil))))))), ?_⟩
  refine ⟨_, rfl, b, l, ns, rfl, B, fun p H1 sp m1 => ?_⟩
  refine ⟨_, rfl, b, l, ns, 3, rfl, m1.bag, by decide, by decide, fun d H2 d0 d1 m2 => ⟨_, _, rfl, rfl, _, rfl, ?_⟩⟩
  have m2 := m1.trans m2
  have s1 : Sz 1 200 := by unfold Sz; decide
  by_cases dz : 0 < d
  · rw [decide_eq_true dz]
    refine iteT ⟨_, rfl, b, l, ns, rfl, m2.bag, fun q H3 sq m3 => ?_⟩
    have m3 := m2.trans m3
    refine ⟨_, rfl, _, rfl, rfl, _, rfl, ?_⟩
    by_cases qz : q = 0
    · rw [show (!decide (V.int q = V.int 0)) = false from by rw [qz]; rfl]
      exact iteF ⟨p, 1, rfl, by decide, s1.mono (by omega), fun v H4 e4 fv => hq v _ _ fv (divInt_sq (by decide) s1 sp) (m3.trans (Mv.of m3.bag e4))⟩
    · rw [show (!decide (V.int q = V.int 0)) = true from by rw [decide_eq_false fun z => qz (V.int.inj z)]; rfl]
      exact iteT ⟨_, rfl, p, q, rfl, qz, sq.mono (by omega), fun v H4 e4 fv => hq v _ _ fv (divInt_sq qz sq sp) (m3.trans (Mv.of m3.bag e4))⟩
  · rw [decide_eq_false dz]
    refine iteF ⟨_, rfl, _, rfl, rfl, _, rfl, ?_⟩
    rw [show (!decide (V.int 1 = V.int 0)) = true from rfl]
    exact iteT ⟨_, rfl, p, 1, rfl, by decide, s1.mono (by omega), fun v H4 e4 fv => hq v _ _ fv (divInt_sq (by decide) s1 sp) (m2.trans (Mv.of m2.bag e4))⟩
theorem sc_law_number : FnScope ["_law_bag_here", "_law_pick", "_law_p"] ["_law_bag_here"] (defScope s__law_number) := sc_by (by decide +kernel)
theorem ok_law_number (T : Tx K mg) : Ca P w K mg base CX0 3 "_law_number" (spNum K) := by
  have c_law_draw := ok_law_draw (P := P) (w := w) (base := base) T
  have c_law_of := ok_law_of (P := P) (w := w) (base := base) T
  have c_law_low := ok_law_low (P := P) (w := w) (base := base) T
  refine ca_of0 T.d__law_number T.g__law_number sc_law_number (fun vs H Q E h => ?_) (fun _ _ _ _ _ _ us hl => match us, hl with | [_], _ => rfl) fun cdv A outer s H vs Q E hr h => ?_
  · obtain ⟨_, _, _, rfl, _⟩ := h
    rfl
  obtain ⟨b, l, ns, rfl, B, hq⟩ := h
  refine ⟨_, (pss_cons (ps_set (i := 1) sc_law_number.nd rfl (Or.inl rfl) (pe_ca c_law_draw hr (by decide) pass0 (pa_cons (pv 0) (pa_cons pe_int pa_nil))))
    (pss_cons (ps_if (pt_cmpR op_lt (pv 1) pe_int (nomark _)) (pss_one (ps_ret (pe_tup (pa_cons pe_int (pa_cons pe_int pa_nil))))) pss_nil)
    (pss_cons (ps_if (pt_cmpR op_lt (pv 1) pe_int (nomark _)) (pss_one (ps_ret (pe_tup (pa_cons pe_int (pa_cons pe_int pa_nil))))) pss_nil)
    (pss_cons (ps_set (i := 2) sc_law_number.nd rfl (Or.inl rfl) (pe_op op_add pe_int (pe_ca c_law_draw hr (by decide) pass0 (pa_cons (pv 0) (pa_cons pe_int pa_nil)))))
    (C8.pss_cut (ps_if (pt_cmpR op_eq (pv 1) pe_int (nomark _)) (pss_one (ps_set (i := 2) sc_law_number.nd rfl (Or.inl rfl) (pe_op op_add (pv 2) (pe_ca c_law_draw hr (by decide) pass0 (pa_cons (pv 0) (pa_cons (pe_ca c_law_of hr (by decide) pass0 (pa_cons (pv 0) (pa_cons (pe_lst (pa_cons pe_int (pa_cons pe_int (pa_cons pe_int pa_nil)))) pa_nil))) pa_nil)))))) pss_nil)
    (C8.pss_cut (ps_if (pt_cmpR op_eq (pe_ca c_law_draw hr (by decide) pass0 (pa_cons (pv 0) (pa_cons pe_int pa_nil))) pe_int (nomark _)) (pss_one (ps_set (i := 2) sc_law_number.nd rfl (Or.inl rfl) (pe_un un_neg (pv 2)))) pss_nil)
    (pss_one (ps_ret (pe_ca c_law_low hr (by decide) pass0 (pa_cons (pv 2) (pa_cons (pe_ca c_law_of hr (by decide) pass0 (pa_cons (pv 0) (pa_cons (pe_lst (pa_cons pe_int (pa_cons pe_int (pa_cons pe_int (pa_cons pe_int (pa_cons pe_int (pa_cons pe_int pa_nil))))))) pa_nil))) pa_nil))))))))))), ?_⟩
  refine ⟨_, rfl, b, l, ns, 18, rfl, B, by decide, by decide, fun k H1 k0 k1 m1 => ?_⟩
  refine ⟨_, rfl, _, _, rfl, rfl, _, rfl, ?_⟩
  by_cases k6 : k < 6
  · rw [decide_eq_true k6]
    exact iteT ⟨lenOk (by show 2 ≤ 1000; decide), fun t ht => hq _ 0 _ (whole_fr upd_same rfl) numB_0 (m1.trans (Mv.of m1.bag (Ext.upd ht)))⟩
  rw [decide_eq_false k6]
  refine iteF ⟨_, rfl, _, _, rfl, rfl, _, rfl, ?_⟩
  by_cases k8 : k < 8
  · rw [decide_eq_true k8]
    exact iteT ⟨lenOk (by show 2 ≤ 1000; decide), fun t ht => hq _ 1 _ (whole_fr upd_same rfl) numB_1 (m1.trans (Mv.of m1.bag (Ext.upd ht)))⟩
  rw [decide_eq_false k8]
  refine iteF ⟨_, rfl, b, l, ns, 9, rfl, m1.bag, by decide, by decide, fun p H2 p0 p1 m2 => ⟨_, _, rfl, rfl, ?_⟩⟩
  have m2 := m1.trans m2
  refine ⟨fun σ H' => ∃ p : Int, σ = [some (.ref b), some (.int k), some (.int p)] ∧ p.natAbs ≤ 1000008 ∧ Mv K b l ns H H', ?_, fun σ H3 z => ?_⟩
  · refine ⟨_, rfl, rfl, _, rfl, ?_⟩
    by_cases k17 : k = 17
    · rw [show decide (V.int k = V.int 17) = true from decide_eq_true (by rw [k17])]
      refine iteT ⟨_, rfl, _, rfl, _, rfl, lenOk (by show 3 ≤ 1000; decide), fun t ht => ⟨b, l, ns, t, _, rfl, bagU m2.bag ht, SqL.of upd_same, m2.bag.fresh ht, by simp, by show 3 ≤ 1000; decide, fun i x H3 hx m3 => ?_⟩⟩
      have m3 := m2.trans ((Mv.of m2.bag (Ext.upd ht)).trans m3)
      obtain ⟨lim, rfl, q1, q2⟩ : ∃ q : Int, x = .int q ∧ 1 ≤ q ∧ q ≤ 1000000 := by
        have := List.mem_of_getElem? hx
        simp only [List.mem_cons, List.not_mem_nil, or_false] at this
        rcases this with rfl | rfl | rfl
        · exact ⟨100, rfl, by decide, by decide⟩
        · exact ⟨10000, rfl, by decide, by decide⟩
        · exact ⟨1000000, rfl, by decide, by decide⟩
      exact ⟨b, l, ns, lim, rfl, m3.bag, q1, by omega, fun d H4 d0 d1 m4 => ⟨_, _, rfl, rfl, _, rfl, by omega, m3.trans m4⟩⟩
    · rw [show decide (V.int k = V.int 17) = false from decide_eq_false fun z => k17 (V.int.inj z)]
      exact iteF ⟨_, rfl, by omega, m2⟩
  · obtain ⟨p, rfl, pz, m3⟩ := z
    refine ⟨fun σ H' => ∃ p : Int, σ = [some (.ref b), some (.int k), some (.int p)] ∧ p.natAbs ≤ 1000008 ∧ Mv K b l ns H H', ?_, fun σ H4 z => ?_⟩
    · refine ⟨_, rfl, b, l, ns, 2, rfl, m3.bag, by decide, by decide, fun d H4 d0 d1 m4 => ⟨rfl, _, rfl, ?_⟩⟩
      by_cases e : d = 1
      · rw [show decide (V.int d = V.int 1) = true from decide_eq_true (by rw [e])]
        exact iteT ⟨_, rfl, _, rfl, _, rfl, by omega, m3.trans m4⟩
      · rw [show decide (V.int d = V.int 1) = false from decide_eq_false fun z => e (V.int.inj z)]
        exact iteF ⟨_, rfl, pz, m3.trans m4⟩
    · obtain ⟨p, rfl, pz, m4⟩ := z
      refine ⟨_, rfl, _, rfl, lenOk (by show 6 ≤ 1000; decide), fun t ht => ⟨b, l, ns, t, _, rfl, bagU m4.bag ht, SqL.of upd_same, m4.bag.fresh ht, by simp, by show 6 ≤ 1000; decide, fun i x H5 hx m5 => ?_⟩⟩
      have m5 := m4.trans ((Mv.of m4.bag (Ext.upd ht)).trans m5)
      obtain ⟨q, rfl, hq3⟩ : ∃ q : Int, x = .int q ∧ (q = 1 ∨ q = 2 ∨ q = 3) := by
        have := List.mem_of_getElem? hx
        simp only [List.mem_cons, List.not_mem_nil, or_false] at this
        rcases this with rfl | rfl | rfl | rfl | rfl | rfl
        · exact ⟨1, rfl, .inl rfl⟩
        · exact ⟨1, rfl, .inl rfl⟩
        · exact ⟨2, rfl, .inr (.inl rfl)⟩
        · exact ⟨1, rfl, .inl rfl⟩
        · exact ⟨3, rfl, .inr (.inr rfl)⟩
        · exact ⟨1, rfl, .inl rfl⟩
      have sq : Sz q 2 := by unfold Sz; have : (2 : Nat) ^ 2 = 4 := rfl; omega
      exact ⟨p, q, rfl, by omega, sq.mono (by omega), fun v H6 e6 fv => hq v _ _ fv (numB_of hq3 pz) (m5.trans (Mv.of m5.bag e6))⟩
theorem sc_law_row : FnScope ["_law_bag_here", "_law_size", "_law_first", "_law_gap", "_law_k"] ["_law_bag_here", "_law_size", "_law_first"] (defScope s__law_row) := sc_by (by decide +kernel)
theorem ok_law_row (T : Tx K mg) : Ca P w K mg base CX0 4 "_law_row" (spLRow K) := by
  have c_law_of := ok_law_of (P := P) (w := w) (base := base) T
  have c_law_number := ok_law_number (P := P) (w := w) (base := base) T
  refine ca_of0 T.d__law_row T.g__law_row sc_law_row (fun vs H Q E h => ?_) (fun _ _ _ _ _ _ us hl => match us, hl with | [_, _, _], _ => rfl) fun cdv A outer s H vs Q E hr h => ?_
  · obtain ⟨_, _, _, _, _, _, rfl, _⟩ := h
    rfl
  obtain ⟨b, l, ns, x, f, n, rfl, B, fx, nf, n1, n10, hq⟩ := h
  refine ⟨_, (pss_cons (ps_set (i := 3) sc_law_row.nd rfl (Or.inl rfl) (pe_ca c_law_of hr (by decide) pass0 (pa_cons (pv 0) (pa_cons (pe_lst (pa_cons pe_int (pa_cons pe_int (pa_cons pe_int (pa_cons pe_int (pa_cons pe_int (pa_cons (pv 1) pa_nil))))))) pa_nil))))
    (pss_one (ps_ret (pe_slice sl_list (pe_op op_cat (pe_op op_cat (pe_lst (pa_cons (pv 2) pa_nil)) (pe_op op_rep (pe_lst (pa_cons (pe_tup (pa_cons pe_int (pa_cons pe_int pa_nil))) pa_nil)) (pv 3))) (pe_lc (own := [("_law_k", 4)]) rfl sc_law_row.nd (pi_range1 (by rfl) T.f_range (pa_cons (pv 1) pa_nil)) (blkOk_by (N := ["_law_bag_here", "_law_size", "_law_first", "_law_gap", "_law_k"]) (sc := defScope s__law_row) (by decide +kernel)) (fun _ _ _ _ _ => (pg_name (i := 4) sc_law_row.nd rfl (Or.inl rfl) (Or.inr rfl))) (fun _ _ _ _ _ => pts_nil) (fun _ _ _ _ _ => (pe_ca c_law_number hr (by decide) pass0 (pa_cons (pv 0) pa_nil))))) po_none (po_some (pe_op op_add (pv 1) pe_int)))))), ?_⟩
  refine ⟨_, rfl, _, rfl, lenOk (by show 6 ≤ 1000; decide), fun t ht => ⟨b, l, ns, t, _, rfl, bagU B ht, SqL.of upd_same, B.fresh ht, by simp, by show 6 ≤ 1000; decide, fun i y H1 hy m1 => ?_⟩⟩
  have m1 := (Mv.of B (Ext.upd ht)).trans m1
  obtain ⟨g, rfl, g10⟩ : ∃ g : Nat, y = .int (g : Int) ∧ g ≤ 10 := by
    have := List.mem_of_getElem? hy
    simp only [List.mem_cons, List.not_mem_nil, or_false] at this
    rcases this with rfl | rfl | rfl | rfl | rfl | rfl
    · exact ⟨0, rfl, by decide⟩
    · exact ⟨0, rfl, by decide⟩
    · exact ⟨1, rfl, by decide⟩
    · exact ⟨2, rfl, by decide⟩
    · exact ⟨0, rfl, by decide⟩
    · exact ⟨n, rfl, n10⟩
  have fx1 := fx.mv B m1.ext
  refine ⟨_, rfl, lenOk (by show 1 ≤ 1000; decide), fun t1 ht1 => ⟨lenOk (by show 2 ≤ 1000; decide), fun z hz => ⟨lenOk (by show 1 ≤ 1000; decide), fun t2 ht2 => ?_⟩⟩⟩
  have e1 := Ext.upd (o := .lst [x]) ht1
  have e2 := Ext.upd (o := .tup [V.int 0, V.int 1]) hz
  have e3 := Ext.upd (o := .lst [V.ref z]) ht2
  refine ⟨_, rfl, t2, g, [.ref z], rfl, rfl, upd_same, by omega, by omega, lenOk (by show 1 * ((g : Int)).toNat ≤ 1000; omega), fun t3 ht3 => ?_⟩
  have e4 := Ext.upd (o := .lst (List.replicate ((g : Int)).toNat [V.ref z]).flatten) ht3
  refine ⟨t1, t3, [x], _, rfl, rfl, e4 _ _ (e3 _ _ (e2 _ _ upd_same)), upd_same, ?_, fun t4 ht4 => ?_⟩
  · refine lenOk ?_
    rw [List.length_flatten, List.map_replicate, List.sum_replicate_nat]
    simp
    omega
  have hrep : (List.replicate ((g : Int)).toNat [V.ref z]).flatten = List.replicate g (V.ref z) := by rw [Int.toNat_natCast]; exact flat_rep _ g
  rw [hrep] at e4 ht4 ⊢
  have e5 := Ext.upd (o := .lst ([x] ++ List.replicate g (V.ref z))) ht4
  have e15 := e1.trans (e2.trans (e3.trans (e4.trans e5)))
  have m5 := m1.trans (Mv.of m1.bag e15)
  have fz : Fr K _ (.ref z) 0 := (whole_fr (n := 0) (q := 0) (upd_same (H := upd H1 t1 (.lst [x])) (a := z)) rfl).ext (e3.trans (e4.trans e5))
  have fs5 : Frs K _ ([x] ++ List.replicate g (V.ref z)) ([f] ++ List.replicate g 0) := Frs.append (.cons (fx1.ext e15) .nil) (Frs.rep fz g)
  refine ⟨_, rfl, (n : Int), rfl, by omega, by omega, fun D hD => ?_⟩
  have B5 := m5.bag
  refine lc_it walk_range (fun i H' => Mv K b l ns (upd (upd (upd (upd (upd H1 t1 (.lst [x])) z (.tup [V.int 0, V.int 1])) t2 (.lst [V.ref z])) t3 (.lst (List.replicate g (V.ref z)))) t4 (.lst ([x] ++ List.replicate g (V.ref z)))) H' ∧ ∃ acc qs, H' D = some (.lst acc) ∧ Frs K H' acc qs ∧ qs.length = i ∧ ∀ q ∈ qs, NumB q) ⟨Mv.of B5 (Ext.upd hD), [], [], upd_same, .nil, rfl, fun q h => by cases h⟩ (fun i H' _ z => trivial) (fun i x1 H6 H7 hi zz y => ?_) (fun H6 zz => ?_)
  · obtain ⟨m6, acc, qs, hacc, facc, lacc, nacc⟩ := zz
    obtain ⟨rfl, rfl⟩ := y
    have hi' : i < n := by simpa using hi
    refine ⟨rfl, lcT (iteT ?_)⟩
    refine ⟨_, rfl, b, l, ns, rfl, m6.bag, fun v q H8 fv nq m8 => ?_⟩
    have hDb : D ≠ b := B5.fresh hD
    have hacc8 := m8.ext _ _ hDb hacc
    refine ⟨acc, hacc8, lenLt (by rw [facc.1]; omega), (m6.trans m8).at B5 hD, _, _, upd_same, (((facc.mv m6.bag m8.ext).mvL hacc8).snoc (fv.mvL hacc8)), by simp [lacc], fun r hr => ?_⟩
    rcases List.mem_append.mp hr with hr | hr
    · exact nacc r hr
    · rw [List.mem_singleton.mp hr]
      exact nq
  · obtain ⟨m6, acc, qs, hacc, facc, lacc, nacc⟩ := zz
    rw [Int.toNat_natCast] at lacc
    have h4b : t4 ≠ b := (m1.trans (Mv.of m1.bag (e1.trans (e2.trans (e3.trans e4))))).bag.fresh ht4
    have h4 := m6.ext _ _ h4b upd_same
    have fs6 := fs5.mv B5 m6.ext
    refine ⟨t4, D, _, acc, rfl, rfl, h4, hacc, lenOk (by rw [fs6.1, facc.1]; simp; omega), fun t5 ht5 => ?_⟩
    have f5 := (fs6.append facc).ext (Ext.upd (o := .lst (([x] ++ List.replicate g (V.ref z)) ++ acc)) ht5)
    refine ⟨_, rfl, _, _, rfl, rfl, _, rfl, t5, _, rfl, SqL.of upd_same, fun t6 ht6 => ?_⟩
    have cn : ((n : Int) + 1) = ((n + 1 : Nat) : Int) := by omega
    rw [cn, cut_to]
    have e6 := Ext.upd (o := .lst ((([x] ++ List.replicate g (V.ref z)) ++ acc).take (n + 1))) ht6
    have m7 := m5.trans (m6.trans (Mv.of m6.bag ((Ext.upd ht5).trans e6)))
    have len : (([f] ++ List.replicate g 0 ++ qs).take (n + 1)).length = n + 1 := by
      rw [List.length_take]
      simp
      omega
    refine hq t6 (([f] ++ List.replicate g 0 ++ qs).take (n + 1)) _ m7 ?_ (FL.of upd_same ((f5.take (n + 1)).ext e6)) len ?_ fun i hi => ?_
    · have h6 := Ext.notIn (Ext.upd ht5) ht6
      cases q : H t6 with
      | none => rfl
      | some o =>
        by_cases e : t6 = b
        · obtain ⟨_, _, _, _, hb, _⟩ := m6.bag.at_
          rw [e, hb] at h6
          cases h6
        · rw [(m5.trans m6).ext _ _ e q] at h6
          cases h6
    · rw [List.getD_eq_getElem?_getD, List.getElem?_take, if_pos (by omega)]
      rfl
    · rw [List.getD_eq_getElem?_getD, List.getElem?_take, if_pos hi, ← List.getD_eq_getElem?_getD]
      have hm : ([f] ++ List.replicate g 0 ++ qs).getD i 0 ∈ [f] ++ List.replicate g 0 ++ qs := by
        have hl : i < ([f] ++ List.replicate g 0 ++ qs).length := by simp; omega
        rw [List.getD_eq_getElem?_getD, List.getElem?_eq_getElem hl]
        exact List.getElem_mem hl
      rcases List.mem_append.mp hm with hm | hm
      · rcases List.mem_append.mp hm with hm | hm
        · rw [List.mem_singleton.mp hm]
          exact nf
        · rw [(List.mem_replicate.mp hm).2]
          exact numB_0
      · exact nacc _ hm
end
end K4
end
section
set_option Elab.async false
set_option linter.all false
set_option maxRecDepth 100000
set_option maxHeartbeats 4000000
/-! The walks, 14: the step that stands still. -/
namespace K4
open PySem PySem.Spec PyProof.Rows L2 K04
/-- at r: the Step of the numbers 0, 1, 0, 0 -/
def StepAt (K : Frag) (H : Hp) (r : Addr) : Prop := ∃ (dx : Addr) (fs : List (Str × V)) (l : Addr), H r = some (.ins (cStep K) dx fs) ∧ fs.lookup ("_numbers" : Str) = some (V.ref l) ∧ FL K H l [0, 1, 0, 0]
theorem StepAt.ext {K : Frag} {H H' : Hp} {r : Addr} (h : StepAt K H r) (e : Ext H H') : StepAt K H' r := by
  obtain ⟨dx, fs, l, h1, h2, h3⟩ := h
  exact ⟨dx, fs, l, e _ _ h1, h2, h3.ext e⟩
theorem StepAt.mv {K : Frag} {H H' : Hp} {r b l : Addr} {ns : List Int} (h : StepAt K H r) (B : Bag K H b l ns) (e : ExtB b H H') : StepAt K H' r := by
  obtain ⟨dx, fs, n, h1, h2, h3⟩ := h
  obtain ⟨i, _, _, _, hb, _⟩ := B.at_
  exact ⟨dx, fs, n, e _ _ (fun z => by rw [z, hb] at h1; cases h1) h1, h2, h3.mv B e⟩
def spBend (K : Frag) : Sp := fun vs H Q _ => ∃ a, vs = [.ref a] ∧ FL K H a [0, 1, 0, 0] ∧ ∀ H', Ext H H' → Q .non H'
def spKind (K : Frag) : Sp := fun vs H Q _ => ∃ a, vs = [.ref a] ∧ FL K H a [0, 1, 0, 0] ∧ ∀ H', Ext H H' → Q (.str "still") H'
def spStepI (K : Frag) : Sp := fun vs H Q _ => ∃ r dx a, vs = [.ref r, .ref a] ∧ H r = some (.ins (cStep K) dx []) ∧ FL K H a [1, 0, 0] ∧ ∀ H', ExtB r H H' → StepAt K H' r → Q .non H'
def spStill (K : Frag) : Sp := fun vs H Q _ => vs = [.int 3] ∧ ∀ r H', Ext H H' → H r = none → StepAt K H' r → Q (.ref r) H'
def spStepE (K : Frag) : Sp := L2.spEq fun a b H => StepAt K H a ∧ StepAt K H b
theorem cut_2 (xs : List V) : cutV xs (some 2) none = xs.drop 2 := by
  unfold cutV
  rw [show (some (2 : Int)) = some ((2 : Nat) : Int) from rfl, HT.sIx_nat, HT.sIx_none]
  by_cases h : 2 ≤ xs.length
  · rw [Nat.min_eq_left h, ← List.length_drop, List.take_length]
  · rw [List.drop_eq_nil_of_le (by omega), List.drop_eq_nil_of_le (by omega), List.take_nil]
section
variable {P : Program} {w : World} {K : Frag} {mg : Str → Option Value} {base : Heap}
theorem sc_bend_of : FnScope ["numbers", "place"] ["numbers"] (defScope s__bend_of) := sc_by (by decide +kernel)
theorem ok_bend_of (T : Tx K mg) : Ca P w K mg base CX0 2 "_bend_of" (spBend K) := by
  have c_least_place := ok_least_place (P := P) (w := w) (base := base) T
  refine ca_of0 T.d__bend_of T.g__bend_of sc_bend_of (fun vs H Q E h => ?_) (fun _ _ _ _ _ _ us hl => match us, hl with | [_], _ => rfl) fun cdv A outer s H vs Q E hr h => ?_
  · obtain ⟨_, rfl, _⟩ := h
    rfl
  obtain ⟨a, rfl, ⟨xs, sq, fs⟩, hq⟩ := h
  refine ⟨_, (pss_cons (ps_set (i := 1) sc_bend_of.nd rfl (Or.inl rfl) (pe_ca c_least_place hr (by decide) pass0 (pa_cons (pe_slice sl_list (pv 0) (po_some pe_int) po_none) pa_nil)))
    (pss_one (ps_ret (pe_ifExp (pt_cmpR op_isN (pv 1) pe_non (nomark _)) pe_non (pe_op op_add (pv 1) pe_int))))), ?_⟩
  refine ⟨_, rfl, _, rfl, a, xs, rfl, sq, fun p np => ?_⟩
  rw [cut_2]
  have f2 : FL K _ p [0, 0] := FL.of upd_same ((fs.drop 2).ext (Ext.upd np))
  exact ⟨p, _, rfl, f2, fun H1 e1 => ⟨_, rfl, rfl, _, rfl, iteT (hq _ ((Ext.upd np).trans e1))⟩⟩
theorem sc_kind_of : FnScope ["numbers", "lead"] ["numbers"] (defScope s__kind_of) := sc_by (by decide +kernel)
theorem ok_kind_of (T : Tx K mg) : Ca P w K mg base CX0 3 "_kind_of" (spKind K) := by
  have c_least_place := ok_least_place (P := P) (w := w) (base := base) T
  have c_bend_of := ok_bend_of (P := P) (w := w) (base := base) T
  refine ca_of0 T.d__kind_of T.g__kind_of sc_kind_of (fun vs H Q E h => ?_) (fun _ _ _ _ _ _ us hl => match us, hl with | [_], _ => rfl) fun cdv A outer s H vs Q E hr h => ?_
  · obtain ⟨_, rfl, _⟩ := h
    rfl
  obtain ⟨a, rfl, fl, hq⟩ := h
  refine ⟨_, (pss_cons (ps_set (i := 1) sc_kind_of.nd rfl (Or.inl rfl) (pe_fl (pv 0) pe_int))
    (pss_cons (ps_if (pt_cmpR (op_eqF (hrU hr)) (pv 1) (pe_gref (by rfl) T.g_ZERO) (nomark _)) (pss_one (ps_ret (pe_ifExp (pt_cmpR op_isN (pe_ca c_least_place hr (by decide) pass0 (pa_cons (pv 0) pa_nil)) pe_non (nomark _)) pe_str pe_str))) pss_nil)
    (pss_cons (ps_if (pt_cmpR (op_eqF (hrU hr)) (pv 1) (pe_gref (by rfl) T.g_ONE) (nomark _)) (pss_one (ps_ret (pe_ifExp (pt_cmpR op_isN (pe_ca c_bend_of hr (by decide) pass0 (pa_cons (pv 0) pa_nil)) pe_non (nomark _)) pe_str pe_str))) pss_nil)
    (pss_one (ps_ret (pe_ifExp (pt_cmpR (op_eqF (hrU hr)) (pv 1) (pe_tup (pa_cons (pe_un un_neg pe_int) (pa_cons pe_int pa_nil))) (nomark _)) pe_str pe_str)))))), ?_⟩
  refine ⟨_, rfl, a, _, 1, rfl, rfl, fl, by decide, fun z fz => ?_⟩
  refine ⟨_, rfl, 1, 0, fz, fr_zero T _, _, rfl, ?_⟩
  rw [show decide ((1 : Rat) = 0) = false from by decide]
  refine iteF ⟨_, rfl, 1, 1, fz, fr_one T _, _, rfl, ?_⟩
  rw [show decide ((1 : Rat) = 1) = true from by decide]
  exact iteT ⟨_, rfl, a, rfl, fl, fun H1 e1 => ⟨rfl, _, rfl, iteT (hq _ e1)⟩⟩
theorem sc_Step_init : FnScope ["self", "numbers", "place"] ["self", "numbers"] (defScope m_Step_init) := sc_by (by decide +kernel)
theorem ok_Step_init (T : Tx K mg) : ∃ fd ps, CaM P w K mg base CX0 5 (He.ma K (cStep K) "__init__") (spStepI K) fd ps := by
  have c_check_numbers := ok_check_numbers (P := P) (w := w) (base := base) T
  have c_least_place := ok_least_place (P := P) (w := w) (base := base) T
  have c_kind_of := ok_kind_of (P := P) (w := w) (base := base) T
  refine cam_of0 T.d_Step_init sc_Step_init (fun vs H Q E h => ?_) (fun _ _ _ _ _ _ us hl => match us, hl with | [_, _], _ => rfl) fun cdv A outer s H vs Q E hr h => ?_
  · obtain ⟨_, _, _, rfl, _⟩ := h
    rfl
  obtain ⟨r, dx, a, rfl, hin, fl, hq⟩ := h
  refine ⟨_, (pss_cons (ps_expr (pe_ca c_check_numbers hr (by decide) pass0 (pa_cons (pv 1) (pa_cons pe_int pa_nil))))
    (pss_cons (ps_fld (pv 0) (pe_op op_cat (pe_lst (pa_cons (pe_gref (by rfl) T.g_ZERO) pa_nil)) (pe_callTy call_list_of (by rfl) T.f_list PyProof.Rows.Boot.«list» (pa_cons (pv 1) pa_nil))) rfl)
    (pss_cons (ps_fld (pv 0) (pe_callB call_len_seq (by rfl) T.f_len PySem.boot_len (pa_cons (pv 1) pa_nil)) rfl)
    (pss_cons (ps_fld (pv 0) (pe_fl (pv 1) pe_int) rfl)
    (pss_cons (ps_fld (pv 0) (pe_ca c_least_place hr (by decide) pass0 (pa_cons (pe_fld (pv 0) rfl) pa_nil)) rfl)
    (pss_cons (ps_fld (pv 0) (pe_ca c_kind_of hr (by decide) pass0 (pa_cons (pe_fld (pv 0) rfl) pa_nil)) rfl)
    (pss_cons (ps_fld (pv 0) pe_non rfl)
    (pss_cons (ps_fld (pv 0) pe_non rfl)
    (pss_cons (ps_if (pt_cmpR op_eq (pe_fld (pv 0) rfl) pe_str (nomark _)) pss_never pss_nil)
    (pss_one (ps_if (pt_cmpR op_eq (pe_fld (pv 0) rfl) pe_str (nomark _)) pss_never pss_nil))))))))))), ?_⟩
  refine ⟨_, rfl, a, _, _, rfl, fl, by decide, by decide, fun H1 e1 => ?_⟩
  have fl1 := fl.ext e1
  have hin1 := e1 _ _ hin
  obtain ⟨xs, sq, fs⟩ := id fl1
  refine ⟨lenOk (by show 1 ≤ 1000; decide), fun p1 np1 => ?_⟩
  have e2 := Ext.upd (o := .lst [V.ref (He.ga K "ZERO")]) np1
  refine ⟨_, rfl, a, xs, rfl, .inl (sq.ext e2), fun p2 np2 => ?_⟩
  have e3 := Ext.upd (o := .lst xs) np2
  refine ⟨p1, p2, [V.ref (He.ga K "ZERO")], xs, rfl, rfl, e3 _ _ upd_same, upd_same, lenOk (by rw [fs.1]; show 1 + 3 ≤ 1000; decide), fun n nn => ?_⟩
  have e4 := Ext.upd (o := .lst ([V.ref (He.ga K "ZERO")] ++ xs)) nn
  have e24 := e2.trans (e3.trans e4)
  have fn : FL K _ n [0, 1, 0, 0] := FL.of upd_same (Frs.cons (q := 0) (fr_zero T _) (fs.ext e24))
  have hin4 := e24 _ _ hin1
  have fl4 := fl1.ext e24
  refine ⟨_, rfl, r, cStep K, dx, _, rfl, hin4, T.c_Step, T.nS_numbers, by show 0 < 1000; decide, ?_⟩
  -- the fields, one after the other
  let F1 : List (Str × V) := [("_numbers", .ref n)]
  let F2 : List (Str × V) := [("_numbers", .ref n), ("order", .int 3)]
  have put : ∀ {Hx : Hp} {fs fs' : List (Str × V)}, Hx r = some (.ins (cStep K) dx fs) → FL K Hx n [0, 1, 0, 0] → FL K Hx a [1, 0, 0] → FL K (upd Hx r (.ins (cStep K) dx fs')) n [0, 1, 0, 0] ∧ FL K (upd Hx r (.ins (cStep K) dx fs')) a [1, 0, 0] ∧ ExtB r Hx (upd Hx r (.ins (cStep K) dx fs')) := fun h f g => ⟨fl_extB f h ExtB.put, fl_extB g h ExtB.put, ExtB.put⟩
  obtain ⟨n5, a5, b5⟩ := put (fs' := putF "_numbers" (.ref n) []) hin4 fn fl4
  obtain ⟨ys, sy, fy⟩ := id a5
  refine ⟨_, rfl, a, ys, rfl, .inl sy, _, rfl, r, cStep K, dx, _, rfl, upd_same, T.c_Step, T.nSorder, by show 1 < 1000; decide, ?_⟩
  obtain ⟨n6, a6, b6⟩ := put (fs' := putF "order" (.int ys.length) (putF "_numbers" (.ref n) [])) upd_same n5 a5
  refine ⟨_, rfl, a, _, 0, rfl, rfl, a6, by decide, fun z fz => ⟨_, rfl, r, cStep K, dx, _, rfl, upd_same, T.c_Step, T.nSlead, by show 2 < 1000; decide, ?_⟩⟩
  obtain ⟨n7, a7, b7⟩ := put (fs' := putF "lead" z (putF "order" (.int ys.length) (putF "_numbers" (.ref n) []))) upd_same n6 a6
  refine ⟨_, rfl, r, cStep K, dx, _, _, rfl, upd_same, T.c_Step, T.nS_numbers, rfl, n, _, rfl, n7, fun H8 e8 => ?_⟩
  have hin8 := e8 _ _ upd_same
  refine ⟨_, rfl, r, cStep K, dx, _, rfl, hin8, T.c_Step, T.nSheight, by show 3 < 1000; decide, ?_⟩
  obtain ⟨n9, a9, b9⟩ := put (fs' := putF "height" (leastV [0, 1, 0, 0]) (putF "lead" z (putF "order" (.int ys.length) (putF "_numbers" (.ref n) [])))) hin8 (n7.ext e8) (a7.ext e8)
  refine ⟨_, rfl, r, cStep K, dx, _, _, rfl, upd_same, T.c_Step, T.nS_numbers, rfl, n, rfl, n9, fun H10 e10 => ?_⟩
  have hin10 := e10 _ _ upd_same
  refine ⟨_, rfl, r, cStep K, dx, _, rfl, hin10, T.c_Step, T.nSkind, by show 4 < 1000; decide, ?_⟩
  obtain ⟨n11, a11, b11⟩ := put (fs' := putF "kind" (.str "still") (putF "height" (leastV [0, 1, 0, 0]) (putF "lead" z (putF "order" (.int ys.length) (putF "_numbers" (.ref n) []))))) hin10 (n9.ext e10) (a9.ext e10)
  refine ⟨_, rfl, r, cStep K, dx, _, rfl, upd_same, T.c_Step, T.nSflat, by show 5 < 1000; decide, ?_⟩
  obtain ⟨n12, a12, b12⟩ := put (fs' := putF "flat" .non (putF "kind" (.str "still") (putF "height" (leastV [0, 1, 0, 0]) (putF "lead" z (putF "order" (.int ys.length) (putF "_numbers" (.ref n) [])))))) upd_same n11 a11
  refine ⟨_, rfl, r, cStep K, dx, _, rfl, upd_same, T.c_Step, T.nSstrength, by show 6 < 1000; decide, ?_⟩
  obtain ⟨n13, a13, b13⟩ := put (fs' := putF "strength" .non (putF "flat" .non (putF "kind" (.str "still") (putF "height" (leastV [0, 1, 0, 0]) (putF "lead" z (putF "order" (.int ys.length) (putF "_numbers" (.ref n) []))))))) upd_same n12 a12
  refine ⟨_, rfl, r, cStep K, dx, _, _, rfl, upd_same, T.c_Step, T.nSkind, rfl, rfl, _, rfl, ?_⟩
  rw [show decide (V.str ("still" : Str) = V.str ("creep" : Str)) = false from by decide]
  refine iteF ⟨_, rfl, r, cStep K, dx, _, _, rfl, upd_same, T.c_Step, T.nSkind, rfl, rfl, _, rfl, ?_⟩
  rw [show decide (V.str ("still" : Str) = V.str ("crush" : Str)) = false from by decide]
  refine iteF (hq _ ?_ ⟨dx, _, n, upd_same, rfl, n13⟩)
  exact (ext_b (e1.trans e24)).trans (b5.trans (b6.trans (b7.trans ((ext_b e8).trans (b9.trans ((ext_b e10).trans (b11.trans (b12.trans b13))))))))
theorem sc_Step_still : FnScope ["order"] ["order"] (defScope m_Step_still) := sc_by (by decide +kernel)
theorem ok_still {g : Addr} {fd : FuncData} (T : Tx K mg) (F : FunD K "still" "Step.still" (defArgs m_Step_still) (defBody m_Step_still) (defScope m_Step_still) [] [] g fd) : ∃ fd ps, CaM P w K mg base CX0 7 g (spStill K) fd ps := by
  have c_is_order := ok_is_order (P := P) (w := w) (base := base) T
  have c_unit_line := ok_unit_line (P := P) (w := w) (base := base) T
  obtain ⟨fd1, ps1, Si⟩ := ok_Step_init (P := P) (w := w) (base := base) T
  refine cam_of0 ⟨fd, F⟩ sc_Step_still (fun vs H Q E h => ?_) (fun _ _ _ _ _ _ us hl => match us, hl with | [_], _ => rfl) fun cdv A outer s H vs Q E hr h => ?_
  · obtain ⟨rfl, _⟩ := h
    rfl
  obtain ⟨rfl, hq⟩ := h
  refine ⟨_, (pss_cons (ps_if (pt_not (pt_val (pe_ca c_is_order hr (by decide) pass0 (pa_cons (pv 0) pa_nil)))) (pss_one ps_never) pss_nil)
    (pss_one (ps_ret (pe_make T.k_Step Si.ok (hr.mono (by decide)) (by rfl) T.g_Step Si.b .nil pass0 (pa_cons (pe_ca c_unit_line hr (by decide) pass0 (pa_cons pe_int (pa_cons (pv 0) pa_nil))) pa_nil))))), ?_⟩
  refine ⟨_, rfl, 3, rfl, by decide, by decide, _, rfl, ?_⟩
  refine iteF ⟨_, rfl, 0, 3, rfl, by decide, fun v H1 e1 nv fv x d hx hd hne => ?_⟩
  have ev : unitL 0 3 = [1, 0, 0] := by decide
  rw [ev] at fv
  exact ⟨x, d, v, rfl, upd_same, (fv.ext (Ext.upd hd)).ext (Ext.upd (by rw [upd_ne hne.symm]; exact hx)), fun H2 e2 st => ⟨rfl, hq _ _ (e1.trans (ext_made hx hd e2)) (Ext.notIn e1 hx) st⟩⟩
theorem sc_Step_eq : FnScope ["self", "other"] ["self", "other"] (defScope m_Step_eq) := sc_by (by decide +kernel)
theorem ok_Step_eq (T : Tx K mg) : ∃ fd ps, CaM P w K mg base CX0 1 (He.ma K (cStep K) "__eq__") (spStepE K) fd ps := by
  refine cam_of0 T.d_Step_eq sc_Step_eq (fun vs H Q E h => ?_) (fun _ _ _ _ _ _ us hl => match us, hl with | [_, _], _ => rfl) fun cdv A outer s H vs Q E hr h => ?_
  · obtain ⟨_, _, rfl, _⟩ := h
    rfl
  obtain ⟨a, b, rfl, ⟨⟨dx, fs, l, h1, h2, h3⟩, ⟨dy, gs, m, k1, k2, k3⟩⟩, hq⟩ := h
  refine ⟨_, (pss_one (ps_ret (pe_and (pe_callB call_isi (by rfl) T.f_isinstance PyProof.Rows.Boot.«isinstance» (pa_cons (pv 1) (pa_cons (pe_gref (by rfl) T.g_Step) pa_nil))) (pe_one (pe_cmpR (op_eqFL (hrU hr)) (pe_fld (pv 0) rfl) (pe_fld (pv 1) rfl) (nomark _)))))), ?_⟩
  refine ⟨_, rfl, .ref b, .ref (cStep K), .ref (cStep K), .ref (cStep K), true, rfl, .own _, .base (.ins k1 T.c_Step T.i_Step.ha T.hn T.htk T.i_Step.hm), T.ii_Step, _, rfl, ?_⟩
  refine iteT ⟨_, rfl, a, cStep K, dx, _, _, rfl, h1, T.c_Step, T.nS_numbers, h2, _, rfl, b, cStep K, dy, _, _, rfl, k1, T.c_Step, T.nS_numbers, k2, l, m, _, _, rfl, rfl, h3, k3, ?_⟩
  show Q (.bl (decide (([0, 1, 0, 0] : List Rat) = [0, 1, 0, 0]))) H
  rw [decide_eq_true rfl]
  exact hq _ Ext.rfl'
end
end K4
end
section
set_option Elab.async false
set_option linter.all false
set_option maxRecDepth 100000
set_option maxHeartbeats 4000000
/-! The walks, 15: likeness of told and due. -/
namespace K4
open PySem PySem.Spec PyProof.Rows L2 K04
/-- what is compared -/
inductive PT where
  | non | bl (b : Bool) | int (i : Int) | str (x : Str) | lst (ds : List PT) | tup (ds : List PT) | stp
mutual
def PT.dep : PT → Nat
  | .lst ds | .tup ds => PT.deps ds + 1
  | .non | .bl _ | .int _ | .str _ | .stp => 0
def PT.deps : List PT → Nat
  | [] => 0
  | d :: ds => max (PT.dep d) (PT.deps ds)
end
mutual
inductive DD (K : Frag) (H : Hp) : V → PT → Prop
  | non : DD K H .non .non
  | bl (b : Bool) : DD K H (.bl b) (.bl b)
  | int (i : Int) : DD K H (.int i) (.int i)
  | str (x : Str) : DD K H (.str x) (.str x)
  | lst {a : Addr} {xs : List V} {ds : List PT} : ds.length ≤ 1000 → SqL K H a xs → DDs K H xs ds → DD K H (.ref a) (.lst ds)
  | tup {a : Addr} {xs : List V} {ds : List PT} : ds.length ≤ 1000 → SqT K H a xs → DDs K H xs ds → DD K H (.ref a) (.tup ds)
  | stp {a : Addr} : StepAt K H a → DD K H (.ref a) .stp
inductive DDs (K : Frag) (H : Hp) : List V → List PT → Prop
  | nil : DDs K H [] []
  | cons {v : V} {vs : List V} {d : PT} {ds : List PT} : DD K H v d → DDs K H vs ds → DDs K H (v :: vs) (d :: ds)
end
mutual
theorem DD.ext {K : Frag} {H H' : Hp} (e : Ext H H') : ∀ (d : PT) (v : V), DD K H v d → DD K H' v d
  | .non, _, h => by cases h; exact .non
  | .bl b, _, h => by cases h; exact .bl b
  | .int i, _, h => by cases h; exact .int i
  | .str x, _, h => by cases h; exact .str x
  | .lst ds, _, h => by
    cases h with
    | lst n s k => exact .lst n (s.ext e) (DDs.ext e ds _ k)
  | .tup ds, _, h => by
    cases h with
    | tup n s k => exact .tup n (s.ext e) (DDs.ext e ds _ k)
  | .stp, _, h => by
    cases h with
    | stp s => exact .stp (s.ext e)
theorem DDs.ext {K : Frag} {H H' : Hp} (e : Ext H H') : ∀ (ds : List PT) (vs : List V), DDs K H vs ds → DDs K H' vs ds
  | [], _, h => by cases h; exact .nil
  | d :: ds, _, h => by
    cases h with
    | cons a b => exact .cons (DD.ext e d _ a) (DDs.ext e ds _ b)
end
theorem DDs.len {K : Frag} {H : Hp} : ∀ {vs : List V} {ds : List PT}, DDs K H vs ds → vs.length = ds.length
  | _, _, .nil => rfl
  | _, _, .cons _ h => congrArg (· + 1) h.len
theorem DDs.at {K : Frag} {H : Hp} : ∀ {vs : List V} {ds : List PT}, DDs K H vs ds → ∀ {i : Nat} {x : V}, vs[i]? = some x → ∃ d, ds[i]? = some d ∧ DD K H x d
  | _, _, .nil, i, x, h => by simp at h
  | _, _, .cons a h, 0, x, e => by
    obtain rfl := Option.some.inj e
    exact ⟨_, rfl, a⟩
  | _, _, .cons a h, i + 1, x, e => h.at (i := i) e
theorem deps_at : ∀ {ds : List PT} {i : Nat} {d : PT}, ds[i]? = some d → d.dep ≤ PT.deps ds
  | [], i, d, h => by simp at h
  | e :: ds, 0, d, h => by
    obtain rfl := Option.some.inj h
    rw [PT.deps]
    exact Nat.le_max_left _ _
  | e :: ds, i + 1, d, h => by
    rw [PT.deps]
    exact Nat.le_trans (deps_at (i := i) h) (Nat.le_max_right _ _)
def PT.kd : PT → Kd
  | .non => .non | .bl _ => .bl | .int _ => .int | .str _ => .str | .lst _ => .lst | .tup _ => .tup | .stp => .stp
theorem DD.kind {K : Frag} {H : Hp} {v : V} {d : PT} (h : DD K H v d) : Kind K H v d.kd := by
  cases h with
  | non => exact .non
  | bl b => exact .bl b
  | int i => exact .int i
  | str x => exact .str x
  | lst _ s _ => exact .lst s
  | tup _ s _ => exact .tup s
  | stp s =>
    obtain ⟨dx, fs, l, h, _⟩ := s
    exact .stp h
theorem walk_zipT {K : Frag} {a b : Addr} {xs ys : List V} (hl : ys.length = xs.length) : Walk (RZ.ItzT K a b) xs.length (fun H => SqT K H a xs ∧ SqT K H b ys) (YPair (fun i => xs[i]?) (fun i => ys[i]?)) := by
  refine ⟨fun i _ hi q => ?_, fun _ q => ⟨xs, ys, q.1, q.2, .inl (Nat.le_refl _)⟩, fun i H v H' _ q y => ?_⟩
  · have h2 : i < ys.length := by omega
    exact ⟨xs, ys, xs[i], ys[i], q.1, q.2, by simp [hi], by simp [h2]⟩
  · obtain ⟨T, x, z, h1, h2, h3, h4, h5⟩ := y
    exact ⟨T, x, z, h1, h2, h3, h4 xs q.1, h5 ys q.2⟩
/-- told == due, at a leaf -/
def rLeaf (K : Frag) : R2 := fun x y H Q => (scal x y = true ∧ x = y ∧ Q (.bl true) H) ∨ ∃ a b, x = .ref a ∧ y = .ref b ∧ StepAt K H a ∧ StepAt K H b ∧ ∀ H', Ext H H' → Q (.bl true) H'
theorem op_leaf {X : Cx} (T : Tx X.K X.mg) {fd : FuncData} {ps : List Str} (F : CaM X.prog X.w X.K X.mg X.base CX0 1 (He.ma X.K (cStep X.K) "__eq__") (spStepE X.K) fd ps) (hr : Room 1 X.A) : OpR X (compareOp .Eq) (rLeaf X.K) := by
  intro pins s σ H x y v u Q I rx ry h
  rcases h with ⟨sc, e, q⟩ | ⟨a, b, rfl, rfl, sa, sb, q⟩
  · refine op_eq pins s σ H x y v u Q I rx ry ⟨sc, ?_⟩
    rw [decide_eq_true e]
    exact q
  · have G := rcG_ins (C := cStep X.K) (E := E0) F.ok T.o_eq.at_ T.o_eq.fn F.b pass0
    obtain ⟨dx, fs, _, h1, _⟩ := id sa
    obtain ⟨dy, gs, _, k1, _⟩ := id sb
    exact op_eqG G hr pins s σ H _ _ v u Q I rx ry ⟨⟨a, b, dx, dy, fs, gs, rfl, rfl, h1, k1, sa, sb⟩, q⟩
def spLike (K : Frag) (n : Nat) : Sp := fun vs H Q _ => ∃ x y d, vs = [x, y] ∧ d.dep < n ∧ DD K H x d ∧ DD K H y d ∧ ∀ H', Ext H H' → Q (.bl true) H'
section
variable {P : Program} {w : World} {K : Frag} {mg : Str → Option Value} {base : Heap}
theorem sc_law_like : FnScope ["_law_told", "_law_due", "_law_a", "_law_b"] ["_law_told", "_law_due"] (defScope s__law_like) := sc_by (by decide +kernel)
theorem ok_law_like0 (T : Tx K mg) : Ca P w K mg base CX0 1 "_law_like" (spLike K 0) := by
  refine ca_of0 T.d__law_like T.g__law_like sc_law_like (fun vs H Q E h => ?_) (fun _ _ _ _ _ _ us hl => match us, hl with | [_, _], _ => rfl) fun cdv A outer s H vs Q E hr h => ?_
  · obtain ⟨_, _, _, rfl, _⟩ := h
    rfl
  · obtain ⟨_, _, _, _, h, _⟩ := h
    exact absurd h (Nat.not_lt_zero _)
theorem ok_law_likeS (T : Tx K mg) (n : Nat) (ih : Ca P w K mg base CX0 (n + 1) "_law_like" (spLike K n)) : Ca P w K mg base CX0 (n + 2) "_law_like" (spLike K (n + 1)) := by
  obtain ⟨fd1, ps1, Se⟩ := ok_Step_eq (P := P) (w := w) (base := base) T
  refine ca_of0 T.d__law_like T.g__law_like sc_law_like (fun vs H Q E h => ?_) (fun _ _ _ _ _ _ us hl => match us, hl with | [_, _], _ => rfl) fun cdv A outer s H vs Q E hr h => ?_
  · obtain ⟨_, _, _, rfl, _⟩ := h
    rfl
  obtain ⟨x, y, d, rfl, hd, dx, dy, hq⟩ := h
  refine ⟨_, (pss_cons (ps_if (pt_val (pe_callB (call_isLT T) (by rfl) T.f_isinstance PyProof.Rows.Boot.«isinstance» (pa_cons (pv 1) (pa_cons (pe_tup (pa_cons (pe_bty (by rfl) T.f_list PyProof.Rows.Boot.«list») (pa_cons (pe_bty (by rfl) T.f_tuple PyProof.Rows.Boot.«tuple») pa_nil))) pa_nil)))) (pss_cons (ps_if (pw_or (pt_cmpR op_ne (pe_callB (call_isK T "list") (by rfl) T.f_isinstance PyProof.Rows.Boot.«isinstance» (pa_cons (pv 0) (pa_cons (pe_bty (by rfl) T.f_list PyProof.Rows.Boot.«list») pa_nil))) (pe_callB (call_isK T "list") (by rfl) T.f_isinstance PyProof.Rows.Boot.«isinstance» (pa_cons (pv 1) (pa_cons (pe_bty (by rfl) T.f_list PyProof.Rows.Boot.«list») pa_nil))) (nomark _)) (pw_or1 (pt_cmpR op_ne (pe_callB (call_isK T "tuple") (by rfl) T.f_isinstance PyProof.Rows.Boot.«isinstance» (pa_cons (pv 0) (pa_cons (pe_bty (by rfl) T.f_tuple PyProof.Rows.Boot.«tuple») pa_nil))) (pe_callB (call_isK T "tuple") (by rfl) T.f_isinstance PyProof.Rows.Boot.«isinstance» (pa_cons (pv 1) (pa_cons (pe_bty (by rfl) T.f_tuple PyProof.Rows.Boot.«tuple») pa_nil))) (nomark _)))).pt (pss_one (ps_ret pe_bl)) pss_nil)
    (pss_one (ps_ret (pe_and (pe_cmpR op_eq (pe_callB call_len_seq (by rfl) T.f_len PySem.boot_len (pa_cons (pv 0) pa_nil)) (pe_callB call_len_seq (by rfl) T.f_len PySem.boot_len (pa_cons (pv 1) pa_nil)) (nomark _)) (pe_one (pe_callB (cr_all rfl) (by rfl) T.f_all PyProof.Rows.Boot.«all» (pa_cons (pe_lc (own := [("_law_a", 2), ("_law_b", 3)]) (g := (gTup K 2 (gCons (gName 2) (gCons (gName 3) gNil)))) rfl sc_law_like.nd (RZ.pi_zipA (by rfl) T.f_zip (pa_cons (pv 0) (pa_cons (pv 1) pa_nil))) (blkOk_by (N := ["_law_told", "_law_due", "_law_a", "_law_b"]) (sc := defScope s__law_like) (by decide +kernel)) (fun _ _ _ _ _ => (pg_tup (n := 2) rfl (pgs_cons (pg_name (i := 2) sc_law_like.nd rfl (Or.inl rfl) (Or.inr rfl)) (pgs_cons (pg_name (i := 3) sc_law_like.nd rfl (Or.inl rfl) (Or.inr rfl)) pgs_nil)))) (fun _ _ _ _ _ => pts_nil) (fun _ _ _ _ _ => (pe_ca ih hr (Nat.le_refl _) pass0 (pa_cons (pv 2) (pa_cons (pv 3) pa_nil))))) pa_nil))))))) pss_nil)
    (pss_cons (ps_if (pw_or (pt_cmpR op_isN (pv 1) pe_non (nomark _)) (pw_or1 (pt_cmpR op_isN (pv 0) pe_non (nomark _)))).pt (pss_one (ps_ret (pe_and (pe_cmpR op_isN (pv 1) pe_non (nomark _)) (pe_one (pe_cmpR op_isN (pv 0) pe_non (nomark _)))))) pss_nil)
    (pss_cons (ps_if (pw_or (pt_val (pe_callB (call_isLT T) (by rfl) T.f_isinstance PyProof.Rows.Boot.«isinstance» (pa_cons (pv 0) (pa_cons (pe_tup (pa_cons (pe_bty (by rfl) T.f_list PyProof.Rows.Boot.«list») (pa_cons (pe_bty (by rfl) T.f_tuple PyProof.Rows.Boot.«tuple») pa_nil))) pa_nil)))) (pw_or1 (pt_cmpR op_ne (pe_callB (call_isK T "bool") (by rfl) T.f_isinstance PyProof.Rows.Boot.«isinstance» (pa_cons (pv 0) (pa_cons (pe_bty (by rfl) T.f_bool PyProof.Rows.Boot.«bool») pa_nil))) (pe_callB (call_isK T "bool") (by rfl) T.f_isinstance PyProof.Rows.Boot.«isinstance» (pa_cons (pv 1) (pa_cons (pe_bty (by rfl) T.f_bool PyProof.Rows.Boot.«bool») pa_nil))) (nomark _)))).pt (pss_one (ps_ret pe_bl)) pss_nil)
    (pss_cons (ps_if (pw_or (pt_cmpR op_ne (pe_callB (call_isK T "str") (by rfl) T.f_isinstance PyProof.Rows.Boot.«isinstance» (pa_cons (pv 0) (pa_cons (pe_bty (by rfl) T.f_str PyProof.Rows.Boot.«str») pa_nil))) (pe_callB (call_isK T "str") (by rfl) T.f_isinstance PyProof.Rows.Boot.«isinstance» (pa_cons (pv 1) (pa_cons (pe_bty (by rfl) T.f_str PyProof.Rows.Boot.«str») pa_nil))) (nomark _)) (pw_or1 (pt_cmpR op_ne (pe_callB (call_isK T "int") (by rfl) T.f_isinstance PyProof.Rows.Boot.«isinstance» (pa_cons (pv 0) (pa_cons (pe_bty (by rfl) T.f_int PyProof.Rows.Boot.«int») pa_nil))) (pe_callB (call_isK T "int") (by rfl) T.f_isinstance PyProof.Rows.Boot.«isinstance» (pa_cons (pv 1) (pa_cons (pe_bty (by rfl) T.f_int PyProof.Rows.Boot.«int») pa_nil))) (nomark _)))).pt (pss_one (ps_ret pe_bl)) pss_nil)
    (pss_one (ps_ret (pe_cmpR (op_leaf T Se (hr.mono (by omega))) (pv 0) (pv 1) (nomark _)))))))), ?_⟩
  refine ⟨_, rfl, lenOk (by show 2 ≤ 1000; decide), fun p np => ?_⟩
  have e := Ext.upd (o := .tup [V.ty "list", V.ty "tuple"]) np
  refine ⟨y, d.kd, p, rfl, upd_same, dy.kind.ext e, _, rfl, ?_⟩
  have kx := dx.kind.ext e
  have ky := dy.kind.ext e
  cases d with
  | non =>
    cases dx; cases dy
    refine iteF ⟨_, rfl, rfl, _, rfl, iteT ⟨_, rfl, rfl, _, rfl, iteT ⟨_, rfl, rfl, hq _ e⟩⟩⟩
  | lst ds =>
    cases dx with
    | @lst a xs _ lds sx ddx =>
    cases dy with
    | @lst b ys _ _ sy ddy =>
    refine iteT ⟨_, rfl, _, _, rfl, kx, _, rfl, _, _, rfl, ky, rfl, _, rfl, ?_⟩
    refine iteF ⟨_, rfl, _, _, rfl, kx, _, rfl, _, _, rfl, ky, rfl, _, rfl, ?_⟩
    refine iteF ⟨_, rfl, a, xs, rfl, .inl (sx.ext e), _, rfl, b, ys, rfl, .inl (sy.ext e), rfl, _, rfl, ?_⟩
    have hl : ys.length = xs.length := by rw [ddx.len, ddy.len]
    rw [hl, decide_eq_true rfl]
    refine iteT ⟨_, rfl, _, rfl, a, b, xs, ys, rfl, .inl ⟨sx.ext e, sy.ext e, fun D hD => ?_⟩⟩
    refine lc_it (walk_zip (n := xs.length) (by rw [hl, Nat.min_self])) (fun i H' => Ext (upd H p (.tup [V.ty "list", V.ty "tuple"])) H' ∧ H' D = some (.lst ((List.replicate i true).map V.bl))) ⟨Ext.upd hD, upd_same⟩ (fun i H' _ z => ⟨(sx.ext e).ext z.1, (sy.ext e).ext z.1⟩) (fun i z1 H1 H2 hi z y => ?_) (fun H' z => ?_)
    · obtain ⟨e1, hacc⟩ := z
      obtain ⟨t, u, v, rfl, nt, rfl, hx, hy⟩ := y
      have et : Ext H1 (upd H1 t (.tup [u, v])) := Ext.upd nt
      obtain ⟨d1, hd1, du⟩ := ddx.at hx
      obtain ⟨d2, hd2, dv⟩ := ddy.at hy
      rw [hd1] at hd2
      obtain rfl := Option.some.inj hd2
      have ea := e.trans (e1.trans et)
      have hdep := deps_at hd1
      refine ⟨t, _, rfl, SqT.of upd_same, rfl, _, _, rfl, _, _, rfl, rfl, rfl, lcT (iteT ?_)⟩
      refine ⟨_, rfl, _, rfl, u, v, d1, rfl, ?_, DD.ext ea _ _ du, DD.ext ea _ _ dv, fun H3 e3 => ?_⟩
      · rw [PT.dep] at hd
        omega
      have hacc3 := e3 _ _ (et _ _ hacc)
      have hi' : i < xs.length := hi
      have hz : xs.length ≤ 1000 := by rw [ddx.len]; exact lds
      refine ⟨_, hacc3, ?_, ext_lst (e1.trans (et.trans e3)) hD, ?_⟩
      · refine lenLt ?_
        simp
        omega
      · rw [upd_same, List.replicate_succ', List.map_append]
        rfl
    · obtain ⟨e1, hacc⟩ := z
      refine ⟨D, _, rfl, SqL.of hacc, ?_⟩
      have : (List.replicate xs.length true).all id = true := by simp
      rw [this]
      exact hq _ (e.trans e1)
  | tup ds =>
    cases dx with
    | @tup a xs _ lds sx ddx =>
    cases dy with
    | @tup b ys _ _ sy ddy =>
    refine iteT ⟨_, rfl, _, _, rfl, kx, _, rfl, _, _, rfl, ky, rfl, _, rfl, ?_⟩
    refine iteF ⟨_, rfl, _, _, rfl, kx, _, rfl, _, _, rfl, ky, rfl, _, rfl, ?_⟩
    refine iteF ⟨_, rfl, a, xs, rfl, .inr (sx.ext e), _, rfl, b, ys, rfl, .inr (sy.ext e), rfl, _, rfl, ?_⟩
    have hl : ys.length = xs.length := by rw [ddx.len, ddy.len]
    rw [hl, decide_eq_true rfl]
    refine iteT ⟨_, rfl, _, rfl, a, b, xs, ys, rfl, .inr ⟨sx.ext e, sy.ext e, fun D hD => ?_⟩⟩
    refine lc_it (walk_zipT hl) (fun i H' => Ext (upd H p (.tup [V.ty "list", V.ty "tuple"])) H' ∧ H' D = some (.lst ((List.replicate i true).map V.bl))) ⟨Ext.upd hD, upd_same⟩ (fun i H' _ z => ⟨(sx.ext e).ext z.1, (sy.ext e).ext z.1⟩) (fun i z1 H1 H2 hi z y => ?_) (fun H' z => ?_)
    · obtain ⟨e1, hacc⟩ := z
      obtain ⟨t, u, v, rfl, nt, rfl, hx, hy⟩ := y
      have et : Ext H1 (upd H1 t (.tup [u, v])) := Ext.upd nt
      obtain ⟨d1, hd1, du⟩ := ddx.at hx
      obtain ⟨d2, hd2, dv⟩ := ddy.at hy
      rw [hd1] at hd2
      obtain rfl := Option.some.inj hd2
      have ea := e.trans (e1.trans et)
      have hdep := deps_at hd1
      refine ⟨t, _, rfl, SqT.of upd_same, rfl, _, _, rfl, _, _, rfl, rfl, rfl, lcT (iteT ?_)⟩
      refine ⟨_, rfl, _, rfl, u, v, d1, rfl, ?_, DD.ext ea _ _ du, DD.ext ea _ _ dv, fun H3 e3 => ?_⟩
      · rw [PT.dep] at hd
        omega
      have hacc3 := e3 _ _ (et _ _ hacc)
      have hi' : i < xs.length := hi
      have hz : xs.length ≤ 1000 := by rw [ddx.len]; exact lds
      refine ⟨_, hacc3, ?_, ext_lst (e1.trans (et.trans e3)) hD, ?_⟩
      · refine lenLt ?_
        simp
        omega
      · rw [upd_same, List.replicate_succ', List.map_append]
        rfl
    · obtain ⟨e1, hacc⟩ := z
      refine ⟨D, _, rfl, SqL.of hacc, ?_⟩
      have : (List.replicate xs.length true).all id = true := by simp
      rw [this]
      exact hq _ (e.trans e1)
  | bl b =>
    cases dx; cases dy
    refine iteF ⟨_, rfl, rfl, _, rfl, iteF ⟨_, rfl, rfl, _, rfl, iteF ⟨_, rfl, lenOk (by show 2 ≤ 1000; decide), fun p2 np2 => ?_⟩⟩⟩
    have e1 := Ext.upd (o := .tup [V.ty "list", V.ty "tuple"]) np2
    have e2 := e.trans e1
    have kx := kx.ext e1
    have ky := ky.ext e1
    refine ⟨_, _, p2, rfl, upd_same, kx, _, rfl, ?_⟩
    refine iteF ⟨_, rfl, _, _, rfl, kx, _, rfl, _, _, rfl, ky, rfl, _, rfl, ?_⟩
    refine iteF ⟨_, rfl, _, _, rfl, kx, _, rfl, _, _, rfl, ky, rfl, _, rfl, ?_⟩
    refine iteF ⟨_, rfl, _, _, rfl, kx, _, rfl, _, _, rfl, ky, rfl, _, rfl, ?_⟩
    exact iteF ⟨_, rfl, _, rfl, .inl ⟨rfl, rfl, hq _ e2⟩⟩
  | int b =>
    cases dx; cases dy
    refine iteF ⟨_, rfl, rfl, _, rfl, iteF ⟨_, rfl, rfl, _, rfl, iteF ⟨_, rfl, lenOk (by show 2 ≤ 1000; decide), fun p2 np2 => ?_⟩⟩⟩
    have e1 := Ext.upd (o := .tup [V.ty "list", V.ty "tuple"]) np2
    have e2 := e.trans e1
    have kx := kx.ext e1
    have ky := ky.ext e1
    refine ⟨_, _, p2, rfl, upd_same, kx, _, rfl, ?_⟩
    refine iteF ⟨_, rfl, _, _, rfl, kx, _, rfl, _, _, rfl, ky, rfl, _, rfl, ?_⟩
    refine iteF ⟨_, rfl, _, _, rfl, kx, _, rfl, _, _, rfl, ky, rfl, _, rfl, ?_⟩
    refine iteF ⟨_, rfl, _, _, rfl, kx, _, rfl, _, _, rfl, ky, rfl, _, rfl, ?_⟩
    exact iteF ⟨_, rfl, _, rfl, .inl ⟨rfl, rfl, hq _ e2⟩⟩
  | str b =>
    cases dx; cases dy
    refine iteF ⟨_, rfl, rfl, _, rfl, iteF ⟨_, rfl, rfl, _, rfl, iteF ⟨_, rfl, lenOk (by show 2 ≤ 1000; decide), fun p2 np2 => ?_⟩⟩⟩
    have e1 := Ext.upd (o := .tup [V.ty "list", V.ty "tuple"]) np2
    have e2 := e.trans e1
    have kx := kx.ext e1
    have ky := ky.ext e1
    refine ⟨_, _, p2, rfl, upd_same, kx, _, rfl, ?_⟩
    refine iteF ⟨_, rfl, _, _, rfl, kx, _, rfl, _, _, rfl, ky, rfl, _, rfl, ?_⟩
    refine iteF ⟨_, rfl, _, _, rfl, kx, _, rfl, _, _, rfl, ky, rfl, _, rfl, ?_⟩
    refine iteF ⟨_, rfl, _, _, rfl, kx, _, rfl, _, _, rfl, ky, rfl, _, rfl, ?_⟩
    exact iteF ⟨_, rfl, _, rfl, .inl ⟨rfl, rfl, hq _ e2⟩⟩
  | stp =>
    cases dx with
    | stp sx =>
    cases dy with
    | stp sy =>
    refine iteF ⟨_, rfl, rfl, _, rfl, iteF ⟨_, rfl, rfl, _, rfl, iteF ⟨_, rfl, lenOk (by show 2 ≤ 1000; decide), fun p2 np2 => ?_⟩⟩⟩
    have e1 := Ext.upd (o := .tup [V.ty "list", V.ty "tuple"]) np2
    have e2 := e.trans e1
    have kx := kx.ext e1
    have ky := ky.ext e1
    refine ⟨_, _, p2, rfl, upd_same, kx, _, rfl, ?_⟩
    refine iteF ⟨_, rfl, _, _, rfl, kx, _, rfl, _, _, rfl, ky, rfl, _, rfl, ?_⟩
    refine iteF ⟨_, rfl, _, _, rfl, kx, _, rfl, _, _, rfl, ky, rfl, _, rfl, ?_⟩
    refine iteF ⟨_, rfl, _, _, rfl, kx, _, rfl, _, _, rfl, ky, rfl, _, rfl, ?_⟩
    exact iteF ⟨_, rfl, _, rfl, .inr ⟨_, _, rfl, rfl, StepAt.ext sx e2, StepAt.ext sy e2, fun H3 e3 => hq _ (e2.trans e3)⟩⟩
theorem ok_law_like (T : Tx K mg) : ∀ n, Ca P w K mg base CX0 (n + 1) "_law_like" (spLike K n)
  | 0 => ok_law_like0 T
  | n + 1 => ok_law_likeS T n (ok_law_like T n)
end
end K4
end
section
set_option Elab.async false
set_option linter.all false
set_option maxRecDepth 100000
set_option maxHeartbeats 4000000
/-! The walks, 16: the odd values. -/
namespace K4
open PySem PySem.Spec PyProof.Rows L2 K04
/-- x is like d and no fraction, whatever the bag does -/
def RB (K : Frag) (b : Addr) (H : Hp) (x : V) (d : PT) : Prop := ∀ H', ExtB b H H' → DD K H' x d ∧ OddV K H' x
section
variable {K : Frag} {b t l : Addr} {ns : List Int} {H : Hp} {xs : List V} {ds : List PT}
theorem dd_tup (B : Bag K H b l ns) (ht : H t = none) (hl : ds.length ≤ 1000) (hd : ∀ H', ExtB b (upd H t (.tup xs)) H' → DDs K H' xs ds) : ∀ H', ExtB b (upd H t (.tup xs)) H' → DD K H' (.ref t) (.tup ds) := fun H' x => .tup hl (SqT.of (x _ _ (B.fresh ht) upd_same)) (hd H' x)
theorem rb_tup (B : Bag K H b l ns) (ht : H t = none) (hl : ds.length ≤ 1000) (hd : ∀ H', ExtB b (upd H t (.tup xs)) H' → DDs K H' xs ds) (ho : ∀ H', SqT K H' t xs → DDs K H' xs ds → OddV K H' (.ref t)) : RB K b (upd H t (.tup xs)) (.ref t) (.tup ds) := fun H' x => ⟨dd_tup B ht hl hd H' x, ho H' (SqT.of (x _ _ (B.fresh ht) upd_same)) (hd H' x)⟩
theorem rb_lst (B : Bag K H b l ns) (ht : H t = none) (hl : ds.length ≤ 1000) (hd : ∀ H', ExtB b (upd H t (.lst xs)) H' → DDs K H' xs ds) : RB K b (upd H t (.lst xs)) (.ref t) (.lst ds) := fun H' x => ⟨.lst hl (SqL.of (x _ _ (B.fresh ht) upd_same)) (hd H' x), .inr (.inl ⟨.lst, .lst (SqL.of (x _ _ (B.fresh ht) upd_same)), rfl⟩)⟩
theorem dd_kind0 {v : V} {d : PT} (h : DDs K H (v :: xs) (d :: ds)) : Kind K H v d.kd := by
  cases h with
  | cons a _ => exact a.kind
end
def spOdd (K : Frag) : Sp := fun vs H Q _ => ∃ b l ns, vs = [.ref b] ∧ Bag K H b l ns ∧ ∀ x d H', PT.dep d < 4 → DD K H' x d → OddV K H' x → Mv K b l ns H H' → Q x H'
section
variable {P : Program} {w : World} {K : Frag} {mg : Str → Option Value} {base : Heap}
theorem sc_law_odd : FnScope ["_law_bag_here", "_law_some"] ["_law_bag_here"] (defScope s__law_odd) := sc_by (by decide +kernel)
theorem ok_law_odd (T : Tx K mg) : Ca P w K mg base CX0 8 "_law_odd" (spOdd K) := by
  have c_law_of := ok_law_of (P := P) (w := w) (base := base) T
  obtain ⟨sp, sg, sfd, SM, SF⟩ := T.still
  obtain ⟨fd5, ps5, St⟩ := ok_still (P := P) (w := w) (base := base) T SF
  refine ca_of0 T.d__law_odd T.g__law_odd sc_law_odd (fun vs H Q E h => ?_) (fun _ _ _ _ _ _ us hl => match us, hl with | [_], _ => rfl) fun cdv A outer s H vs Q E hr h => ?_
  · obtain ⟨_, _, _, rfl, _⟩ := h
    rfl
  obtain ⟨b, l, ns, rfl, B, hq⟩ := h
  refine ⟨_, (pss_cons (ps_set (i := 1) sc_law_odd.nd rfl (Or.inl rfl) (pe_lst (pa_cons pe_non (pa_cons pe_bl (pa_cons pe_bl (pa_cons pe_int (pa_cons pe_int (pa_cons pe_str (pa_cons pe_str (pa_cons pe_str (pa_cons (pe_tup (pa_cons pe_int (pa_cons pe_int pa_nil))) (pa_cons (pe_tup (pa_cons pe_int (pa_cons pe_int pa_nil))) (pa_cons (pe_tup (pa_cons pe_int (pa_cons pe_int pa_nil))) (pa_cons (pe_tup (pa_cons pe_int (pa_cons (pe_un un_neg pe_int) pa_nil))) (pa_cons (pe_tup (pa_cons pe_int (pa_cons pe_int pa_nil))) (pa_cons (pe_lst (pa_cons pe_int (pa_cons pe_int pa_nil))) (pa_cons (pe_tup (pa_cons pe_bl (pa_cons pe_int pa_nil))) (pa_cons (pe_tup (pa_cons pe_int (pa_cons pe_bl pa_nil))) pa_nil))))))))))))))))))
    (pss_cons (ps_set (i := 1) sc_law_odd.nd rfl (Or.inl rfl) (pe_op op_cat (pv 1) (pe_lst (pa_cons (pe_tup (pa_cons pe_int pa_nil)) (pa_cons (pe_tup (pa_cons pe_int (pa_cons pe_int (pa_cons pe_int pa_nil)))) (pa_cons (pe_tup pa_nil) (pa_cons (pe_lst pa_nil) (pa_cons (pe_tup (pa_cons (pe_tup (pa_cons pe_int (pa_cons pe_int pa_nil))) (pa_cons pe_int pa_nil))) (pa_cons (pe_tup (pa_cons pe_int (pa_cons pe_non pa_nil))) (pa_cons (pe_tup (pa_cons pe_str (pa_cons pe_int pa_nil))) (pa_cons (pe_lst (pa_cons (pe_tup (pa_cons pe_int (pa_cons pe_int pa_nil))) pa_nil)) (pa_cons (pe_smet (pe_gref (by rfl) T.g_Step) SM St.ok (hr.mono (by decide)) St.b pass0 (pa_cons pe_int pa_nil)) pa_nil))))))))))))
    (pss_one (ps_ret (pe_ca c_law_of hr (by decide) pass0 (pa_cons (pv 0) (pa_cons (pv 1) pa_nil))))))), ?_⟩
  refine ⟨lenOk (by show 2 ≤ 1000; decide), fun t1 h1 => ?_⟩
  have e1 := Ext.upd (o := .tup [V.int (2), V.int (4)]) h1
  have B1 := B.ext e1
  have r1 : RB K b _ (.ref t1) (.tup [.int (2), .int (4)]) := rb_tup (xs := [V.int (2), V.int (4)]) B h1 (by show 2 ≤ 1000; decide) (fun H' x => (.cons (.int (2)) (.cons (.int (4)) .nil))) (fun H' s dd => .inl ⟨_, _, ⟨_, rfl, s⟩, by decide⟩)
  refine ⟨lenOk (by show 2 ≤ 1000; decide), fun t2 h2 => ?_⟩
  have e2 := Ext.upd (o := .tup [V.int (1), V.int (0)]) h2
  have B2 := B1.ext e2
  have r2 : RB K b _ (.ref t2) (.tup [.int (1), .int (0)]) := rb_tup (xs := [V.int (1), V.int (0)]) B1 h2 (by show 2 ≤ 1000; decide) (fun H' x => (.cons (.int (1)) (.cons (.int (0)) .nil))) (fun H' s dd => .inl ⟨_, _, ⟨_, rfl, s⟩, by decide⟩)
  refine ⟨lenOk (by show 2 ≤ 1000; decide), fun t3 h3 => ?_⟩
  have e3 := Ext.upd (o := .tup [V.int (0), V.int (2)]) h3
  have B3 := B2.ext e3
  have r3 : RB K b _ (.ref t3) (.tup [.int (0), .int (2)]) := rb_tup (xs := [V.int (0), V.int (2)]) B2 h3 (by show 2 ≤ 1000; decide) (fun H' x => (.cons (.int (0)) (.cons (.int (2)) .nil))) (fun H' s dd => .inl ⟨_, _, ⟨_, rfl, s⟩, by decide⟩)
  refine ⟨_, rfl, lenOk (by show 2 ≤ 1000; decide), fun t4 h4 => ?_⟩
  have e4 := Ext.upd (o := .tup [V.int (1), V.int (-2)]) h4
  have B4 := B3.ext e4
  have r4 : RB K b _ (.ref t4) (.tup [.int (1), .int (-2)]) := rb_tup (xs := [V.int (1), V.int (-2)]) B3 h4 (by show 2 ≤ 1000; decide) (fun H' x => (.cons (.int (1)) (.cons (.int (-2)) .nil))) (fun H' s dd => .inl ⟨_, _, ⟨_, rfl, s⟩, by decide⟩)
  refine ⟨lenOk (by show 2 ≤ 1000; decide), fun t5 h5 => ?_⟩
  have e5 := Ext.upd (o := .tup [V.int (0), V.int (0)]) h5
  have B5 := B4.ext e5
  have r5 : RB K b _ (.ref t5) (.tup [.int (0), .int (0)]) := rb_tup (xs := [V.int (0), V.int (0)]) B4 h5 (by show 2 ≤ 1000; decide) (fun H' x => (.cons (.int (0)) (.cons (.int (0)) .nil))) (fun H' s dd => .inl ⟨_, _, ⟨_, rfl, s⟩, by decide⟩)
  refine ⟨lenOk (by show 2 ≤ 1000; decide), fun t6 h6 => ?_⟩
  have e6 := Ext.upd (o := .lst [V.int (1), V.int (2)]) h6
  have B6 := B5.ext e6
  have r6 : RB K b _ (.ref t6) (.lst [.int (1), .int (2)]) := rb_lst (xs := [V.int (1), V.int (2)]) B5 h6 (by show 2 ≤ 1000; decide) (fun H' x => (.cons (.int (1)) (.cons (.int (2)) .nil)))
  refine ⟨lenOk (by show 2 ≤ 1000; decide), fun t7 h7 => ?_⟩
  have e7 := Ext.upd (o := .tup [V.bl true, V.int (1)]) h7
  have B7 := B6.ext e7
  have r7 : RB K b _ (.ref t7) (.tup [.bl true, .int (1)]) := rb_tup (xs := [V.bl true, V.int (1)]) B6 h7 (by show 2 ≤ 1000; decide) (fun H' x => (.cons (.bl true) (.cons (.int (1)) .nil))) (fun H' s dd => .inr (.inr ⟨_, _, rfl, s, .inr ⟨_, _, .bl, .int, rfl, .bl true, .int (1), .inl (fun z => nomatch z)⟩⟩))
  refine ⟨lenOk (by show 2 ≤ 1000; decide), fun t8 h8 => ?_⟩
  have e8 := Ext.upd (o := .tup [V.int (1), V.bl true]) h8
  have B8 := B7.ext e8
  have r8 : RB K b _ (.ref t8) (.tup [.int (1), .bl true]) := rb_tup (xs := [V.int (1), V.bl true]) B7 h8 (by show 2 ≤ 1000; decide) (fun H' x => (.cons (.int (1)) (.cons (.bl true) .nil))) (fun H' s dd => .inr (.inr ⟨_, _, rfl, s, .inr ⟨_, _, .int, .bl, rfl, .int (1), .bl true, .inr (fun z => nomatch z)⟩⟩))
  refine ⟨lenOk (by show 16 ≤ 1000; decide), fun t9 h9 => ⟨_, rfl, ?_⟩⟩
  have e9 := Ext.upd (o := .lst [V.non, V.bl (true), V.bl (false), V.int (0), V.int (1), V.str ("1"), V.str (""), V.str ("1/2"), V.ref t1, V.ref t2, V.ref t3, V.ref t4, V.ref t5, V.ref t6, V.ref t7, V.ref t8]) h9
  have B9 := B8.ext e9
  refine ⟨lenOk (by show 1 ≤ 1000; decide), fun t10 h10 => ?_⟩
  have e10 := Ext.upd (o := .tup [V.int (1)]) h10
  have B10 := B9.ext e10
  have r10 : RB K b _ (.ref t10) (.tup [.int (1)]) := rb_tup (xs := [V.int (1)]) B9 h10 (by show 1 ≤ 1000; decide) (fun H' x => (.cons (.int (1)) .nil)) (fun H' s dd => .inr (.inr ⟨_, _, rfl, s, .inl (by show 1 ≠ 2; decide)⟩))
  refine ⟨lenOk (by show 3 ≤ 1000; decide), fun t11 h11 => ?_⟩
  have e11 := Ext.upd (o := .tup [V.int (1), V.int (2), V.int (3)]) h11
  have B11 := B10.ext e11
  have r11 : RB K b _ (.ref t11) (.tup [.int (1), .int (2), .int (3)]) := rb_tup (xs := [V.int (1), V.int (2), V.int (3)]) B10 h11 (by show 3 ≤ 1000; decide) (fun H' x => (.cons (.int (1)) (.cons (.int (2)) (.cons (.int (3)) .nil)))) (fun H' s dd => .inr (.inr ⟨_, _, rfl, s, .inl (by show 3 ≠ 2; decide)⟩))
  refine ⟨lenOk (by show 0 ≤ 1000; decide), fun t12 h12 => ?_⟩
  have e12 := Ext.upd (o := .tup []) h12
  have B12 := B11.ext e12
  have r12 : RB K b _ (.ref t12) (.tup []) := rb_tup (xs := []) B11 h12 (by show 0 ≤ 1000; decide) (fun H' x => .nil) (fun H' s dd => .inr (.inr ⟨_, _, rfl, s, .inl (by show 0 ≠ 2; decide)⟩))
  refine ⟨lenOk (by show 0 ≤ 1000; decide), fun t13 h13 => ?_⟩
  have e13 := Ext.upd (o := .lst []) h13
  have B13 := B12.ext e13
  have r13 : RB K b _ (.ref t13) (.lst []) := rb_lst (xs := []) B12 h13 (by show 0 ≤ 1000; decide) (fun H' x => .nil)
  refine ⟨lenOk (by show 2 ≤ 1000; decide), fun t14 h14 => ?_⟩
  have e14 := Ext.upd (o := .tup [V.int (1), V.int (1)]) h14
  have B14 := B13.ext e14
  have d14 : ∀ H', ExtB b _ H' → DD K H' (.ref t14) (.tup [.int (1), .int (1)]) := dd_tup (xs := [V.int (1), V.int (1)]) B13 h14 (by show 2 ≤ 1000; decide) (fun H' x => .cons (.int (1)) (.cons (.int (1)) .nil))
  refine ⟨lenOk (by show 2 ≤ 1000; decide), fun t15 h15 => ?_⟩
  have e15 := Ext.upd (o := .tup [V.ref t14, V.int (1)]) h15
  have B15 := B14.ext e15
  have r15 : RB K b _ (.ref t15) (.tup [.tup [.int (1), .int (1)], .int (1)]) := rb_tup (xs := [V.ref t14, V.int (1)]) B14 h15 (by show 2 ≤ 1000; decide) (fun H' x => .cons (d14 _ ((ext_b (Ext.upd h15)).trans x)) (.cons (.int (1)) .nil)) (fun H' s dd => .inr (.inr ⟨_, _, rfl, s, .inr ⟨_, _, .tup, .int, rfl, dd_kind0 dd, .int (1), .inl (fun z => nomatch z)⟩⟩))
  refine ⟨lenOk (by show 2 ≤ 1000; decide), fun t16 h16 => ?_⟩
  have e16 := Ext.upd (o := .tup [V.int (1), V.non]) h16
  have B16 := B15.ext e16
  have r16 : RB K b _ (.ref t16) (.tup [.int (1), .non]) := rb_tup (xs := [V.int (1), V.non]) B15 h16 (by show 2 ≤ 1000; decide) (fun H' x => (.cons (.int (1)) (.cons (.non) .nil))) (fun H' s dd => .inr (.inr ⟨_, _, rfl, s, .inr ⟨_, _, .int, .non, rfl, .int (1), .non, .inr (fun z => nomatch z)⟩⟩))
  refine ⟨lenOk (by show 2 ≤ 1000; decide), fun t17 h17 => ?_⟩
  have e17 := Ext.upd (o := .tup [V.str "1", V.int (2)]) h17
  have B17 := B16.ext e17
  have r17 : RB K b _ (.ref t17) (.tup [.str "1", .int (2)]) := rb_tup (xs := [V.str "1", V.int (2)]) B16 h17 (by show 2 ≤ 1000; decide) (fun H' x => (.cons (.str "1") (.cons (.int (2)) .nil))) (fun H' s dd => .inr (.inr ⟨_, _, rfl, s, .inr ⟨_, _, .str, .int, rfl, .str "1", .int (2), .inl (fun z => nomatch z)⟩⟩))
  refine ⟨lenOk (by show 2 ≤ 1000; decide), fun t18 h18 => ?_⟩
  have e18 := Ext.upd (o := .tup [V.int (1), V.int (1)]) h18
  have B18 := B17.ext e18
  have d18 : ∀ H', ExtB b _ H' → DD K H' (.ref t18) (.tup [.int (1), .int (1)]) := dd_tup (xs := [V.int (1), V.int (1)]) B17 h18 (by show 2 ≤ 1000; decide) (fun H' x => .cons (.int (1)) (.cons (.int (1)) .nil))
  refine ⟨lenOk (by show 1 ≤ 1000; decide), fun t19 h19 => ?_⟩
  have e19 := Ext.upd (o := .lst [V.ref t18]) h19
  have B19 := B18.ext e19
  have r19 : RB K b _ (.ref t19) (.lst [.tup [.int (1), .int (1)]]) := rb_lst (xs := [V.ref t18]) B18 h19 (by show 1 ≤ 1000; decide) (fun H' x => .cons (d18 _ ((ext_b (Ext.upd h19)).trans x)) .nil)
  refine ⟨rfl, rfl, fun t20 H20 e20 n20 st20 => ?_⟩
  have B20 := B19.ext e20
  have r20 : RB K b H20 (.ref t20) .stp := fun H' x => ⟨.stp (st20.mv B20 x), .inr (.inl ⟨_, (DD.stp (st20.mv B20 x)).kind, rfl⟩)⟩
  refine ⟨lenOk (by show 9 ≤ 1000; decide), fun t21 h21 => ?_⟩
  have e21 := Ext.upd (o := .lst [V.ref t10, V.ref t11, V.ref t12, V.ref t13, V.ref t15, V.ref t16, V.ref t17, V.ref t19, V.ref t20]) h21
  have B21 := B20.ext e21
  skip
  refine ⟨t9, t21, _, _, rfl, rfl, (e10.trans (e11.trans (e12.trans (e13.trans (e14.trans (e15.trans (e16.trans (e17.trans (e18.trans (e19.trans (e20.trans e21))))))))))) _ _ upd_same, upd_same, lenOk (by show 16 + 9 ≤ 1000; decide), fun t22 h22 => ?_⟩
  have e22 := Ext.upd (o := .lst ([V.non, V.bl (true), V.bl (false), V.int (0), V.int (1), V.str ("1"), V.str (""), V.str ("1/2"), V.ref t1, V.ref t2, V.ref t3, V.ref t4, V.ref t5, V.ref t6, V.ref t7, V.ref t8] ++ [V.ref t10, V.ref t11, V.ref t12, V.ref t13, V.ref t15, V.ref t16, V.ref t17, V.ref t19, V.ref t20])) h22
  have B22 := B21.ext e22
  have E21 := e22
  have E20 := e21.trans E21
  have E19 := e20.trans E20
  have E18 := e19.trans E19
  have E17 := e18.trans E18
  have E16 := e17.trans E17
  have E15 := e16.trans E16
  have E14 := e15.trans E15
  have E13 := e14.trans E14
  have E12 := e13.trans E13
  have E11 := e12.trans E12
  have E10 := e11.trans E11
  have E9 := e10.trans E10
  have E8 := e9.trans E9
  have E7 := e8.trans E8
  have E6 := e7.trans E7
  have E5 := e6.trans E6
  have E4 := e5.trans E5
  have E3 := e4.trans E4
  have E2 := e3.trans E3
  have E1 := e2.trans E2
  have E0 := e1.trans E1
  refine ⟨_, rfl, _, rfl, b, l, ns, t22, _, rfl, B22, SqL.of upd_same, B21.fresh h22, by simp, by show 16 + 9 ≤ 1000; decide, fun i y H' hy m => ?_⟩
  have hm := List.mem_of_getElem? hy
  simp only [List.mem_append, List.mem_cons, List.not_mem_nil, or_false] at hm
  have fin : ∀ {H1 : Hp} {x : V} {d : PT}, RB K b H1 x d → Ext H1 _ → d.dep < 4 → y = x → Q y H' := fun {H1 x d} r e hd ex => by
    obtain ⟨p, q⟩ := r _ ((ext_b e).trans m.ext)
    subst ex
    exact hq _ d _ hd p q ((Mv.of B E0).trans m)
  rcases hm with (z | z | z | z | z | z | z | z | z | z | z | z | z | z | z | z) | (z | z | z | z | z | z | z | z | z)
  · exact fin (fun H' x => ⟨.non, .inr (.inl ⟨_, .non, rfl⟩)⟩ : RB K b H (V.non) (.non)) E0 (by decide) z
  · exact fin (fun H' x => ⟨.bl true, .inr (.inl ⟨_, .bl true, rfl⟩)⟩ : RB K b H (V.bl (true)) (.bl true)) E0 (by decide) z
  · exact fin (fun H' x => ⟨.bl false, .inr (.inl ⟨_, .bl false, rfl⟩)⟩ : RB K b H (V.bl (false)) (.bl false)) E0 (by decide) z
  · exact fin (fun H' x => ⟨.int 0, .inr (.inl ⟨_, .int 0, rfl⟩)⟩ : RB K b H (V.int (0)) (.int 0)) E0 (by decide) z
  · exact fin (fun H' x => ⟨.int 1, .inr (.inl ⟨_, .int 1, rfl⟩)⟩ : RB K b H (V.int (1)) (.int 1)) E0 (by decide) z
  · exact fin (fun H' x => ⟨.str "1", .inr (.inl ⟨_, .str "1", rfl⟩)⟩ : RB K b H (V.str ("1")) (.str "1")) E0 (by decide) z
  · exact fin (fun H' x => ⟨.str "", .inr (.inl ⟨_, .str "", rfl⟩)⟩ : RB K b H (V.str ("")) (.str "")) E0 (by decide) z
  · exact fin (fun H' x => ⟨.str "1/2", .inr (.inl ⟨_, .str "1/2", rfl⟩)⟩ : RB K b H (V.str ("1/2")) (.str "1/2")) E0 (by decide) z
  · exact fin r1 E1 (by decide) z
  · exact fin r2 E2 (by decide) z
  · exact fin r3 E3 (by decide) z
  · exact fin r4 E4 (by decide) z
  · exact fin r5 E5 (by decide) z
  · exact fin r6 E6 (by decide) z
  · exact fin r7 E7 (by decide) z
  · exact fin r8 E8 (by decide) z
  · exact fin r10 E10 (by decide) z
  · exact fin r11 E11 (by decide) z
  · exact fin r12 E12 (by decide) z
  · exact fin r13 E13 (by decide) z
  · exact fin r15 E15 (by decide) z
  · exact fin r16 E16 (by decide) z
  · exact fin r17 E17 (by decide) z
  · exact fin r19 E19 (by decide) z
  · exact fin r20 E20 (by decide) z
end
end K4
end
section
set_option Elab.async false
set_option linter.all false
set_option maxRecDepth 100000
set_option maxHeartbeats 4000000
/-! The walks, 17: is it the power, is it the log; whole powers. -/
namespace K4
open PySem PySem.Spec PyProof.Rows L2 K04
/-- a row's sizes -/
def Bn (l : List Rat) (a b : Nat) : Prop := l.length ≤ 16 ∧ Bd a b (ser l).c l.length
section
variable {l m : List Rat} {a b a' b' c d n : Nat} {t : Rat}
theorem Bn.ok (h : Bn l a b) (ha : a ≤ 1000 := by omega) (hb : b ≤ 20000 := by omega) : Ok l := ⟨h.1, h.2.mono ha hb (Nat.le_refl _)⟩
theorem Bn.mono (h : Bn l a b) (ha : a ≤ a' := by omega) (hb : b ≤ b' := by omega) : Bn l a' b' := ⟨h.1, h.2.mono ha hb (Nat.le_refl _)⟩
theorem bd_eqv {f g : Ser} (h : Bd a b f.c n) (e : Ser.Eqv n g f) : Bd a b g.c n := h.congr e
theorem Bn.take (h : Bn l a b) (k : Nat) : Bn (l.take k) a b := by
  refine ⟨by rw [List.length_take]; have := h.1; omega, ?_⟩
  have hl : (l.take k).length ≤ l.length := by rw [List.length_take]; omega
  refine bd_eqv (h.2.mono (Nat.le_refl _) (Nat.le_refl _) hl) fun i hi => ?_
  exact ser_take i (by rw [List.length_take] at hi; omega)
theorem Bn.mul (h : Bn l a b) (k : Bn m a' b') (e : m.length = l.length) : Bn (mulL l m) (a + a') (b + b' + 4) := by
  refine ⟨by rw [mulL_len]; exact h.1, ?_⟩
  rw [mulL_len]
  exact bd_eqv (Bd.mul h.2 (by rw [← e]; exact k.2) h.1) (sc_mul rfl)
theorem Bn.add (h : Bn l a b) (k : Bn m a' b') (e : m.length = l.length) : Bn (addL l m) (a + a') (a + b + a' + b' + 1) := by
  refine ⟨by rw [addL_len]; exact h.1, ?_⟩
  rw [addL_len]
  exact bd_eqv (Bd.add h.2 (by rw [← e]; exact k.2)) (sc_add rfl)
theorem Bn.scl (h : Bn l a b) (ht : Sq c d t) : Bn (sclL t l) (c + a) (d + b) := by
  refine ⟨by rw [sclL_len]; exact h.1, ?_⟩
  rw [sclL_len, ser_scl]
  exact Bd.scl h.2 ht
theorem Bn.slope (h : Bn l a b) : Bn (slopeL l) a (b + 4) := by
  refine ⟨by rw [slopeL_len]; have := h.1; omega, ?_⟩
  rw [slopeL_len]
  have z := Bd.th h.2 h.1
  cases q : l.length with
  | zero => exact ⟨1, by decide, pp _, fun j hj => by omega⟩
  | succ n =>
    rw [q] at z
    exact bd_eqv (Bd.tl (u := Ser.th (ser l)) z) (sc_slope q)
theorem Bn.pow (h : Bn l a b) (ht : Sq c d t) : Bn (powL t l) ((c + a + 4) * (l.length - 1)) ((a + b + c + d + 10) * (l.length - 1)) := by
  refine ⟨by rw [powL_len]; exact h.1, ?_⟩
  rw [powL_len]
  exact bd_eqv (Bd.pow ht h.2 h.1) (sc_pow rfl)
theorem Bn.log (h : Bn l a b) : Bn (logL l) ((a + 4) * (l.length - 1)) ((a + b + 10) * (l.length - 1)) := by
  refine ⟨by rw [logL_len]; exact h.1, ?_⟩
  rw [logL_len]
  exact bd_eqv (Bd.log h.2 h.1) (sc_log rfl)
theorem Bn.rec (h : Bn l a b) (h0 : l.getD 0 0 ≠ 0) : Bn (recL l) (b * l.length) (a + (b + 4) * (l.length - 1)) := by
  refine ⟨by rw [recL_len]; exact h.1, ?_⟩
  rw [recL_len]
  exact bd_eqv (Bd.rec h.2 h0 h.1) (sc_rec rfl)
theorem bn_one (h : n ≤ 16) : Bn (oneL n) 0 0 := by
  refine ⟨by rw [oneL_len]; exact h, ?_⟩
  rw [oneL_len]
  refine bd_eqv (f := 1) ⟨1, by decide, by decide, fun j _ => ?_⟩ ser_toL
  rw [Ser.one_def]
  cases j with
  | zero => exact ⟨1, by rw [Ser.con_c0]; simp, by decide⟩
  | succ j => rw [Ser.con_cs]; exact .zero
theorem bn_times (h : Bn m a b) (hn : m.length = n) (h16 : n ≤ 16) : ∀ j, Bn (timesL m n j) (a * j) ((b + 4) * j)
  | 0 => bn_one h16
  | j + 1 => by
    have z := (bn_times h hn h16 j).mul h (by rw [timesL_len, hn])
    rw [Nat.mul_succ, Nat.mul_succ]
    exact z.mono (by omega) (by omega)
end
def ptF (q : Rat) : PT := .tup [.int q.num, .int (q.den : Int)]
def ptL (l : List Rat) : PT := .lst (l.map ptF)
theorem Fr.dd {K : Frag} {H : Hp} {v : V} {q : Rat} (h : Fr K H v q) : DD K H v (ptF q) := by
  obtain ⟨a, rfl, t⟩ := h
  exact .tup (by show 2 ≤ 1000; decide) t (.cons (.int _) (.cons (.int _) .nil))
theorem Frs.dd {K : Frag} {H : Hp} : ∀ {xs : List V} {qs : List Rat}, Frs K H xs qs → DDs K H xs (qs.map ptF)
  | [], [], _ => .nil
  | x :: xs, q :: qs, h => by
    obtain ⟨z, hz, f⟩ := h.2 0 q rfl
    obtain rfl : x = z := Option.some.inj hz
    refine .cons f.dd (Frs.dd ⟨by have := h.1; simpa using this, fun i r hr => ?_⟩)
    obtain ⟨y, hy, g⟩ := h.2 (i + 1) r (by simpa using hr)
    exact ⟨y, by simpa using hy, g⟩
  | [], _ :: _, h => by have := h.1; simp at this
  | _ :: _, [], h => by have := h.1; simp at this
theorem FL.dd {K : Frag} {H : Hp} {a : Addr} {l : List Rat} (h : FL K H a l) (hl : l.length ≤ 1000) : DD K H (.ref a) (ptL l) := by
  obtain ⟨xs, s, f⟩ := h
  exact .lst (by rw [List.length_map]; exact hl) s f.dd
theorem dep_F : ∀ l : List Rat, PT.deps (l.map ptF) ≤ 1
  | [] => Nat.zero_le _
  | q :: l => by
    rw [List.map_cons, PT.deps]
    exact Nat.max_le.mpr ⟨Nat.le_refl _, dep_F l⟩
theorem dep_L (l : List Rat) : (ptL l).dep ≤ 2 := by
  unfold ptL
  rw [PT.dep]
  have := dep_F l
  omega
def spPowSo (K : Frag) : Sp := fun vs H Q _ => ∃ a b x l t, vs = [.ref a, .ref b, x] ∧ FL K H a (powL t l) ∧ FL K H b l ∧ Fr K H x t ∧ 3 ≤ l.length ∧ l.getD 0 0 = 1 ∧ Tb t ∧ Bn l 3 23 ∧ Bn (powL t l) 990 9000 ∧ ∀ H', Ext H H' → Q (.bl true) H'
def spLogSo (K : Frag) : Sp := fun vs H Q _ => ∃ a b l, vs = [.ref a, .ref b] ∧ FL K H a (logL l) ∧ FL K H b l ∧ 3 ≤ l.length ∧ l.getD 0 0 = 1 ∧ Bn l 3 23 ∧ Bn (logL l) 990 9000 ∧ ∀ H', Ext H H' → Q (.bl true) H'
def spWhole (K : Frag) : Sp := fun vs H Q _ => ∃ b n ns a l, vs = [.ref b, .ref a] ∧ Bag K H b n ns ∧ FL K H a l ∧ 3 ≤ l.length ∧ l.length ≤ 9 ∧ l.getD 0 0 = 1 ∧ Bn l 3 23 ∧ ∀ H', Mv K b n ns H H' → Q (.bl true) H'
/-- the steps of [_law_is(b) for b in told] -/
def AllIs (K : Frag) (H : Hp) (l : List Rat) (i : Nat) (D : Addr) (H' : Hp) : Prop := Ext H H' ∧ H' D = some (.lst ((List.replicate i true).map V.bl))
theorem ok_c0 {l : List Rat} (h : Ok l) (h1 : 0 < l.length) : Sm (l.getD 0 0) := h.at h1
section
variable {P : Program} {w : World} {K : Frag} {mg : Str → Option Value} {base : Heap}
theorem sc_law_power_so : FnScope ["_law_told", "_law_a", "_law_c", "_law_one", "_law_b"] ["_law_told", "_law_a", "_law_c"] (defScope s__law_power_so) := sc_by (by decide +kernel)
theorem ok_law_power_so (T : Tx K mg) : Ca P w K mg base CX0 4 "_law_power_so" (spPowSo K) := by
  have c_law_is := ok_law_is (P := P) (w := w) (base := base) T
  have c_law_times := ok_law_times (P := P) (w := w) (base := base) T
  have c_law_slope := ok_law_slope (P := P) (w := w) (base := base) T
  have c_law_scale := ok_law_scale (P := P) (w := w) (base := base) T
  refine ca_of0 T.d__law_power_so T.g__law_power_so sc_law_power_so (fun vs H Q E h => ?_) (fun _ _ _ _ _ _ us hl => match us, hl with | [_, _, _], _ => rfl) fun cdv A outer s H vs Q E hr h => ?_
  · obtain ⟨_, _, _, _, _, rfl, _⟩ := h
    rfl
  obtain ⟨a, b, x, l, t, rfl, fp, fl, ft, h3, h0, tb, bl, bp, hq⟩ := h
  have h16 := bl.1
  have op : Ok (powL t l) := bp.ok
  have ol : Ok l := bl.ok
  have hp0 : (powL t l).getD 0 0 = 1 := c0_pow (l := l) (by omega) h0
  refine ⟨_, (pss_cons (ps_if (pw_or (pt_cmpR op_ne (pe_callB call_len_seq (by rfl) T.f_len PySem.boot_len (pa_cons (pv 0) pa_nil)) (pe_callB call_len_seq (by rfl) T.f_len PySem.boot_len (pa_cons (pv 1) pa_nil)) (nomark _)) (pw_or (pt_not (pt_val (pe_callB (cr_all rfl) (by rfl) T.f_all PyProof.Rows.Boot.«all» (pa_cons (pe_lc (own := [("_law_b", 4)]) rfl sc_law_power_so.nd (pi_list (pv 0)) (blkOk_by (N := ["_law_told", "_law_a", "_law_c", "_law_one", "_law_b"]) (sc := defScope s__law_power_so) (by decide +kernel)) (fun _ _ _ _ _ => (pg_name (i := 4) sc_law_power_so.nd rfl (Or.inl rfl) (Or.inr rfl))) (fun _ _ _ _ _ => pts_nil) (fun _ _ _ _ _ => (pe_ca c_law_is hr (by decide) pass0 (pa_cons (pv 4) pa_nil)))) pa_nil)))) (pw_or1 (pt_cmpR (op_neF (hrU hr)) (pe_fl (pv 0) pe_int) (pe_tup (pa_cons pe_int (pa_cons pe_int pa_nil))) (nomark _))))).pt (pss_one (ps_ret pe_bl)) pss_nil)
    (pss_cons (ps_set (i := 3) sc_law_power_so.nd rfl (Or.inl rfl) (pe_ca c_law_times hr (by decide) pass0 (pa_cons (pe_slice sl_list (pv 1) po_none (po_some (pe_un un_neg pe_int))) (pa_cons (pe_ca c_law_slope hr (by decide) pass0 (pa_cons (pv 0) pa_nil)) pa_nil))))
    (pss_one (ps_ret (pe_cmpR (op_eqFL (hrU hr)) (pv 3) (pe_ca c_law_scale hr (by decide) pass0 (pa_cons (pe_ca c_law_times hr (by decide) pass0 (pa_cons (pe_ca c_law_slope hr (by decide) pass0 (pa_cons (pv 1) pa_nil)) (pa_cons (pe_slice sl_list (pv 0) po_none (po_some (pe_un un_neg pe_int))) pa_nil))) (pa_cons (pv 2) pa_nil))) (nomark _)))))), ?_⟩
  obtain ⟨xs, sp, xp⟩ := id fp
  obtain ⟨ys, sl, yl⟩ := id fl
  refine ⟨_, rfl, a, xs, rfl, .inl sp, _, rfl, b, ys, rfl, .inl sl, rfl, _, rfl, ?_⟩
  rw [xp.1, yl.1, powL_len, show (!decide (V.int (l.length : Int) = V.int (l.length : Int))) = false from by simp]
  refine iteF ⟨_, rfl, a, rfl, ⟨xs, sp⟩, fun D hD => ?_⟩
  refine lc_it (walk_list (xs := xs)) (fun i H' => Ext H H' ∧ H' D = some (.lst ((List.replicate i true).map V.bl))) ⟨Ext.upd hD, upd_same⟩ (fun i H' _ z => sp.ext z.1) (fun i x H1 H2 hi z y => ?_) (fun H1 z => ?_)
  · obtain ⟨e, hacc⟩ := z
    obtain ⟨rfl, hx⟩ := y
    obtain ⟨q, hq1, fx⟩ := xp.at hx
    have hi' : i < (powL t l).length := by rw [← xp.1]; exact hi
    have sx : Sm q := by
      have := op.at hi'
      rw [getD_of hq1] at this
      exact this
    refine ⟨rfl, lcT (iteT ?_)⟩
    refine ⟨_, rfl, x, q, rfl, fx.ext e, sx, fun H3 e3 => ⟨_, e3 _ _ hacc, lenLt (by simp; rw [powL_len] at hi'; omega), ext_lst (e.trans e3) hD, ?_⟩⟩
    rw [upd_same, List.replicate_succ', List.map_append]
    rfl
  obtain ⟨e1, hacc⟩ := z
  refine ⟨D, _, rfl, SqL.of hacc, _, rfl, ?_⟩
  rw [show ((List.replicate xs.length true).all id) = true from by simp]
  refine iteF ⟨_, rfl, a, _, 0, rfl, rfl, fp.ext e1, by rw [powL_len]; omega, fun z fz => ⟨lenOk (by show 2 ≤ 1000; decide), fun p np => ?_⟩⟩
  have e2 := e1.trans (Ext.upd (o := .tup [V.int 1, V.int 1]) np)
  refine ⟨_, 1, fz.ext (Ext.upd np), whole_fr upd_same rfl, _, rfl, ?_⟩
  rw [hp0, show (!decide ((1 : Rat) = 1)) = false from by decide]
  -- the products
  refine iteF ⟨_, rfl, _, rfl, _, rfl, b, ys, rfl, sl.ext e2, fun c nc => ?_⟩
  rw [cut_m1, yl.1]
  have e3 := e2.trans (Ext.upd (o := .lst (ys.take (l.length - 1))) nc)
  have fc : FL K _ c (l.take (l.length - 1)) := FL.of upd_same ((yl.ext e3).take _)
  obtain ⟨n, hn⟩ : ∃ n, l.length = n + 1 := ⟨l.length - 1, by omega⟩
  refine ⟨_, rfl, a, powL t l, rfl, fp.ext e3, op, by rw [powL_len]; omega, fun v4 H4 e4 _ f4 => ?_⟩
  have bs : Bn (slopeL (powL t l)) 990 9004 := bp.slope
  refine ⟨c, v4, _, _, rfl, fc.ext e4, f4, (bl.take _).ok, bs.ok, by rw [slopeL_len, powL_len, List.length_take]; omega, fun v5 H5 e5 _ f5 => ?_⟩
  have e35 := e3.trans (e4.trans e5)
  refine ⟨_, rfl, _, rfl, b, l, rfl, fl.ext e35, ol, by omega, fun v6 H6 e6 _ f6 => ?_⟩
  have e36 := e35.trans e6
  refine ⟨_, rfl, _, rfl, _, rfl, a, xs, rfl, sp.ext e36, fun c2 nc2 => ?_⟩
  rw [cut_m1, xp.1, powL_len]
  have e7 := Ext.upd (o := .lst (xs.take (l.length - 1))) nc2
  have fc2 : FL K _ c2 ((powL t l).take (l.length - 1)) := FL.of upd_same ((xp.ext (e36.trans e7)).take _)
  have bt : Bn ((powL t l).take (l.length - 1)) 990 9000 := bp.take _
  have lt2 : ((powL t l).take (l.length - 1)).length = (slopeL l).length := by rw [slopeL_len, List.length_take, powL_len]; omega
  refine ⟨v6, c2, _, _, rfl, f6.ext e7, fc2, bl.slope.ok, bt.ok, lt2, fun v8 H8 e8 _ f8 => ?_⟩
  have e38 := e36.trans (e7.trans e8)
  have bm : Bn (mulL (slopeL l) ((powL t l).take (l.length - 1))) 993 9031 := bl.slope.mul bt lt2
  refine ⟨_, rfl, v8, x, _, t, rfl, f8, ft.ext e38, bm.ok, tb.mono (by omega) (by omega), fun v9 H9 e9 _ f9 => ?_⟩
  refine ⟨v5, v9, _, _, rfl, rfl, f5.ext (e6.trans (e7.trans (e8.trans e9))), f9, ?_⟩
  have key := pow_so (t := t) hn h0
  have n1 : l.length - 1 = n := by omega
  rw [n1]
  show Q (.bl (decide (mulL (l.take n) (slopeL (powL t l)) = sclL t (mulL (slopeL l) ((powL t l).take n))))) H9
  rw [decide_eq_true key]
  exact hq _ (e38.trans e9)
theorem sc_law_log_so : FnScope ["_law_told", "_law_a", "_law_b"] ["_law_told", "_law_a"] (defScope s__law_log_so) := sc_by (by decide +kernel)
theorem ok_law_log_so (T : Tx K mg) : Ca P w K mg base CX0 4 "_law_log_so" (spLogSo K) := by
  have c_law_is := ok_law_is (P := P) (w := w) (base := base) T
  have c_law_times := ok_law_times (P := P) (w := w) (base := base) T
  have c_law_slope := ok_law_slope (P := P) (w := w) (base := base) T
  refine ca_of0 T.d__law_log_so T.g__law_log_so sc_law_log_so (fun vs H Q E h => ?_) (fun _ _ _ _ _ _ us hl => match us, hl with | [_, _], _ => rfl) fun cdv A outer s H vs Q E hr h => ?_
  · obtain ⟨_, _, _, rfl, _⟩ := h
    rfl
  obtain ⟨a, b, l, rfl, fp, fl, h3, h0, bl, bp, hq⟩ := h
  have h16 := bl.1
  have op : Ok (logL l) := bp.ok
  have ol : Ok l := bl.ok
  have hp0 : (logL l).getD 0 0 = 0 := c0_log (l := l) (by omega) h0
  refine ⟨_, (pss_cons (ps_if (pw_or (pt_cmpR op_ne (pe_callB call_len_seq (by rfl) T.f_len PySem.boot_len (pa_cons (pv 0) pa_nil)) (pe_callB call_len_seq (by rfl) T.f_len PySem.boot_len (pa_cons (pv 1) pa_nil)) (nomark _)) (pw_or (pt_not (pt_val (pe_callB (cr_all rfl) (by rfl) T.f_all PyProof.Rows.Boot.«all» (pa_cons (pe_lc (own := [("_law_b", 2)]) rfl sc_law_log_so.nd (pi_list (pv 0)) (blkOk_by (N := ["_law_told", "_law_a", "_law_b"]) (sc := defScope s__law_log_so) (by decide +kernel)) (fun _ _ _ _ _ => (pg_name (i := 2) sc_law_log_so.nd rfl (Or.inl rfl) (Or.inr rfl))) (fun _ _ _ _ _ => pts_nil) (fun _ _ _ _ _ => (pe_ca c_law_is hr (by decide) pass0 (pa_cons (pv 2) pa_nil)))) pa_nil)))) (pw_or1 (pt_cmpR (op_neF (hrU hr)) (pe_fl (pv 0) pe_int) (pe_tup (pa_cons pe_int (pa_cons pe_int pa_nil))) (nomark _))))).pt (pss_one (ps_ret pe_bl)) pss_nil)
    (pss_one (ps_ret (pe_cmpR (op_eqFL (hrU hr)) (pe_ca c_law_times hr (by decide) pass0 (pa_cons (pe_slice sl_list (pv 1) po_none (po_some (pe_un un_neg pe_int))) (pa_cons (pe_ca c_law_slope hr (by decide) pass0 (pa_cons (pv 0) pa_nil)) pa_nil))) (pe_ca c_law_slope hr (by decide) pass0 (pa_cons (pv 1) pa_nil)) (nomark _))))), ?_⟩
  obtain ⟨xs, sp, xp⟩ := id fp
  obtain ⟨ys, sl, yl⟩ := id fl
  refine ⟨_, rfl, a, xs, rfl, .inl sp, _, rfl, b, ys, rfl, .inl sl, rfl, _, rfl, ?_⟩
  rw [xp.1, yl.1, logL_len, show (!decide (V.int (l.length : Int) = V.int (l.length : Int))) = false from by simp]
  refine iteF ⟨_, rfl, a, rfl, ⟨xs, sp⟩, fun D hD => ?_⟩
  refine lc_it (walk_list (xs := xs)) (fun i H' => Ext H H' ∧ H' D = some (.lst ((List.replicate i true).map V.bl))) ⟨Ext.upd hD, upd_same⟩ (fun i H' _ z => sp.ext z.1) (fun i x H1 H2 hi z y => ?_) (fun H1 z => ?_)
  · obtain ⟨e, hacc⟩ := z
    obtain ⟨rfl, hx⟩ := y
    obtain ⟨q, hq1, fx⟩ := xp.at hx
    have hi' : i < (logL l).length := by rw [← xp.1]; exact hi
    have sx : Sm q := by
      have := op.at hi'
      rw [getD_of hq1] at this
      exact this
    refine ⟨rfl, lcT (iteT ?_)⟩
    refine ⟨_, rfl, x, q, rfl, fx.ext e, sx, fun H3 e3 => ⟨_, e3 _ _ hacc, lenLt (by simp; rw [logL_len] at hi'; omega), ext_lst (e.trans e3) hD, ?_⟩⟩
    rw [upd_same, List.replicate_succ', List.map_append]
    rfl
  obtain ⟨e1, hacc⟩ := z
  refine ⟨D, _, rfl, SqL.of hacc, _, rfl, ?_⟩
  rw [show ((List.replicate xs.length true).all id) = true from by simp]
  refine iteF ⟨_, rfl, a, _, 0, rfl, rfl, fp.ext e1, by rw [logL_len]; omega, fun z fz => ⟨lenOk (by show 2 ≤ 1000; decide), fun p np => ?_⟩⟩
  have e2 := e1.trans (Ext.upd (o := .tup [V.int 0, V.int 1]) np)
  refine ⟨_, 0, fz.ext (Ext.upd np), whole_fr upd_same rfl, _, rfl, ?_⟩
  rw [hp0, show (!decide ((0 : Rat) = 0)) = false from by decide]
  refine iteF ⟨_, rfl, _, rfl, _, rfl, b, ys, rfl, sl.ext e2, fun c nc => ?_⟩
  rw [cut_m1, yl.1]
  have e3 := e2.trans (Ext.upd (o := .lst (ys.take (l.length - 1))) nc)
  have fc : FL K _ c (l.take (l.length - 1)) := FL.of upd_same ((yl.ext e3).take _)
  obtain ⟨n, hn⟩ : ∃ n, l.length = n + 1 := ⟨l.length - 1, by omega⟩
  refine ⟨_, rfl, a, logL l, rfl, fp.ext e3, op, by rw [logL_len]; omega, fun v4 H4 e4 _ f4 => ?_⟩
  have bs : Bn (slopeL (logL l)) 990 9004 := bp.slope
  refine ⟨c, v4, _, _, rfl, fc.ext e4, f4, (bl.take _).ok, bs.ok, by rw [slopeL_len, logL_len, List.length_take]; omega, fun v5 H5 e5 _ f5 => ?_⟩
  have e35 := e3.trans (e4.trans e5)
  refine ⟨_, rfl, b, l, rfl, fl.ext e35, ol, by omega, fun v6 H6 e6 _ f6 => ?_⟩
  refine ⟨v5, v6, _, _, rfl, rfl, f5.ext e6, f6, ?_⟩
  have key := log_so hn h0
  have n1 : l.length - 1 = n := by omega
  rw [n1]
  show Q (.bl (decide (mulL (l.take n) (slopeL (logL l)) = slopeL l))) H6
  rw [decide_eq_true key]
  exact hq _ (e35.trans e6)
end
end K4
end
section
set_option Elab.async false
set_option linter.all false
set_option maxRecDepth 100000
set_option maxHeartbeats 4000000
/-! The walks, 18: whole powers. -/
namespace K4
open PySem PySem.Spec PyProof.Rows L2 K04
theorem oneL_eq (n : Nat) (h : 0 < n) : oneL n = [1] ++ List.replicate (n - 1) 0 := by
  unfold oneL
  refine List.ext_getElem? fun i => ?_
  by_cases hi : i < n
  · rw [toL_get hi, Ser.one_def]
    cases i with
    | zero => rfl
    | succ i =>
      rw [Ser.con_cs, List.getElem?_append_right (by simp), List.getElem?_replicate, if_pos (by simp; omega)]
  · rw [List.getElem?_eq_none (by simp; omega), List.getElem?_eq_none (by simp; omega)]
theorem sq_int {k : Int} (h : k.natAbs ≤ 16) : Sq 300 300 (k : Rat) := by
  refine ⟨by rw [Rat.den_intCast]; exact pp _, ?_⟩
  rw [Rat.num_intCast]
  have : (2 : Nat) ^ 4 = 16 := rfl
  exact Nat.le_trans (by omega) (pl (by omega : 4 ≤ 300))
theorem bn_pow_small {l : List Rat} {t : Rat} (h : Bn l 3 23) (hl : l.length ≤ 9) (ht : Sq 8 20 t) : Bn (powL t l) 990 9000 := by
  have z := h.pow ht
  refine z.mono ?_ ?_
  · have : (8 + 3 + 4) * (l.length - 1) ≤ (8 + 3 + 4) * 8 := Nat.mul_le_mul (Nat.le_refl _) (by omega)
    omega
  · have : (3 + 23 + 8 + 20 + 10) * (l.length - 1) ≤ (3 + 23 + 8 + 20 + 10) * 8 := Nat.mul_le_mul (Nat.le_refl _) (by omega)
    omega
theorem bn_rec_small {l : List Rat} (h : Bn l 3 23) (hl : l.length ≤ 9) (h0 : l.getD 0 0 ≠ 0) : Bn (recL l) 207 219 := by
  have z := h.rec h0
  refine z.mono ?_ ?_
  · have : 23 * l.length ≤ 23 * 9 := Nat.mul_le_mul (Nat.le_refl _) hl
    omega
  · have : (23 + 4) * (l.length - 1) ≤ (23 + 4) * 8 := Nat.mul_le_mul (Nat.le_refl _) (by omega)
    omega
theorem sz_head {l : List Rat} (h : Bn l 3 23) (h1 : 0 < l.length) : Sz (l.getD 0 0).num 5000 := by
  have z := (h.2.at h1).2
  exact Nat.le_trans z (pl (by omega))
section
variable {P : Program} {w : World} {K : Frag} {mg : Str → Option Value} {base : Heap}
theorem sc_law_whole_so : FnScope ["_law_bag_here", "_law_a", "_law_u", "_law_k", "_law_due", "_law_j"] ["_law_bag_here", "_law_a"] (defScope s__law_whole_so) := sc_by (by decide +kernel)
theorem ok_law_whole_so (T : Tx K mg) : Ca P w K mg base CX0 8 "_law_whole_so" (spWhole K) := by
  have c_law_draw := ok_law_draw (P := P) (w := w) (base := base) T
  have c_law_times := ok_law_times (P := P) (w := w) (base := base) T
  have c_law_like := ok_law_like (P := P) (w := w) (base := base) T 6
  have c_reciprocal := ok_reciprocal (P := P) (w := w) (base := base) T
  have c_row_power := ok_row_power (P := P) (w := w) (base := base) T
  obtain ⟨fd1, ps1, Ri⟩ := ok_Row_init (P := P) (w := w) (base := base) T
  obtain ⟨fd2, ps2, Rn⟩ := ok_numbers (P := P) (w := w) (base := base) T
  refine ca_of0 T.d__law_whole_so T.g__law_whole_so sc_law_whole_so (fun vs H Q E h => ?_) (fun _ _ _ _ _ _ us hl => match us, hl with | [_, _], _ => rfl) fun cdv A outer s H vs Q E hr h => ?_
  · obtain ⟨_, _, _, _, _, rfl, _⟩ := h
    rfl
  obtain ⟨b, bn, ns, a, l, rfl, B, fl, h3, h9, h0, bl, hq⟩ := h
  have ol : Ok l := bl.ok
  have h0' : l.getD 0 0 ≠ 0 := by rw [h0]; decide
  have br : Bn (recL l) 207 219 := bn_rec_small bl h9 h0'
  have orc : Ok (recL l) := br.ok
  refine ⟨_, (pss_cons (ps_set (i := 2) sc_law_whole_so.nd rfl (Or.inl rfl) (pe_make T.k_Row Ri.ok (hr.mono (by decide)) (by rfl) T.g_Row Ri.b .nil pass0 (pa_cons (pv 1) pa_nil)))
    (C8.pss_cut (ps_set (i := 3) sc_law_whole_so.nd rfl (Or.inl rfl) (pe_op op_sub (pe_ca c_law_draw hr (by decide) pass0 (pa_cons (pv 0) (pa_cons pe_int pa_nil))) pe_int))
    (pss_cons (ps_set (i := 4) sc_law_whole_so.nd rfl (Or.inl rfl) (pe_op op_cat (pe_lst (pa_cons (pe_tup (pa_cons pe_int (pa_cons pe_int pa_nil))) pa_nil)) (pe_op op_rep (pe_lst (pa_cons (pe_tup (pa_cons pe_int (pa_cons pe_int pa_nil))) pa_nil)) (pe_op op_sub (pe_callB call_len_seq (by rfl) T.f_len PySem.boot_len (pa_cons (pv 1) pa_nil)) pe_int))))
    (pss_cons (ps_for PassesOwn.never rfl (pi_range1 (by rfl) T.f_range (pa_cons (pe_callB call_abs (by rfl) T.f_abs PyProof.Rows.Boot.«abs» (pa_cons (pv 3) pa_nil)) pa_nil)) (pg_name (i := 5) sc_law_whole_so.nd rfl (Or.inl rfl) (Or.inr rfl)) (pss_one (ps_set (i := 4) sc_law_whole_so.nd rfl (Or.inl rfl) (pe_ca c_law_times hr (by decide) pass0 (pa_cons (pv 4) (pa_cons (pe_ifExp (pt_cmpR op_gt (pv 3) pe_int (nomark _)) (pv 1) (pe_meth0 (pe_ca c_reciprocal hr (by decide) passN (pa_cons (pv 2) pa_nil)) T.c_Row T.m_numbers Rn.ok (hr.mono (by decide)) Rn.b .nil pass0)) pa_nil))))))
    (pss_one (ps_ret (pe_ca c_law_like hr (by decide) pass0 (pa_cons (pe_meth0 (pe_ca c_row_power hr (by decide) passN (pa_cons (pv 2) (pa_cons (pe_tup (pa_cons (pv 3) (pa_cons pe_int pa_nil))) pa_nil))) T.c_Row T.m_numbers Rn.ok (hr.mono (by decide)) Rn.b .nil pass0) (pa_cons (pv 4) pa_nil))))))))), ?_⟩
  refine ⟨_, rfl, fun y d hy hd hne => ⟨y, d, a, l, rfl, upd_same, (fl.ext (Ext.upd hd)).ext (Ext.upd (by rw [upd_ne hne.symm]; exact hy)), h3, by omega, fun H2 e2 ru => ⟨rfl, ?_⟩⟩⟩
  have eu : Ext H H2 := ext_made hy hd e2
  refine ⟨fun σ H3 => ∃ k : Int, -3 ≤ k ∧ k ≤ 6 ∧ σ = [some (.ref b), some (.ref a), some (.ref y), some (.int k), none, none] ∧ Mv K b bn ns H2 H3, ?_, fun σ H3 z => ?_⟩
  · exact ⟨_, rfl, b, bn, ns, 10, rfl, B.ext eu, by decide, by decide, fun k0 H3 kl kh m3 => ⟨_, _, rfl, rfl, k0 - 3, by omega, by omega, rfl, m3⟩⟩
  obtain ⟨k, kl, kh, rfl, m3⟩ := z
  have m3' := (Mv.of B eu).trans m3
  have fl3 := fl.mv B m3'.ext
  have ru3 := ru.mv (B.ext eu) m3.ext
  refine ⟨lenOk (by show 2 ≤ 1000; decide), fun p1 np1 => ⟨lenOk (by show 1 ≤ 1000; decide), fun p2 np2 => ⟨lenOk (by show 2 ≤ 1000; decide), fun p3 np3 => ⟨lenOk (by show 1 ≤ 1000; decide), fun p4 np4 => ?_⟩⟩⟩⟩
  have e1 := Ext.upd (o := .tup [V.int 1, V.int 1]) np1
  have e2 := Ext.upd (o := .lst [V.ref p1]) np2
  have e3 := Ext.upd (o := .tup [V.int 0, V.int 1]) np3
  have e4 := Ext.upd (o := .lst [V.ref p3]) np4
  have e14 := e1.trans (e2.trans (e3.trans e4))
  obtain ⟨xs, sl, yl⟩ := fl3.ext e14
  refine ⟨_, rfl, a, xs, rfl, .inl sl, _, _, rfl, rfl, p4, _, _, rfl, rfl, upd_same, by have := yl.1; omega, by have := yl.1; omega, lenOk (by show 1 * _ ≤ 1000; have := yl.1; omega), fun p5 np5 => ?_⟩
  rw [yl.1, show ((l.length : Int) - 1).toNat = l.length - 1 from by omega, flat_rep]
  have e5 := Ext.upd (o := .lst (List.replicate (l.length - 1) (V.ref p3))) np5
  refine ⟨p2, p5, [.ref p1], _, rfl, rfl, e5 _ _ (e4 _ _ (e3 _ _ upd_same)), upd_same, lenOk (by simp; omega), fun p6 np6 => ?_⟩
  have e6 := Ext.upd (o := .lst ([V.ref p1] ++ List.replicate (l.length - 1) (V.ref p3))) np6
  have e16 := e14.trans (e5.trans e6)
  have f1 := (whole_fr (K := K) (H := upd H3 p1 (.tup [V.int 1, V.int 1])) (p := p1) (n := 1) (q := 1) upd_same rfl).ext (e2.trans (e3.trans (e4.trans (e5.trans e6))))
  have f0 := (whole_fr (K := K) (H := upd (upd (upd H3 p1 (.tup [V.int 1, V.int 1])) p2 (.lst [V.ref p1])) p3 (.tup [V.int 0, V.int 1])) (p := p3) (n := 0) (q := 0) upd_same rfl).ext (e4.trans (e5.trans e6))
  have fapp := Frs.append (Frs.cons f1 Frs.nil) (Frs.rep f0 (l.length - 1))
  rw [← oneL_eq _ (by omega)] at fapp
  refine ⟨_, rfl, k, rfl, _, rfl, ?_⟩
  have ka : (if k < 0 then -k else k) = ((k.natAbs : Nat) : Int) := by split <;> omega
  rw [ka]
  refine ⟨by omega, by omega, ?_⟩
  rw [Int.toNat_natCast]
  let m : List Rat := if 0 < k then l else recL l
  have hm : m.length = l.length := by show (if 0 < k then l else recL l).length = _; split <;> simp
  have om : Ok m := by show Ok (if 0 < k then l else recL l); split <;> assumption
  have od : ∀ i, i ≤ k.natAbs → Ok (timesL m l.length i) := fun i hi => by
    by_cases kp : 0 < k
    · have em : m = l := if_pos kp
      rw [em]
      have z := bn_times bl rfl (by omega) i
      have q1 : 3 * i ≤ 3 * 6 := Nat.mul_le_mul (Nat.le_refl _) (by omega)
      have q2 : (23 + 4) * i ≤ (23 + 4) * 6 := Nat.mul_le_mul (Nat.le_refl _) (by omega)
      exact z.ok (by omega) (by omega)
    · have em : m = recL l := if_neg kp
      rw [em]
      have z := bn_times br (recL_len l) (by omega) i
      have q1 : 207 * i ≤ 207 * 3 := Nat.mul_le_mul (Nat.le_refl _) (by omega)
      have q2 : (219 + 4) * i ≤ (219 + 4) * 3 := Nat.mul_le_mul (Nat.le_refl _) (by omega)
      exact z.ok (by omega) (by omega)
  refine for_it walk_range (fun i σ H' => (∃ dv o, σ = [some (.ref b), some (.ref a), some (.ref y), some (.int k), some (.ref dv), o] ∧ FL K H' dv (timesL m l.length i)) ∧ Ext H3 H') ⟨⟨_, _, rfl, FL.of upd_same fapp⟩, e16⟩ (fun i σ H' _ z => trivial) (fun i x1 σ H4 H5 hi z y => ?_) (fun σ H' z => ?_)
  · obtain ⟨⟨dv, o, rfl, fd⟩, e⟩ := z
    obtain ⟨rfl, rfl⟩ := y
    refine ⟨_, rfl, _, rfl, _, _, rfl, rfl, _, rfl, ?_⟩
    by_cases kp : 0 < k
    · rw [decide_eq_true kp]
      have em : m = l := if_pos kp
      refine iteT ⟨_, rfl, dv, a, _, m, rfl, fd, by rw [em]; exact fl3.ext e, od i (by omega), om, by rw [hm, timesL_len], fun v H6 e6 _ f6 => ?_⟩
      exact ⟨⟨v, _, rfl, f6⟩, e.trans e6⟩
    · rw [decide_eq_false kp]
      have em : m = recL l := if_neg kp
      refine iteF ⟨_, rfl, y, l, rfl, ru3.ext e, .inl ⟨h0', ol, orc, sz_head bl (by omega), fun v H6 e6 _ r6 => ?_⟩⟩
      obtain ⟨dx, c, g, hin, _⟩ := id r6
      refine ⟨v, dx, _, rfl, hin, rfl, v, _, rfl, r6, fun v7 H7 e7 _ f7 => ?_⟩
      refine ⟨dv, v7, _, m, rfl, fd.ext (e6.trans e7), by rw [em]; exact f7, od i (by omega), om, by rw [hm, timesL_len], fun v H8 e8 _ f8 => ?_⟩
      exact ⟨⟨v, _, rfl, f8⟩, e.trans (e6.trans (e7.trans e8))⟩
  · obtain ⟨⟨dv, o, rfl, fd⟩, e⟩ := z
    have tb : Sq 8 20 (k : Rat) := by
      refine ⟨by rw [Rat.den_intCast]; exact pp _, ?_⟩
      rw [Rat.num_intCast]
      have : (2 : Nat) ^ 4 = 16 := rfl
      exact Nat.le_trans (by omega) (pl (by omega : 4 ≤ 20))
    refine ⟨_, rfl, _, rfl, lenOk (by show 2 ≤ 1000; decide), fun p np => ?_⟩
    have ep := Ext.upd (o := .tup [V.int k, V.int 1]) np
    refine ⟨y, .ref p, l, rfl, ru3.ext (e.trans ep), .inl ⟨h0, (k : Rat), whole_fr upd_same rfl, ol, (bn_pow_small bl h9 tb).ok, tb.mono (by omega) (by omega), fun v H6 e6 _ r6 => ?_⟩⟩
    obtain ⟨dx, c, g, hin, _⟩ := id r6
    refine ⟨v, dx, _, rfl, hin, rfl, v, _, rfl, r6, fun v7 H7 e7 _ f7 => ?_⟩
    have same : timesL m l.length k.natAbs = powL (k : Rat) l := by
      by_cases kp : 0 < k
      · have em : m = l := if_pos kp
        rw [em, times_pos h0]
        congr 1
        rw [← Rat.intCast_natCast]
        congr 1
        omega
      · have em : m = recL l := if_neg kp
        rw [em, times_neg h0]
        congr 1
        rw [← Rat.intCast_natCast, ← Rat.intCast_neg]
        congr 1
        omega
    rw [same] at fd
    have e47 := ep.trans (e6.trans e7)
    refine ⟨_, rfl, .ref v7, .ref dv, ptL (powL (k : Rat) l), rfl, Nat.lt_of_le_of_lt (dep_L _) (by decide), f7.dd (by rw [powL_len]; omega), (fd.ext e47).dd (by rw [powL_len]; omega), fun H8 e8 => ?_⟩
    exact hq _ (m3'.trans (Mv.of m3'.bag (e.trans (e47.trans e8))))
end
end K4
end
section
set_option Elab.async false
set_option linter.all false
set_option maxRecDepth 100000
set_option maxHeartbeats 4000000
/-! The walks, 19: heaps whose tables grow; the faults; asking a deed. -/
namespace K4
open PySem PySem.Spec PyProof.Rows L2 K04
/-! ### all but the tables stay -/
abbrev ExtN := @LamX.ExtN
theorem sqL_extN {K : Frag} {H H' : Hp} {a : Addr} {xs : List V} (h : SqL K H a xs) (e : ExtN H H') : SqL K H' a xs :=
  h.elim (fun h => .inl (h.elim (fun h => .inl (e _ _ h fun _ z => by cases z)) fun ⟨o, h⟩ => .inr ⟨o, e _ _ h fun _ z => by cases z⟩)) fun h => .inr h
theorem sqT_extN {K : Frag} {H H' : Hp} {a : Addr} {xs : List V} (h : SqT K H a xs) (e : ExtN H H') : SqT K H' a xs :=
  h.elim (fun h => .inl (h.elim (fun h => .inl (e _ _ h fun _ z => by cases z)) fun ⟨o, h⟩ => .inr ⟨o, e _ _ h fun _ z => by cases z⟩)) fun h => .inr h
section
variable {K : Frag} {H H' : Hp} {a b l : Addr} {v : V} {q : Rat} {qs : List Rat} {xs : List V} {ns : List Int}
theorem Fr.extN (h : Fr K H v q) (e : ExtN H H') : Fr K H' v q := by
  obtain ⟨a, rfl, t⟩ := h
  exact ⟨a, rfl, sqT_extN t e⟩
theorem Frs.extN (h : Frs K H xs qs) (e : ExtN H H') : Frs K H' xs qs := ⟨h.1, fun i q hq => by
  obtain ⟨x, hx, f⟩ := h.2 i q hq
  exact ⟨x, hx, f.extN e⟩⟩
theorem FL.extN (h : FL K H a qs) (e : ExtN H H') : FL K H' a qs := by
  obtain ⟨xs, s, f⟩ := h
  exact ⟨xs, sqL_extN s e, f.extN e⟩
theorem RowAt.extN (h : RowAt K H a qs) (e : ExtN H H') : RowAt K H' a qs := by
  obtain ⟨dx, l, g, h1, h2, h3⟩ := h
  exact ⟨dx, l, g, e _ _ h1 (fun _ z => by cases z), h2.extN e, h3⟩
theorem StepAt.extN (h : StepAt K H a) (e : ExtN H H') : StepAt K H' a := by
  obtain ⟨dx, fs, l, h1, h2, h3⟩ := h
  exact ⟨dx, fs, l, e _ _ h1 (fun _ z => by cases z), h2, h3.extN e⟩
theorem Bag.extN (B : Bag K H b l ns) (e : ExtN H H') : Bag K H' b l ns := by
  obtain ⟨i, g, s, n, h, r⟩ := B.at_
  exact ⟨⟨i, g, s, n, e _ _ h (fun _ z => by cases z), r⟩, sqL_extN B.its e⟩
end
mutual
theorem DD.extN {K : Frag} {H H' : Hp} (e : ExtN H H') : ∀ (d : PT) (v : V), DD K H v d → DD K H' v d
  | .non, _, h => by cases h; exact .non
  | .bl b, _, h => by cases h; exact .bl b
  | .int i, _, h => by cases h; exact .int i
  | .str x, _, h => by cases h; exact .str x
  | .lst ds, _, h => by
    cases h with
    | lst n s k => exact .lst n (sqL_extN s e) (DDs.extN e ds _ k)
  | .tup ds, _, h => by
    cases h with
    | tup n s k => exact .tup n (sqT_extN s e) (DDs.extN e ds _ k)
  | .stp, _, h => by
    cases h with
    | stp s => exact .stp (s.extN e)
theorem DDs.extN {K : Frag} {H H' : Hp} (e : ExtN H H') : ∀ (ds : List PT) (vs : List V), DDs K H vs ds → DDs K H' vs ds
  | [], _, h => by cases h; exact .nil
  | d :: ds, _, h => by
    cases h with
    | cons a b => exact .cons (DD.extN e d _ a) (DDs.extN e ds _ b)
end
theorem Kind.extN {K : Frag} {H H' : Hp} {v : V} {k : Kd} (h : Kind K H v k) (e : ExtN H H') : Kind K H' v k := by
  cases h with
  | non => exact .non
  | bl b => exact .bl b
  | int i => exact .int i
  | str x => exact .str x
  | lst h => exact .lst (sqL_extN h e)
  | tup h => exact .tup (sqT_extN h e)
  | stp h => exact .stp (e _ _ h (fun _ z => by cases z))
theorem OddV.extN {K : Frag} {H H' : Hp} {v : V} (h : OddV K H v) (e : ExtN H H') : OddV K H' v := by
  rcases h with ⟨n, d, ⟨a, rfl, t⟩, h⟩ | ⟨k, hk, h⟩ | ⟨a, xs, rfl, sq, h⟩
  · exact .inl ⟨n, d, ⟨a, rfl, sqT_extN t e⟩, h⟩
  · exact .inr (.inl ⟨k, hk.extN e, h⟩)
  · refine .inr (.inr ⟨a, xs, rfl, sqT_extN sq e, ?_⟩)
    rcases h with h | ⟨x, y, kx, ky, rfl, h1, h2, h3⟩
    · exact .inl h
    · exact .inr ⟨x, y, kx, ky, rfl, h1.extN e, h2.extN e, h3⟩
theorem extN_of {H H' : Hp} (e : Ext H H') : ExtN H H' := fun b o h _ => e b o h
/-- the heap without its tables -/
def Nt (H : Hp) : Hp := fun a => match H a with
  | some (.tbl _) => none
  | o => o
theorem nt_ext (H : Hp) : ExtN H (Nt H) := fun a o h n => by
  unfold Nt
  rw [h]
  cases o with
  | tbl ps => exact absurd rfl (n ps)
  | _ => rfl
theorem nt_of {H : Hp} {a : Addr} {o : HO} (h : Nt H a = some o) : H a = some o ∧ ∀ ps, o ≠ .tbl ps := by
  unfold Nt at h
  cases q : H a with
  | none => rw [q] at h; cases h
  | some u =>
    rw [q] at h
    cases u with
    | tbl ps => cases h
    | _ =>
      cases h
      exact ⟨rfl, fun _ z => by cases z⟩
/-- all but the bag and the tables stay, the tables are good -/
structure Mn (K : Frag) (b l : Addr) (ns : List Int) (Tl : List (Addr × Str)) (H H' : Hp) : Prop where
  bag : Bag K H' b l ns
  tabs : LamX.Tabs Tl H'
  ext : ∀ a o, a ≠ b → (∀ ps, o ≠ .tbl ps) → H a = some o → H' a = some o
section
variable {K : Frag} {H H1 H' : Hp} {a b l : Addr} {v : V} {q : Rat} {qs : List Rat} {xs : List V} {ns : List Int} {Tl : List (Addr × Str)}
theorem Mn.nt (m : Mn K b l ns Tl H H') : ExtB b (Nt H) H' := fun a o hne h => by
  obtain ⟨h1, h2⟩ := nt_of h
  exact m.ext a o hne h2 h1
theorem Fr.mn (h : Fr K H v q) (B : Bag K H b l ns) (m : Mn K b l ns Tl H H') : Fr K H' v q := (h.extN (nt_ext H)).mv (B.extN (nt_ext H)) m.nt
theorem FL.mn (h : FL K H a qs) (B : Bag K H b l ns) (m : Mn K b l ns Tl H H') : FL K H' a qs := (h.extN (nt_ext H)).mv (B.extN (nt_ext H)) m.nt
theorem RowAt.mn (h : RowAt K H a qs) (B : Bag K H b l ns) (m : Mn K b l ns Tl H H') : RowAt K H' a qs := (h.extN (nt_ext H)).mv (B.extN (nt_ext H)) m.nt
theorem Mn.trans (m : Mn K b l ns Tl H H1) (k : Mn K b l ns Tl H1 H') : Mn K b l ns Tl H H' := ⟨k.bag, k.tabs, fun a o hne n h => k.ext a o hne n (m.ext a o hne n h)⟩
theorem tabs_mv (t : LamX.Tabs Tl H) (B : Bag K H b l ns) (e : ExtB b H H') : LamX.Tabs Tl H' := fun p hp => by
  obtain ⟨_, _, _, _, hb, _⟩ := B.at_
  obtain ⟨ps, h1, h2, h3⟩ := t p hp
  refine ⟨ps, e _ _ (fun z => by rw [z, hb] at h1; cases h1) h1, h2, fun pos cv hc => ?_⟩
  obtain ⟨c, e1, e2⟩ := h3 pos cv hc
  refine ⟨c, e1, e _ _ (fun z => ?_) e2⟩
  rw [z, hb] at e2
  have e3 := Option.some.inj e2
  unfold LamX.CodeO at e3
  cases e3
theorem Mv.mn (m : Mv K b l ns H H') (t : LamX.Tabs Tl H) (B : Bag K H b l ns) : Mn K b l ns Tl H H' := ⟨m.bag, tabs_mv t B m.ext, fun a o hne _ h => m.ext a o hne h⟩
theorem Mn.ofE (B : Bag K H b l ns) (t : LamX.Tabs Tl H) (e : Ext H H') : Mn K b l ns Tl H H' := ⟨B.ext e, t.ext e, fun a o _ _ h => e a o h⟩
theorem Mn.ofN (B : Bag K H b l ns) (t : LamX.Tabs Tl H') (e : ExtN H H') : Mn K b l ns Tl H H' := ⟨B.extN e, t, fun a o _ n h => e a o h n⟩
end
/-! ### the faults -/
/-- what an error of the class at C tells -/
def FaultL (K : Frag) (C : Addr) (fs : List (Str × V)) (out : List V) : Prop :=
  (C = cInv K ∧ ∃ v, fs = [(("code" : Str), V.str "InvalidNumber"), (("value" : Str), v)] ∧ out = [V.str "InvalidNumber", v]) ∨
  (C = cNot K ∧ ∃ v, fs = [(("code" : Str), V.str "NotOne"), (("first" : Str), v)] ∧ out = [V.str "NotOne", v]) ∨
  (C = cDiv K ∧ fs = [(("code" : Str), V.str "DividedByZero")] ∧ out = [V.str "DividedByZero"])
def spFault (K : Frag) (p : Addr × Obj) : Sp := fun vs H Q _ => vs = [.ref p.1] ∧ ∃ C d fs out, ErrAt H p C d fs ∧ FaultL K C fs out ∧ ∀ l, H l = none → Q (.ref l) (upd H l (.lst out))
section
variable {P : Program} {w : World} {K : Frag} {mg : Str → Option Value} {base : Heap}
theorem sc_law_fault : FnScope ["_law_error"] ["_law_error"] (defScope s__law_fault) := sc_by (by decide +kernel)
theorem ok_law_fault (T : Tx K mg) : ∃ fd, FnQ P w K mg base CX0 1 (He.ga K "_law_fault") fd ["_law_error"] (spFault K) ∧ PySem.W.keepIn K (.ref (He.ga K "_law_fault")) = true ∧ Binds K fd ["_law_error"] [] := by
  obtain ⟨fd, F⟩ := T.d__law_fault
  have B : Binds K fd ["_law_error"] [] := F.bindsN fun _ _ _ _ _ _ us hl => match us, hl with | [_], _ => rfl
  have kp := F.kp
  obtain ⟨oc, od, dV, kV, doc, pm, an, cdv, ct, osl, rfl, lk, hcd, _, _⟩ := F.ex
  refine ⟨_, fnq_of lk hcd sc_law_fault (fun p vs H Q E h => ?_) fun A outer s H vs Q E p hr h => ?_, kp, B⟩
  · obtain ⟨rfl, _⟩ := h
    rfl
  obtain ⟨rfl, C, d, fs, out, ea, ft, hq⟩ := h
  have hp : p ∈ (L2H.cxH CX0 P w K mg base ["_law_error"] "_law_fault" (defScope s__law_fault) (He.ga K "_law_fault") cdv A outer s H E p).pn := by exact List.mem_cons_self
  refine ⟨_, (pss_cons (ps_if (pt_val (pe_callB (call_isErr hp) (by rfl) T.f_isinstance PyProof.Rows.Boot.«isinstance» (pa_cons (pv 0) (pa_cons (pe_gref (by rfl) T.g_InvalidNumber) pa_nil)))) (pss_one (ps_ret (pe_lst (pa_cons (pe_errF hp (pv 0)) (pa_cons (pe_errF hp (pv 0)) pa_nil))))) pss_nil)
    (pss_cons (ps_if (pt_val (pe_callB (call_isErr hp) (by rfl) T.f_isinstance PyProof.Rows.Boot.«isinstance» (pa_cons (pv 0) (pa_cons (pe_gref (by rfl) T.g_NotOne) pa_nil)))) (pss_one (ps_ret (pe_lst (pa_cons (pe_errF hp (pv 0)) (pa_cons (pe_errF hp (pv 0)) pa_nil))))) pss_nil)
    (pss_cons (ps_if (pt_val (pe_callB (call_isErr hp) (by rfl) T.f_isinstance PyProof.Rows.Boot.«isinstance» (pa_cons (pv 0) (pa_cons (pe_gref (by rfl) T.g_DividedByZero) pa_nil)))) (pss_one (ps_ret (pe_lst (pa_cons (pe_errF hp (pv 0)) pa_nil)))) pss_nil)
    (pss_one (ps_ret (pe_lst (pa_cons pe_str pa_nil))))))), ?_⟩
  rcases ft with ⟨rfl, v, rfl, rfl⟩ | ⟨rfl, v, rfl, rfl⟩ | ⟨rfl, rfl, rfl⟩
  · refine ⟨_, rfl, _, _, _, _, _, rfl, ea, T.ic_InvalidNumber, T.kk_Inv_Inv, _, rfl, ?_⟩
    refine iteT ⟨_, rfl, rfl, _, _, _, _, ea, T.x_InvalidNumber, T.n_InvalidNumber_code, rfl, _, rfl, rfl, _, _, _, _, ea, T.x_InvalidNumber, T.n_InvalidNumber_value, rfl, ?_⟩
    exact ⟨lenOk (by show 2 ≤ 1000; decide), fun l hl => hq l hl⟩
  · refine ⟨_, rfl, _, _, _, _, _, rfl, ea, T.ic_NotOne, T.kk_Not_Inv, _, rfl, ?_⟩
    refine iteF ⟨_, rfl, _, _, _, _, _, rfl, ea, T.ic_NotOne, T.kk_Not_Not, _, rfl, ?_⟩
    refine iteT ⟨_, rfl, rfl, _, _, _, _, ea, T.x_NotOne, T.n_NotOne_code, rfl, _, rfl, rfl, _, _, _, _, ea, T.x_NotOne, T.n_NotOne_first, rfl, ?_⟩
    exact ⟨lenOk (by show 2 ≤ 1000; decide), fun l hl => hq l hl⟩
  · refine ⟨_, rfl, _, _, _, _, _, rfl, ea, T.ic_DividedByZero, T.kk_Div_Inv, _, rfl, ?_⟩
    refine iteF ⟨_, rfl, _, _, _, _, _, rfl, ea, T.ic_DividedByZero, T.kk_Div_Not, _, rfl, ?_⟩
    refine iteF ⟨_, rfl, _, _, _, _, _, rfl, ea, T.ic_DividedByZero, T.kk_Div_Div, _, rfl, ?_⟩
    refine iteT ⟨_, rfl, rfl, _, _, _, _, ea, T.x_DividedByZero, T.n_DividedByZero_code, rfl, ?_⟩
    exact ⟨lenOk (by show 1 ≤ 1000; decide), fun l hl => hq l hl⟩
end
end K4
end
section
set_option Elab.async false
set_option linter.all false
set_option maxRecDepth 100000
set_option maxHeartbeats 4000000
/-! The walks, 20: asking a deed. -/
namespace K4
open PySem PySem.Spec PyProof.Rows L2 K04
theorem sc_law_ask : FnScope ["_law_deed", "_law_error"] ["_law_deed"] (defScope s__law_ask) := sc_by (by decide +kernel)
/-- what becomes of an error that a deed lets out -/
def ErrOut (K : Frag) (Q : VK) : XK := fun cls d H => ∃ (C dd : Addr) (fs : List (Str × V)) (out : List V), cls = .ref C ∧ d = some dd ∧ H dd = some (.xd fs) ∧ FaultL K C fs out ∧ ∀ l, H l = none → Q (.ref l) (upd H l (.lst out))
/-- ['told', the deed's answer], or the error's fault -/
def TAsk (K : Frag) : (XK → Hp → VK → Prop) → Hp → VK → Prop := fun tl H Q => tl (ErrOut K Q) H fun v H2 => [V.str "told", v].length ≤ sizeLine ∧ ∀ l, H2 l = none → Q (.ref l) (upd H2 l (.lst [V.str "told", v]))
/-- the suite of a clause -/
def sFault (K : Frag) : Addr → Value → Option Addr → TS := fun a cls d D σ H => ∀ oe, Zc cls d oe → (∃ vs, oe.data = .fields vs) → tRet (tCallQ (a, oe) (spFault K) C8.E0 (tCons (tVar 1) tNil)) D σ H
theorem ask_gives {X : Cx} (T : Tx X.K X.mg) {cdg : Value} {q : Str} (hr : ∀ s : Shared, Room 1 (X.A.deeper (envOfC "_law_ask" (defScope s__law_ask) s.heap.objs.size (He.ga X.K "_law_ask") cdg))) :
    LamX.GivesTo X ["_law_deed", "_law_error"] "_law_ask" (defScope s__law_ask) (He.ga X.K "_law_ask") cdg (defBody s__law_ask) "_law_deed" q (TAsk X.K) := by
  intro f c' s H Q tl act hc h
  obtain ⟨fdF, FQ, kpF, bF⟩ := ok_law_fault (P := X.prog) (w := X.w) (base := X.base) T
  have rm := hr s
  have rh : L2H.RoomH 1 (X.A.deeper (envOfC "_law_ask" (defScope s__law_ask) s.heap.objs.size (He.ga X.K "_law_ask") cdg)) := ⟨rm.dp, rm.un⟩
  refine ⟨_, pss_one (ps_try_named (X := (cxOf C8.CX0 X.prog X.w X.K X.mg X.base ["_law_deed", "_law_error"] "_law_ask" (defScope s__law_ask) (He.ga X.K "_law_ask") cdg X.A X.stack s H C8.E0).nox) (i := 1)
      (l := [(.ref (He.ga X.K "CreepError"), sFault X.K), (.ref (He.ga X.K "NoAnswer"), sFault X.K)])
      (tb := fun W D σ H => ∃ Ech : XK, (∀ cls d σ' H', Ech cls d H' → W cls d σ' H') ∧ σ[0]? = some (some (.ref f)) ∧ H c' = some (LamX.CodeO c' q) ∧ tl Ech H fun v H2 => [V.str "told", v].length ≤ sizeLine ∧ ∀ l, H2 l = none → D.rt (.ref l) (upd H2 l (.lst [V.str "told", v])))
      rfl rfl sc_law_ask.nd rfl rfl (fun W pn xe tk _ => ?_) (.more ⟨rfl, rfl, .inl T.g_CreepError⟩ (fun a oe cls d pn hz hf => ?_) (.more ⟨rfl, rfl, .inl T.g_NoAnswer⟩ (fun a oe cls d pn hz hf => ?_) .none))), ?_⟩
  · refine ⟨fun pins s' σ H' D I h' => ?_⟩
    obtain ⟨Ech, hW, h1, h2, h3⟩ := h'
    refine PSs.run (t := tRet (tLst (tCons (tC (.str "told")) (tCons (fun σZ HZ Q => σZ[0]? = some (some (.ref f)) ∧ HZ c' = some (LamX.CodeO c' q) ∧ tl Ech HZ Q) tNil)))) ?p pins s' σ H' D I ?q
    case p => exact pss_one (ps_ret (pe_lst (pa_cons pe_str (pa_cons (act W pn xe Ech _ _ tk hW) pa_nil))))
    case q => exact ⟨h1, h2, h3⟩
  · refine ⟨fun pins s' σ H' D I h' => ?_⟩
    refine PSs.run (t := tRet (tCallQ (a, oe) (spFault X.K) C8.E0 (tCons (tVar 1) tNil))) ?p pins s' σ H' D I (h' oe hz hf)
    case p => exact pss_one (ps_ret (pe_callQ (p := (a, oe)) (E := C8.E0) List.mem_cons_self FQ ⟨rh.dp, rh.un⟩ (by rfl) T.g__law_fault kpF bF pass0 (pa_cons (pv 1) pa_nil)))
  · refine ⟨fun pins s' σ H' D I h' => ?_⟩
    refine PSs.run (t := tRet (tCallQ (a, oe) (spFault X.K) C8.E0 (tCons (tVar 1) tNil))) ?p pins s' σ H' D I (h' oe hz hf)
    case p => exact pss_one (ps_ret (pe_callQ (p := (a, oe)) (E := C8.E0) List.mem_cons_self FQ ⟨rh.dp, rh.un⟩ (by rfl) T.g__law_fault kpF bF pass0 (pa_cons (pv 1) pa_nil)))
  · refine ⟨ErrOut X.K Q, fun cls d σ' H' he => ?_, rfl, hc, h⟩
    obtain ⟨C, dd, fs, out, rfl, rfl, hd, fl, hq⟩ := he
    have at1 : ∀ a : Addr, σ'.length = 2 → (σ'.set 1 (some (.ref a)))[1]? = some (some (V.ref a)) := fun a e => List.getElem?_set_self (by omega)
    have fin : ∀ a : Addr, H' a = none → σ'.length = 2 → sFault X.K a (.ref C) (some dd) (offEnds 1 { nx := fun _ H' => Q .non H', rt := Q }) (σ'.set 1 (some (.ref a))) H' := fun a _ hl oe hz hf =>
      ⟨_, at1 a hl, rfl, C, dd, fs, out, ⟨hz.1, hz.2, hf, hd⟩, fl, hq⟩
    rcases id fl with ⟨rfl, _⟩ | ⟨rfl, _⟩ | ⟨rfl, _⟩
    · exact ⟨true, T.cr_InvalidNumber, fun _ => fin, fun z => nomatch z⟩
    · exact ⟨true, T.cr_NotOne, fun _ => fin, fun z => nomatch z⟩
    · exact ⟨false, T.cr_DividedByZero, (fun z => nomatch z), fun _ => ⟨true, T.na_DividedByZero, fun _ => fin, fun z => nomatch z⟩⟩
end K4
end
section
set_option Elab.async false
set_option linter.all false
set_option maxRecDepth 100000
set_option maxHeartbeats 4000000
/-! The walks, 21: there and back. -/
namespace K4
open PySem PySem.Spec PyProof.Rows L2 K04
/-- the name of a lambda in the def x -/
def qOf (x : Str) (st : Stmt) : Str := (envOfC x (defScope st) 0 0 .none).qual ++ "<lambda>"
abbrev cOf (K : Frag) (x : Str) : Addr := (He.cT K (x, none)).1
abbrev tOf (K : Frag) (x : Str) : Addr := (He.cT K (x, none)).2
/-- the two tables of code objects -/
def Tl (K : Frag) : List (Addr × Str) := [(tOf K "_law_back_so", qOf "_law_back_so" s__law_back_so), (tOf K "_law_refused_so", qOf "_law_refused_so" s__law_refused_so)]
/-- what the walks of the two defs ask of the ground -/
structure Tb2 (K : Frag) (mg : Str → Option Value) (base : Heap) : Prop where
  b1 : LamX.TabB base mg (cOf K "_law_back_so") (tOf K "_law_back_so")
  b2 : LamX.TabB base mg (cOf K "_law_refused_so") (tOf K "_law_refused_so")
  ne : tOf K "_law_back_so" ≠ tOf K "_law_refused_so"
/-- a def whose code object is told -/
theorem ca_ofL {P : Program} {w : World} {K : Frag} {mg : Str → Option Value} {base : Heap} {k : Nat} {x : Str} {sp : Sp} {st : Stmt} {N ps : List Str} (d : ∃ fd, FnT K x st fd) (g : mg x = some (.ref (He.ga K x))) (S : FnScope N ps (defScope st)) (len : ∀ vs H Q E, sp vs H Q E → vs.length = ps.length)
    (hb : ∀ (kV doc pm : Value) (an : Option Addr) (cdv ct : Value) (us : List Value), us.length = ps.length → bindArgs (PySem.W.fnOf x x (defArgs st) (defBody st) (defScope st) .none kV doc pm an cdv ct) ⟨us, []⟩ = pure (ps.zip us))
    (hbody : ∀ (A : Around) (outer : List Env) (s : Shared) (H : Hp) (vs : List V) (Q : VK) (E : XK), Room k (A.deeper (envOfC x (defScope st) s.heap.objs.size (He.ga K x) (.ref (cOf K x)))) → sp vs H Q E →
      ∃ t, PSs (cxOf CX0 P w K mg base N x (defScope st) (He.ga K x) (.ref (cOf K x)) A outer s H E).nox (defBody st) t ∧ t { nx := fun _ H' => Q .non H', rt := Q } (start N vs) H) : Ca P w K mg base CX0 (k + 1) x sp := by
  obtain ⟨fd, F⟩ := d
  have B := F.bindsN hb
  have kp := F.kp
  obtain ⟨oc, od, dV, kV, doc, pm, an, cdv, ct, osl, rfl, lk, hcd, _, _⟩ := F.ex
  obtain ⟨c, rfl⟩ := He.codeIn_ref hcd
  have ec : cOf K x = c := He.codeOf_eq (p := (x, none)) lk rfl
  refine ⟨_, ps, fn_of lk hcd S len fun A outer s H vs Q E hr hs => ?_, g, kp, B⟩
  rw [← ec] at hr ⊢
  obtain ⟨t, h, q⟩ := hbody A outer s H vs Q E hr hs
  exact ⟨t, h.nox, q⟩
theorem told_dd {K : Frag} {H : Hp} {p v : Addr} {l : List Rat} (h : H p = some (.lst [V.str "told", .ref v])) (f : FL K H v l) (hl : l.length ≤ 1000) : DD K H (.ref p) (.lst [.str "told", ptL l]) := .lst (by show 2 ≤ 1000; decide) (SqL.of h) (.cons (.str _) (.cons (f.dd hl) .nil))
def spBack (K : Frag) : Sp := fun vs H Q _ => ∃ b n ns a l, vs = [.ref b, .ref a] ∧ Bag K H b n ns ∧ LamX.Tabs (Tl K) H ∧ FL K H a l ∧ 3 ≤ l.length ∧ l.length ≤ 9 ∧ Bn l 3 23 ∧ ∀ H', Mn K b n ns (Tl K) H H' → Q (.bl true) H'
theorem bd_div : SeqAt.shaped (PyData.list [.list [.str "DividedByZero"], .list [.str "DividedByZero"]]) = true := by decide +kernel
section
variable {P : Program} {w : World} {K : Frag} {mg : Str → Option Value} {base : Heap}
theorem sc_law_back_so : FnScope ["_law_bag_here", "_law_a", "_law_u", "_law_told", "_law_b"] ["_law_bag_here", "_law_a"] (defScope s__law_back_so) := sc_by (by decide +kernel)
theorem ok_law_back_so (T : Tx K mg) (TT2 : Tb2 K mg base) : Ca P w K mg base CX0 10 "_law_back_so" (spBack K) := by
  have c_law_is := ok_law_is (P := P) (w := w) (base := base) T
  have c_law_like := ok_law_like (P := P) (w := w) (base := base) T 6
  have c_law_times := ok_law_times (P := P) (w := w) (base := base) T
  have c_reciprocal := ok_reciprocal (P := P) (w := w) (base := base) T
  obtain ⟨fdr, Fr, gr, kr, br⟩ := (okp_reciprocal (P := P) (w := w) (base := base) T).kw T.d_reciprocal (fun kV doc pm an cdv ct => kb_one (a := "row") fun u => rfl)
  obtain ⟨fd1, ps1, Ri⟩ := ok_Row_init (P := P) (w := w) (base := base) T
  obtain ⟨fd2, ps2, Rn⟩ := ok_numbers (P := P) (w := w) (base := base) T
  obtain ⟨fdA, FA⟩ := T.d__law_ask
  have bA : Binds K fdA ["_law_deed"] [] := FA.bindsN fun _ _ _ _ _ _ us hl => match us, hl with | [_], _ => rfl
  have kpA := FA.kp
  obtain ⟨ocA, odA, dVA, kVA, docA, pmA, anA, cdvA, ctA, oslA, rfl, lkA, hcdA, _, _⟩ := FA.ex
  have TB := TT2.b1
  have hm : (tOf K "_law_back_so", qOf "_law_back_so" s__law_back_so) ∈ Tl K := List.mem_cons_self
  have hu : ∀ p ∈ Tl K, p.1 = tOf K "_law_back_so" → p.2 = qOf "_law_back_so" s__law_back_so := fun p hp e => by
    rcases List.mem_cons.mp hp with rfl | hp
    · rfl
    · rw [List.mem_singleton.mp hp] at e
      exact absurd e TT2.ne.symm
  refine ca_ofL T.d__law_back_so T.g__law_back_so sc_law_back_so (fun vs H Q E h => ?_) (fun _ _ _ _ _ _ us hl => match us, hl with | [_, _], _ => rfl) fun A outer s H vs Q E hr h => ?_
  · obtain ⟨_, _, _, _, _, rfl, _⟩ := h
    rfl
  have hrA := fun s : Shared => (hr.mono (by decide : 2 ≤ 9)).deeper (envOfC "_law_ask" (defScope s__law_ask) s.heap.objs.size (He.ga K "_law_ask") cdvA)
  obtain ⟨b, bn, ns, a, l, rfl, B, tabs, fl, h3, h9, bl, hq⟩ := h
  refine ⟨_, (pss_cons (ps_set (i := 2) sc_law_back_so.nd rfl (Or.inr rfl) (pe_make T.k_Row Ri.ok (hr.mono (by decide)) (by rfl) T.g_Row Ri.b .nil pass0 (pa_cons (pv 1) pa_nil)))
    (C8.pss_cut (ps_set (i := 3) sc_law_back_so.nd rfl (Or.inl rfl) (pe_lst (pa_cons (LamX.pe_lamcall (T := Tl K) (TT := TAsk K) (k := 7) (by rfl) T.g__law_ask kpA lkA hcdA bA sc_law_ask rfl (Or.inl rfl) (ask_gives T hrA) TB rfl hm hu (hr.mono (by decide)) (LamX.lamS_by (sc := defScope s__law_back_so) (by decide +kernel)) rfl (fun _ _ _ _ _ => rfl) (fun A outer s H E f c2 hr2 => (pe_meth0 (pe_ca c_reciprocal hr2 (by decide) (passes_call (takes_of rfl rfl rfl rfl) (fun _ _ _ _ h => h)) (pa_cons (pv 2) pa_nil)) T.c_Row T.m_numbers Rn.ok (hr2.mono (by decide)) Rn.b .nil pass0))) (pa_cons (pe_lamcallD (T := Tl K) (TT := TAsk K) (k := 7) (b := "_law_x") (by rfl) T.g__law_ask kpA lkA hcdA bA sc_law_ask rfl (Or.inl rfl) (ask_gives T hrA) TB rfl hm hu (hr.mono (by decide)) (lamD_by (N := ["_law_bag_here", "_law_a", "_law_u", "_law_told", "_law_b"]) (sc := defScope s__law_back_so) (by decide +kernel)) rfl rfl (fun _ _ _ _ _ _ => ⟨_, rfl, fun _ => rfl⟩) rfl (fun A outer s H E f c2 hr2 => (pe_meth0 (pe_kw Fr hr2 (by rfl) gr kr br (passes_call (takes_of rfl rfl rfl rfl) (fun _ _ _ _ h => h)) (pk_cons (pv 2) pk_nil)) T.c_Row T.m_numbers Rn.ok (hr2.mono (by decide)) Rn.b .nil pass0))) pa_nil))))
    (pss_cons (ps_if (pt_cmpR op_eq (pe_p0 (pe_fl (pv 1) pe_int)) pe_int (nomark _)) (pss_one (ps_ret (pe_cmpR (op_eqD (hrU hr)) (pv 3) (pe_lst (pa_cons (pe_lst (pa_cons pe_str pa_nil)) (pa_cons (pe_lst (pa_cons pe_str pa_nil)) pa_nil))) (nomark _)))) pss_nil)
    (pss_cons (ps_if (pw_or (pt_cmpR op_ne (pe_ix ix_list (pe_ix ix_list (pv 3) pe_int (fun _ _ => rfl)) pe_int (fun _ _ => rfl)) pe_str (nomark _)) (pw_or (pt_not (pt_val (pe_ca c_law_like hr (by decide) pass0 (pa_cons (pe_ix ix_list (pv 3) pe_int (fun _ _ => rfl)) (pa_cons (pe_ix ix_list (pv 3) pe_int (fun _ _ => rfl)) pa_nil))))) (pw_or1 (pt_not (pt_val (pe_callB (cr_all rfl) (by rfl) T.f_all PyProof.Rows.Boot.«all» (pa_cons (pe_lc (own := [("_law_b", 4)]) rfl sc_law_back_so.nd (pi_list (pe_ix ix_list (pe_ix ix_list (pv 3) pe_int (fun _ _ => rfl)) pe_int (fun _ _ => rfl))) (blkOk_by (N := ["_law_bag_here", "_law_a", "_law_u", "_law_told", "_law_b"]) (sc := defScope s__law_back_so) (by decide +kernel)) (fun _ _ _ _ _ => (pg_name (i := 4) sc_law_back_so.nd rfl (Or.inl rfl) (Or.inr rfl))) (fun _ _ _ _ _ => pts_nil) (fun _ _ _ _ _ => (pe_ca c_law_is hr (by decide) pass0 (pa_cons (pv 4) pa_nil)))) pa_nil))))))).pt (pss_one (ps_ret pe_bl)) pss_nil)
    (pss_cons (ps_if (pw_or (pt_cmpR op_ne (pe_callB call_len_seq (by rfl) T.f_len PySem.boot_len (pa_cons (pe_ix ix_list (pe_ix ix_list (pv 3) pe_int (fun _ _ => rfl)) pe_int (fun _ _ => rfl)) pa_nil)) (pe_callB call_len_seq (by rfl) T.f_len PySem.boot_len (pa_cons (pv 1) pa_nil)) (nomark _)) (pw_or1 (pt_cmpR (op_neFL (hrU hr)) (pe_meth0 (pe_ca c_reciprocal hr (by decide) passN (pa_cons (pe_ca c_reciprocal hr (by decide) passN (pa_cons (pv 2) pa_nil)) pa_nil)) T.c_Row T.m_numbers Rn.ok (hr.mono (by decide)) Rn.b .nil pass0) (pv 1) (nomark _)))).pt (pss_one (ps_ret pe_bl)) pss_nil)
    (pss_one (ps_ret (pe_cmpR (op_eqFL (hrU hr)) (pe_ca c_law_times hr (by decide) pass0 (pa_cons (pv 1) (pa_cons (pe_ix ix_list (pe_ix ix_list (pv 3) pe_int (fun _ _ => rfl)) pe_int (fun _ _ => rfl)) pa_nil))) (pe_op op_cat (pe_lst (pa_cons (pe_tup (pa_cons pe_int (pa_cons pe_int pa_nil))) pa_nil)) (pe_op op_rep (pe_lst (pa_cons (pe_tup (pa_cons pe_int (pa_cons pe_int pa_nil))) pa_nil)) (pe_op op_sub (pe_callB call_len_seq (by rfl) T.f_len PySem.boot_len (pa_cons (pv 1) pa_nil)) pe_int))) (nomark _))))))))), ?_⟩
  have ol : Ok l := bl.ok
  refine ⟨_, rfl, fun y d hy hd hne => ⟨y, d, a, l, rfl, upd_same, (fl.ext (Ext.upd hd)).ext (Ext.upd (by rw [upd_ne hne.symm]; exact hy)), h3, by omega, fun H2 e2 ru => ⟨rfl, ?_⟩⟩⟩
  have eu : Ext H H2 := ext_made hy hd e2
  have m2 := Mn.ofE B tabs eu
  refine ⟨fun σ H' => ∃ p q1 q2 : Addr, σ = [some (.ref b), some (.ref a), some (.ref y), some (.ref p), none] ∧ Mn K b bn ns (Tl K) H H' ∧ RowAt K H' y l ∧ H' p = some (.lst [.ref q1, .ref q2]) ∧
    ((l.getD 0 0 = 0 ∧ H' q1 = some (.lst [.str "DividedByZero"]) ∧ H' q2 = some (.lst [.str "DividedByZero"])) ∨
     (l.getD 0 0 ≠ 0 ∧ ∃ v1 v2 : Addr, H' q1 = some (.lst [.str "told", .ref v1]) ∧ H' q2 = some (.lst [.str "told", .ref v2]) ∧ FL K H' v1 (recL l) ∧ FL K H' v2 (recL l))), ?_, fun σ H9 z => ?_⟩
  · refine ⟨m2.tabs, fun H3 eN3 tb3 => ?_⟩
    have m3 := m2.trans (Mn.ofN m2.bag tb3 eN3)
    have ru3 := ru.extN eN3
    by_cases h0 : l.getD 0 0 = 0
    · refine ⟨_, rfl, y, l, rfl, ru3, .inr ⟨h0, fun d1 H4 e4 nd1 hd1 => ⟨cDiv K, d1, _, _, rfl, rfl, hd1, .inr (.inr ⟨rfl, rfl, rfl⟩), fun q1 hq1 => ?_⟩⟩⟩
      have e5 := Ext.upd (o := .lst [V.str "DividedByZero"]) hq1
      have m5 := m3.trans (Mn.ofE m3.bag m3.tabs (e4.trans e5))
      have ru5 := ru3.ext (e4.trans e5)
      refine ⟨m5.tabs, fun H6 eN6 tb6 => ?_⟩
      have m6 := m5.trans (Mn.ofN m5.bag tb6 eN6)
      have ru6 := ru5.extN eN6
      have k1 := eN6 _ _ (show upd H4 q1 (.lst [V.str "DividedByZero"]) q1 = some _ from upd_same) (fun _ z => by cases z)
      refine ⟨_, rfl, y, l, rfl, ru6, .inr ⟨h0, fun d2 H7 e7 nd2 hd2 => ⟨cDiv K, d2, _, _, rfl, rfl, hd2, .inr (.inr ⟨rfl, rfl, rfl⟩), fun q2 hq2 => ?_⟩⟩⟩
      have e8 := Ext.upd (o := .lst [V.str "DividedByZero"]) hq2
      refine ⟨lenOk (by show 2 ≤ 1000; decide), fun p hp => ?_⟩
      have e9 := Ext.upd (o := .lst [V.ref q1, V.ref q2]) hp
      have e69 := e7.trans (e8.trans e9)
      exact ⟨p, q1, q2, rfl, m6.trans (Mn.ofE m6.bag m6.tabs e69), ru6.ext e69, upd_same, .inl ⟨h0, e69 _ _ k1, e9 _ _ upd_same⟩⟩
    · have br : Bn (recL l) 207 219 := bn_rec_small bl h9 h0
      refine ⟨_, rfl, y, l, rfl, ru3, .inl ⟨h0, ol, br.ok, sz_head bl (by omega), fun v0 H4 e4 _ r4 => ?_⟩⟩
      obtain ⟨dx, c, g, hin, _⟩ := id r4
      refine ⟨v0, dx, _, rfl, hin, rfl, v0, _, rfl, r4, fun v1 H41 e41 _ f1 => ⟨lenOk (by show 2 ≤ 1000; decide), fun q1 hq1 => ?_⟩⟩
      have e5 := Ext.upd (o := .lst [V.str "told", V.ref v1]) hq1
      have e35 := e4.trans (e41.trans e5)
      have m5 := m3.trans (Mn.ofE m3.bag m3.tabs e35)
      have ru5 := ru3.ext e35
      refine ⟨m5.tabs, fun H6 eN6 tb6 => ?_⟩
      have m6 := m5.trans (Mn.ofN m5.bag tb6 eN6)
      have ru6 := ru5.extN eN6
      have k1 := eN6 _ _ (show upd H41 q1 (.lst [V.str "told", V.ref v1]) q1 = some _ from upd_same) (fun _ z => by cases z)
      have f16 := (f1.ext e5).extN eN6
      refine ⟨_, rfl, y, l, rfl, ru6, .inl ⟨h0, ol, br.ok, sz_head bl (by omega), fun v02 H7 e7 _ r7 => ?_⟩⟩
      obtain ⟨dx2, c2, g2, hin2, _⟩ := id r7
      refine ⟨v02, dx2, _, rfl, hin2, rfl, v02, _, rfl, r7, fun v2 H71 e71 _ f2 => ⟨lenOk (by show 2 ≤ 1000; decide), fun q2 hq2 => ?_⟩⟩
      have e8 := Ext.upd (o := .lst [V.str "told", V.ref v2]) hq2
      refine ⟨lenOk (by show 2 ≤ 1000; decide), fun p hp => ?_⟩
      have e9 := Ext.upd (o := .lst [V.ref q1, V.ref q2]) hp
      have e69 := e7.trans (e71.trans (e8.trans e9))
      exact ⟨p, q1, q2, rfl, m6.trans (Mn.ofE m6.bag m6.tabs e69), ru6.ext e69, upd_same, .inr ⟨h0, v1, v2, e69 _ _ k1, e9 _ _ upd_same, f16.ext e69, f2.ext (e8.trans e9)⟩⟩
  obtain ⟨p, q1, q2, rfl, m9, ru9, hp, hcase⟩ := z
  have fl9 := fl.mn B m9
  refine ⟨_, rfl, a, l, 0, rfl, rfl, fl9, by omega, fun z0 fz0 => ⟨rfl, _, _, fz0.pr, rfl, _, rfl, ?_⟩⟩
  rcases hcase with ⟨h0, k1, k2⟩ | ⟨h0, v1, v2, k1, k2, f1, f2⟩
  · rw [h0, show decide (V.int (0 : Rat).num = V.int 0) = true from rfl]
    refine iteT ⟨_, rfl, lenOk (by show 1 ≤ 1000; decide), fun t1 ht1 => ⟨lenOk (by show 1 ≤ 1000; decide), fun t2 ht2 => ⟨lenOk (by show 2 ≤ 1000; decide), fun t3 ht3 => ?_⟩⟩⟩
    have g1 := Ext.upd (o := .lst [V.str "DividedByZero"]) ht1
    have g2 := Ext.upd (o := .lst [V.str "DividedByZero"]) ht2
    have g3 := Ext.upd (o := .lst [V.ref t1, V.ref t2]) ht3
    have g := g1.trans (g2.trans g3)
    refine ⟨.list [.list [.str "DividedByZero"], .list [.str "DividedByZero"]], .list [.list [.str "DividedByZero"], .list [.str "DividedByZero"]], ?_, ?_, bd_div, bd_div, ?_⟩
    · exact .lst (SqL.of (g _ _ hp)) (.cons (.lst (SqL.of (g _ _ k1)) (.cons (.str _) .nil)) (.cons (.lst (SqL.of (g _ _ k2)) (.cons (.str _) .nil)) .nil))
    · exact .lst (SqL.of upd_same) (.cons (.lst (SqL.of (g3 _ _ (g2 _ _ upd_same))) (.cons (.str _) .nil)) (.cons (.lst (SqL.of (g3 _ _ upd_same)) (.cons (.str _) .nil)) .nil))
    · rw [SeqAt.eqv_refl _ (by decide +kernel)]
      exact hq _ (m9.trans (Mn.ofE m9.bag m9.tabs g))
  · rw [show decide (V.int (l.getD 0 0).num = V.int 0) = false from decide_eq_false fun z => h0 (Rat.num_eq_zero.mp (V.int.inj z))]
    have br : Bn (recL l) 207 219 := bn_rec_small bl h9 h0
    have orc : Ok (recL l) := br.ok
    have sp := SqL.of (K := K) hp
    have s1 := SqL.of (K := K) k1
    refine iteF ⟨_, rfl, p, _, 0, _, rfl, rfl, sp, rfl, q1, _, 0, _, rfl, rfl, s1, rfl, rfl, _, rfl, ?_⟩
    refine iteF ⟨_, rfl, p, _, 1, _, rfl, rfl, sp, rfl, _, rfl, p, _, 0, _, rfl, rfl, sp, rfl, ?_⟩
    have dl : (PT.lst [.str "told", ptL (recL l)]).dep < 6 := by
      have := dep_L (recL l)
      rw [PT.dep, PT.deps, PT.deps, PT.deps]
      rw [show (PT.str "told").dep = 0 from rfl]
      omega
    refine ⟨.ref q2, .ref q1, _, rfl, dl, told_dd k2 f2 (by rw [recL_len]; omega), told_dd k1 f1 (by rw [recL_len]; omega), fun H10 e10 => ⟨_, rfl, ?_⟩⟩
    have f10 := f1.ext e10
    obtain ⟨xs, sx, xf⟩ := id f10
    refine iteF ⟨_, rfl, p, _, 0, _, rfl, rfl, sp.ext e10, rfl, q1, _, 1, _, rfl, rfl, s1.ext e10, rfl, v1, rfl, ⟨xs, sx⟩, fun D hD => ?_⟩
    refine lc_it (walk_list (xs := xs)) (fun i H' => Ext H10 H' ∧ H' D = some (.lst ((List.replicate i true).map V.bl))) ⟨Ext.upd hD, upd_same⟩ (fun i H' _ z => sx.ext z.1) (fun i x H11 H12 hi z y => ?_) (fun H13 z => ?_)
    · obtain ⟨e, hacc⟩ := z
      obtain ⟨rfl, hx⟩ := y
      obtain ⟨q, hq1, fx⟩ := xf.at hx
      have hi' : i < (recL l).length := by rw [← xf.1]; exact hi
      have sq : Sm q := by
        have := orc.at hi'
        rw [getD_of hq1] at this
        exact this
      refine ⟨rfl, lcT (iteT ?_)⟩
      refine ⟨_, rfl, x, q, rfl, fx.ext e, sq, fun H3 e3 => ⟨_, e3 _ _ hacc, lenLt (by simp; rw [recL_len] at hi'; omega), ext_lst (e.trans e3) hD, ?_⟩⟩
      rw [upd_same, List.replicate_succ', List.map_append]
      rfl
    obtain ⟨e13, hacc⟩ := z
    refine ⟨D, _, rfl, SqL.of hacc, _, rfl, ?_⟩
    rw [show ((List.replicate xs.length true).all id) = true from by simp]
    have eA := e10.trans e13
    have ruA := ru9.ext eA
    have flA := fl9.ext eA
    obtain ⟨zs, sz, zf⟩ := id flA
    -- len(told[0][1]) != len(a) or rec(rec(u)).numbers() != a
    refine iteF ⟨_, rfl, p, _, 0, _, rfl, rfl, sp.ext eA, rfl, q1, _, 1, _, rfl, rfl, s1.ext eA, rfl, v1, xs, rfl, .inl (sx.ext e13), _, rfl, a, zs, rfl, .inl sz, rfl, _, rfl, ?_⟩
    rw [xf.1, zf.1, recL_len, show (!decide (V.int (l.length : Int) = V.int (l.length : Int))) = false from by simp]
    have hr0 : (recL l).getD 0 0 ≠ 0 := rec_c0 (by omega) h0
    have rr : recL (recL l) = l := rec_rec h0
    have szr : Sz ((recL l).getD 0 0).num 5000 := by
      have z := (br.2.at (j := 0) (by rw [recL_len]; omega)).2
      exact Nat.le_trans z (pl (by omega))
    refine iteF ⟨_, rfl, y, l, rfl, ruA, .inl ⟨h0, ol, orc, sz_head bl (by omega), fun w1 H14 e14 _ r14 => ?_⟩⟩
    refine ⟨w1, _, rfl, r14, .inl ⟨hr0, orc, by rw [rr]; exact ol, szr, fun w2 H15 e15 _ r15 => ?_⟩⟩
    rw [rr] at r15
    obtain ⟨dx, c, g, hin, _⟩ := id r15
    refine ⟨w2, dx, _, rfl, hin, rfl, w2, _, rfl, r15, fun w3 H16 e16 _ f16 => ?_⟩
    have eB := e14.trans (e15.trans e16)
    refine ⟨_, rfl, w3, a, _, _, rfl, rfl, f16, flA.ext eB, _, rfl, ?_⟩
    rw [show (!decide (l = l)) = false from by rw [decide_eq_true rfl]; rfl]
    have eC := eA.trans eB
    refine iteF ⟨_, rfl, _, rfl, p, _, 0, _, rfl, rfl, sp.ext eC, rfl, q1, _, 1, _, rfl, rfl, s1.ext eC, rfl, ?_⟩
    refine ⟨a, v1, _, _, rfl, fl9.ext eC, f1.ext eC, ol, orc, by rw [recL_len], fun w4 H17 e17 _ f17 => ?_⟩
    rw [rec_mul h0] at f17
    refine ⟨lenOk (by show 2 ≤ 1000; decide), fun p1 np1 => ⟨lenOk (by show 1 ≤ 1000; decide), fun p2 np2 => ⟨lenOk (by show 2 ≤ 1000; decide), fun p3 np3 => ⟨lenOk (by show 1 ≤ 1000; decide), fun p4 np4 => ?_⟩⟩⟩⟩
    have g1 := Ext.upd (o := .tup [V.int 1, V.int 1]) np1
    have g2 := Ext.upd (o := .lst [V.ref p1]) np2
    have g3 := Ext.upd (o := .tup [V.int 0, V.int 1]) np3
    have g4 := Ext.upd (o := .lst [V.ref p3]) np4
    have g14 := g1.trans (g2.trans (g3.trans g4))
    obtain ⟨ws, sw, wf⟩ := (fl9.ext (eC.trans e17)).ext g14
    refine ⟨_, rfl, a, ws, rfl, .inl sw, _, _, rfl, rfl, p4, _, _, rfl, rfl, upd_same, by have := wf.1; omega, by have := wf.1; omega, lenOk (by show 1 * _ ≤ 1000; have := wf.1; omega), fun p5 np5 => ?_⟩
    rw [wf.1, show ((l.length : Int) - 1).toNat = l.length - 1 from by omega, flat_rep]
    have g5 := Ext.upd (o := .lst (List.replicate (l.length - 1) (V.ref p3))) np5
    refine ⟨p2, p5, [.ref p1], _, rfl, rfl, g5 _ _ (g4 _ _ (g3 _ _ upd_same)), upd_same, lenOk (by simp; omega), fun p6 np6 => ?_⟩
    have g6 := Ext.upd (o := .lst ([V.ref p1] ++ List.replicate (l.length - 1) (V.ref p3))) np6
    have gg1 := (whole_fr (K := K) (H := upd H17 p1 (.tup [V.int 1, V.int 1])) (p := p1) (n := 1) (q := 1) upd_same rfl).ext (g2.trans (g3.trans (g4.trans (g5.trans g6))))
    have gg0 := (whole_fr (K := K) (H := upd (upd (upd H17 p1 (.tup [V.int 1, V.int 1])) p2 (.lst [V.ref p1])) p3 (.tup [V.int 0, V.int 1])) (p := p3) (n := 0) (q := 0) upd_same rfl).ext (g4.trans (g5.trans g6))
    have fapp := Frs.append (Frs.cons gg1 Frs.nil) (Frs.rep gg0 (l.length - 1))
    rw [← oneL_eq _ (by omega)] at fapp
    refine ⟨w4, p6, _, _, rfl, rfl, f17.ext (g14.trans (g5.trans g6)), FL.of upd_same fapp, ?_⟩
    rw [decide_eq_true rfl]
    exact hq _ (m9.trans (Mn.ofE m9.bag m9.tabs (eC.trans (e17.trans (g14.trans (g5.trans g6))))))
end
end K4
end
section
set_option Elab.async false
set_option linter.all false
set_option maxRecDepth 100000
set_option maxHeartbeats 4000000
/-! The walks, 22: what is refused. -/
namespace K4
open PySem PySem.Spec PyProof.Rows L2 K04
def spRef (K : Frag) : Sp := spBack K
theorem head_ok {l : List Rat} (h : Bn l 3 23) (h1 : 0 < l.length) : Sm (l.getD 0 0) := (h.ok).at h1
theorem dep_odd {d : PT} (h : d.dep < 4) (c : Str) (n : Nat) : (PT.lst (List.replicate n (PT.lst [.str c, d]))).dep < 6 := by
  have e : (PT.lst [.str c, d]).dep ≤ 4 := by
    rw [PT.dep, PT.deps, PT.deps, PT.deps]
    rw [show (PT.str c).dep = 0 from rfl]
    omega
  have z : ∀ n, PT.deps (List.replicate n (PT.lst [.str c, d])) ≤ 4 := fun n => by
    induction n with
    | zero => exact Nat.zero_le _
    | succ n ih =>
      rw [List.replicate_succ, PT.deps]
      exact Nat.max_le.mpr ⟨e, ih⟩
  rw [PT.dep]
  have := z n
  omega
theorem code_dd {K : Frag} {H : Hp} {p : Addr} {x : V} {d : PT} {c : Str} (h : H p = some (.lst [V.str c, x])) (dd : DD K H x d) : DD K H (.ref p) (.lst [.str c, d]) := .lst (by show 2 ≤ 1000; decide) (SqL.of h) (.cons (.str _) (.cons dd .nil))
theorem dep_ptF (q : Rat) : (ptF q).dep < 4 := by
  unfold ptF
  rw [PT.dep, PT.deps, PT.deps, PT.deps]
  rw [show (PT.int q.num).dep = 0 from rfl, show (PT.int (q.den : Int)).dep = 0 from rfl]
  decide
section
variable {P : Program} {w : World} {K : Frag} {mg : Str → Option Value} {base : Heap}
theorem sc_law_refused_so : FnScope ["_law_bag_here", "_law_a", "_law_u", "_law_c", "_law_odd_here", "_law_told", "_law_due"] ["_law_bag_here", "_law_a"] (defScope s__law_refused_so) := sc_by (by decide +kernel)
theorem ok_law_refused_so (T : Tx K mg) (TT2 : Tb2 K mg base) : Ca P w K mg base CX0 10 "_law_refused_so" (spRef K) := by
  have c_law_small := ok_law_small (P := P) (w := w) (base := base) T
  have c_law_odd := ok_law_odd (P := P) (w := w) (base := base) T
  have c_law_like := ok_law_like (P := P) (w := w) (base := base) T 6
  have c_row_power := ok_row_power (P := P) (w := w) (base := base) T
  have c_row_log := ok_row_log (P := P) (w := w) (base := base) T
  obtain ⟨fdp, Fp, gp, kp, bp⟩ := (okp_row_power (P := P) (w := w) (base := base) T).kw T.d_row_power (fun kV doc pm an cdv ct => kb_swap (a := "row") (b := "t") fun u v => rfl)
  obtain ⟨fd1, ps1, Ri⟩ := ok_Row_init (P := P) (w := w) (base := base) T
  obtain ⟨fdA, FA⟩ := T.d__law_ask
  have bA : Binds K fdA ["_law_deed"] [] := FA.bindsN fun _ _ _ _ _ _ us hl => match us, hl with | [_], _ => rfl
  have kpA := FA.kp
  obtain ⟨ocA, odA, dVA, kVA, docA, pmA, anA, cdvA, ctA, oslA, rfl, lkA, hcdA, _, _⟩ := FA.ex
  have TB := TT2.b2
  have hm : (tOf K "_law_refused_so", qOf "_law_refused_so" s__law_refused_so) ∈ Tl K := List.mem_cons_of_mem _ List.mem_cons_self
  have hu : ∀ p ∈ Tl K, p.1 = tOf K "_law_refused_so" → p.2 = qOf "_law_refused_so" s__law_refused_so := fun p hp e => by
    rcases List.mem_cons.mp hp with rfl | hp
    · exact absurd e TT2.ne
    · rw [List.mem_singleton.mp hp]
  refine ca_ofL T.d__law_refused_so T.g__law_refused_so sc_law_refused_so (fun vs H Q E h => ?_) (fun _ _ _ _ _ _ us hl => match us, hl with | [_, _], _ => rfl) fun A outer s H vs Q E hr h => ?_
  · obtain ⟨_, _, _, _, _, rfl, _⟩ := h
    rfl
  have hrA := fun s : Shared => (hr.mono (by decide : 2 ≤ 9)).deeper (envOfC "_law_ask" (defScope s__law_ask) s.heap.objs.size (He.ga K "_law_ask") cdvA)
  obtain ⟨b, bn, ns, a, l, rfl, B, tabs, fl, h3, h9, bl, hq⟩ := h
  refine ⟨_, (pss_cons (ps_asg (pe_tup (pa_cons (pe_make T.k_Row Ri.ok (hr.mono (by decide)) (by rfl) T.g_Row Ri.b .nil pass0 (pa_cons (pv 1) pa_nil)) (pa_cons (pe_ca c_law_small hr (by decide) pass0 (pa_cons (pv 0) pa_nil)) (pa_cons (pe_ca c_law_odd hr (by decide) pass0 (pa_cons (pv 0) pa_nil)) pa_nil)))) (pg_tup (n := 3) rfl (pgs_cons (pg_name (i := 2) sc_law_refused_so.nd rfl (Or.inr rfl) (Or.inl rfl)) (pgs_cons (pg_name (i := 3) sc_law_refused_so.nd rfl (Or.inr rfl) (Or.inl rfl)) (pgs_cons (pg_name (i := 4) sc_law_refused_so.nd rfl (Or.inr rfl) (Or.inl rfl)) pgs_nil)))))
    (C8.pss_cut (ps_set (i := 5) sc_law_refused_so.nd rfl (Or.inl rfl) (pe_lst (pa_cons (LamX.pe_lamcall (T := Tl K) (TT := TAsk K) (k := 7) (by rfl) T.g__law_ask kpA lkA hcdA bA sc_law_ask rfl (Or.inl rfl) (ask_gives T hrA) TB rfl hm hu (hr.mono (by decide)) (LamX.lamS_by (sc := defScope s__law_refused_so) (by decide +kernel)) rfl (fun _ _ _ _ _ => rfl) (fun A outer s H E f c2 hr2 => (pe_ca c_row_power hr2 (by decide) (passes_call (takes_of rfl rfl rfl rfl) (fun _ _ _ _ h => h)) (pa_cons (pv 2) (pa_cons (pv 4) pa_nil))))) (pa_cons (pe_lamcallD (T := Tl K) (TT := TAsk K) (k := 7) (b := "_law_x") (by rfl) T.g__law_ask kpA lkA hcdA bA sc_law_ask rfl (Or.inl rfl) (ask_gives T hrA) TB rfl hm hu (hr.mono (by decide)) (lamD_by (N := ["_law_bag_here", "_law_a", "_law_u", "_law_c", "_law_odd_here", "_law_told", "_law_due"]) (sc := defScope s__law_refused_so) (by decide +kernel)) rfl rfl (fun _ _ _ _ _ _ => ⟨_, rfl, fun _ => rfl⟩) rfl (fun A outer s H E f c2 hr2 => (pe_kw Fp hr2 (by rfl) gp kp bp (passes_call (takes_of rfl rfl rfl rfl) (fun _ _ _ _ h => h)) (pk_cons (pv 4) (pk_cons (pv 2) pk_nil))))) pa_nil))))
    (pss_cons (ps_if (pt_cmpR (op_eqF (hrU hr)) (pe_fl (pv 1) pe_int) (pe_tup (pa_cons pe_int (pa_cons pe_int pa_nil))) (nomark _)) (pss_cons (ps_set (i := 6) sc_law_refused_so.nd rfl (Or.inl rfl) (pe_lst (pa_cons pe_str (pa_cons (pv 4) pa_nil))))
    (pss_one (ps_ret (pe_and (pe_ca c_law_like hr (by decide) pass0 (pa_cons (pv 5) (pa_cons (pe_lst (pa_cons (pv 6) (pa_cons (pv 6) pa_nil))) pa_nil))) (pe_one (pe_callB call_isi (by rfl) T.f_isinstance PyProof.Rows.Boot.«isinstance» (pa_cons (pe_ca c_row_power hr (by decide) passN (pa_cons (pv 2) (pa_cons (pv 3) pa_nil))) (pa_cons (pe_gref (by rfl) T.g_Row) pa_nil)))))))) pss_nil)
    (pss_cons (ps_set (i := 6) sc_law_refused_so.nd rfl (Or.inl rfl) (pe_lst (pa_cons pe_str (pa_cons (pe_fl (pv 1) pe_int) pa_nil))))
    (C8.pss_cut (ps_set (i := 5) sc_law_refused_so.nd rfl (Or.inl rfl) (pe_op op_cat (pv 5) (pe_lst (pa_cons (LamX.pe_lamcall (T := Tl K) (TT := TAsk K) (k := 7) (by rfl) T.g__law_ask kpA lkA hcdA bA sc_law_ask rfl (Or.inl rfl) (ask_gives T hrA) TB rfl hm hu (hr.mono (by decide)) (LamX.lamS_by (sc := defScope s__law_refused_so) (by decide +kernel)) rfl (fun _ _ _ _ _ => rfl) (fun A outer s H E f c2 hr2 => (pe_ca c_row_power hr2 (by decide) (passes_call (takes_of rfl rfl rfl rfl) (fun _ _ _ _ h => h)) (pa_cons (pv 2) (pa_cons (pv 3) pa_nil))))) (pa_cons (pe_lamcallD (T := Tl K) (TT := TAsk K) (k := 7) (b := "_law_x") (by rfl) T.g__law_ask kpA lkA hcdA bA sc_law_ask rfl (Or.inl rfl) (ask_gives T hrA) TB rfl hm hu (hr.mono (by decide)) (lamD_by (N := ["_law_bag_here", "_law_a", "_law_u", "_law_c", "_law_odd_here", "_law_told", "_law_due"]) (sc := defScope s__law_refused_so) (by decide +kernel)) rfl rfl (fun _ _ _ _ _ _ => ⟨_, rfl, fun _ => rfl⟩) rfl (fun A outer s H E f c2 hr2 => (pe_ca c_row_log hr2 (by decide) (passes_call (takes_of rfl rfl rfl rfl) (fun _ _ _ _ h => h)) (pa_cons (pv 2) pa_nil)))) pa_nil)))))
    (pss_one (ps_ret (pe_ca c_law_like hr (by decide) pass0 (pa_cons (pv 5) (pa_cons (pe_lst (pa_cons (pv 6) (pa_cons (pv 6) (pa_cons (pv 6) (pa_cons (pv 6) pa_nil))))) pa_nil)))))))))), ?_⟩
  have ol : Ok l := bl.ok
  refine ⟨_, rfl, fun y d hy hd hne => ⟨y, d, a, l, rfl, upd_same, (fl.ext (Ext.upd hd)).ext (Ext.upd (by rw [upd_ne hne.symm]; exact hy)), h3, by omega, fun H2 e2 ru => ⟨rfl, ?_⟩⟩⟩
  have eu : Ext H H2 := ext_made hy hd e2
  have B2 := B.ext eu
  refine ⟨_, rfl, b, bn, ns, rfl, B2, fun cv c H3 fc sc m3 => ?_⟩
  refine ⟨_, rfl, b, bn, ns, rfl, m3.bag, fun x dx H40 hdep ddx0 ov0 m40 => ⟨lenOk (by show 3 ≤ 1000; decide), fun tt htt => ?_⟩⟩
  have et := Ext.upd (o := .tup [V.ref y, cv, x]) htt
  refine ⟨tt, _, rfl, SqT.of upd_same, rfl, _, _, rfl, _, _, rfl, _, _, rfl, rfl, ?_⟩
  have m4 := m40.trans (Mv.of m40.bag et)
  have ddx := DD.ext et _ _ ddx0
  have ov := OddV.extN ov0 (extN_of et)
  have m24 := m3.trans m4
  have ru4 := ru.mv B2 m24.ext
  have fc4 := fc.mv m3.bag m4.ext
  have m04 : Mn K b bn ns (Tl K) H _ := (Mn.ofE B tabs eu).trans (m24.mn (tabs.ext eu) B2)
  refine ⟨fun σ H' => ∃ p q1 q2 : Addr, σ = [some (.ref b), some (.ref a), some (.ref y), some cv, some x, some (.ref p), none] ∧ Mn K b bn ns (Tl K) H H' ∧ RowAt K H' y l ∧ Fr K H' cv c ∧ DD K H' x dx ∧ H' p = some (.lst [.ref q1, .ref q2]) ∧
    ((l.getD 0 0 = 1 ∧ H' q1 = some (.lst [.str "InvalidNumber", x]) ∧ H' q2 = some (.lst [.str "InvalidNumber", x])) ∨
     (l.getD 0 0 ≠ 1 ∧ ∃ y1 y2 : V, H' q1 = some (.lst [.str "NotOne", y1]) ∧ H' q2 = some (.lst [.str "NotOne", y2]) ∧ Fr K H' y1 (l.getD 0 0) ∧ Fr K H' y2 (l.getD 0 0))), ?_, fun σ H9 z => ?_⟩
  · refine ⟨m04.tabs, fun H5 eN5 tb5 => ?_⟩
    have m5 := m04.trans (Mn.ofN m04.bag tb5 eN5)
    have ru5 := ru4.extN eN5
    have fc5 := fc4.extN eN5
    have dd5 := DD.extN eN5 _ _ ddx
    have ov5 := OddV.extN ov eN5
    by_cases h0 : l.getD 0 0 = 1
    · refine ⟨_, rfl, _, rfl, y, x, l, rfl, ru5, .inr (.inl ⟨h0, ov5, fun d1 H6 e6 nd1 hd1 => ⟨cInv K, d1, _, _, rfl, rfl, hd1, .inl ⟨rfl, x, rfl, rfl⟩, fun q1 hq1 => ?_⟩⟩)⟩
      have e7 := e6.trans (Ext.upd (o := .lst [V.str "InvalidNumber", x]) hq1)
      have m7 := m5.trans (Mn.ofE m5.bag m5.tabs e7)
      refine ⟨m7.tabs, fun H8 eN8 tb8 => ?_⟩
      have m8 := m7.trans (Mn.ofN m7.bag tb8 eN8)
      have ru8 := (ru5.ext e7).extN eN8
      have fc8 := (fc5.ext e7).extN eN8
      have dd8 := DD.extN eN8 _ _ (DD.ext e7 _ _ dd5)
      have ov8 := OddV.extN (OddV.extN ov5 (extN_of e7)) eN8
      have k1 := eN8 _ _ (show upd H6 q1 (.lst [V.str "InvalidNumber", x]) q1 = some _ from upd_same) (fun _ z => by cases z)
      refine ⟨_, rfl, _, rfl, y, x, l, rfl, ru8, .inr (.inl ⟨h0, ov8, fun d2 H9 e9 nd2 hd2 => ⟨cInv K, d2, _, _, rfl, rfl, hd2, .inl ⟨rfl, x, rfl, rfl⟩, fun q2 hq2 => ?_⟩⟩)⟩
      have e10 := Ext.upd (o := .lst [V.str "InvalidNumber", x]) hq2
      refine ⟨lenOk (by show 2 ≤ 1000; decide), fun p hp => ?_⟩
      have e11 := Ext.upd (o := .lst [V.ref q1, V.ref q2]) hp
      have ee := e9.trans (e10.trans e11)
      exact ⟨p, q1, q2, rfl, m8.trans (Mn.ofE m8.bag m8.tabs ee), ru8.ext ee, fc8.ext ee, DD.ext ee _ _ dd8, upd_same, .inl ⟨h0, ee _ _ k1, e11 _ _ upd_same⟩⟩
    · refine ⟨_, rfl, _, rfl, y, x, l, rfl, ru5, .inr (.inr ⟨h0, fun y1 d1 H6 e6 nd1 fy1 hd1 => ⟨cNot K, d1, _, _, rfl, rfl, hd1, .inr (.inl ⟨rfl, y1, rfl, rfl⟩), fun q1 hq1 => ?_⟩⟩)⟩
      have e61 := Ext.upd (o := .lst [V.str "NotOne", y1]) hq1
      have e7 := e6.trans e61
      have m7 := m5.trans (Mn.ofE m5.bag m5.tabs e7)
      refine ⟨m7.tabs, fun H8 eN8 tb8 => ?_⟩
      have m8 := m7.trans (Mn.ofN m7.bag tb8 eN8)
      have ru8 := (ru5.ext e7).extN eN8
      have fc8 := (fc5.ext e7).extN eN8
      have dd8 := DD.extN eN8 _ _ (DD.ext e7 _ _ dd5)
      have fy8 := (fy1.ext e61).extN eN8
      have k1 := eN8 _ _ (show upd H6 q1 (.lst [V.str "NotOne", y1]) q1 = some _ from upd_same) (fun _ z => by cases z)
      refine ⟨_, rfl, _, rfl, y, x, l, rfl, ru8, .inr (.inr ⟨h0, fun y2 d2 H9 e9 nd2 fy2 hd2 => ⟨cNot K, d2, _, _, rfl, rfl, hd2, .inr (.inl ⟨rfl, y2, rfl, rfl⟩), fun q2 hq2 => ?_⟩⟩)⟩
      have e10 := Ext.upd (o := .lst [V.str "NotOne", y2]) hq2
      refine ⟨lenOk (by show 2 ≤ 1000; decide), fun p hp => ?_⟩
      have e11 := Ext.upd (o := .lst [V.ref q1, V.ref q2]) hp
      have ee := e9.trans (e10.trans e11)
      exact ⟨p, q1, q2, rfl, m8.trans (Mn.ofE m8.bag m8.tabs ee), ru8.ext ee, fc8.ext ee, DD.ext ee _ _ dd8, upd_same, .inr ⟨h0, y1, y2, ee _ _ k1, e11 _ _ upd_same, fy8.ext ee, fy2.ext (e10.trans e11)⟩⟩
  obtain ⟨p, q1, q2, rfl, m9, ru9, fc9, dd9, hp, hcase⟩ := z
  have fl9 := fl.mn B m9
  refine ⟨_, rfl, a, l, 0, rfl, rfl, fl9, by omega, fun z0 fz0 => ⟨lenOk (by show 2 ≤ 1000; decide), fun t0 ht0 => ?_⟩⟩
  have g0 := Ext.upd (o := .tup [V.int 1, V.int 1]) ht0
  have m10 := m9.trans (Mn.ofE m9.bag m9.tabs g0)
  have ru10 := ru9.ext g0
  refine ⟨l.getD 0 0, 1, fz0.ext g0, whole_fr upd_same rfl, _, rfl, ?_⟩
  rcases hcase with ⟨h0, k1, k2⟩ | ⟨h0, y1, y2, k1, k2, f1, f2⟩
  · rw [decide_eq_true h0]
    refine iteT ⟨_, rfl, lenOk (by show 2 ≤ 1000; decide), fun t1 ht1 => ?_⟩
    have g1 := Ext.upd (o := .lst [V.str "InvalidNumber", x]) ht1
    refine ⟨_, rfl, _, rfl, _, rfl, lenOk (by show 2 ≤ 1000; decide), fun t2 ht2 => ?_⟩
    have g2 := Ext.upd (o := .lst [V.ref t1, V.ref t1]) ht2
    have g := g0.trans (g1.trans g2)
    have ddF := DD.ext g _ _ dd9
    have c1 : DD K _ (.ref q1) (.lst [.str "InvalidNumber", dx]) := code_dd (g _ _ k1) ddF
    have c2 : DD K _ (.ref q2) (.lst [.str "InvalidNumber", dx]) := code_dd (g _ _ k2) ddF
    have c3 : DD K _ (.ref t1) (.lst [.str "InvalidNumber", dx]) := code_dd (g2 _ _ upd_same) ddF
    refine ⟨.ref p, .ref t2, .lst (List.replicate 2 (.lst [.str "InvalidNumber", dx])), rfl, dep_odd hdep _ 2, .lst (by show 2 ≤ 1000; decide) (SqL.of (g _ _ hp)) (.cons c1 (.cons c2 .nil)), .lst (by show 2 ≤ 1000; decide) (SqL.of upd_same) (.cons c3 (.cons c3 .nil)), fun H11 e11 => ⟨_, rfl, iteT ?_⟩⟩
    have ge := g.trans e11
    refine ⟨_, rfl, _, rfl, y, cv, l, rfl, ru9.ext ge, .inl ⟨h0, c, fc9.ext ge, ol, (bn_pow_small bl h9 (sc.mono (by omega) (by omega))).ok, sc.mono (by omega) (by omega), fun v H12 e12 _ r12 => ?_⟩⟩
    obtain ⟨dxx, cc, gg, hin, _⟩ := id r12
    refine ⟨.ref v, .ref (cRow K), .ref (cRow K), .ref (cRow K), true, rfl, .own _, .base (.ins hin T.c_Row T.i_Row.ha T.hn T.htk T.i_Row.hm), T.ii_Row, ?_⟩
    exact hq _ (m9.trans (Mn.ofE m9.bag m9.tabs (ge.trans e12)))
  · rw [decide_eq_false h0]
    refine iteF ⟨_, rfl, a, l, 0, rfl, rfl, fl9.ext g0, by omega, fun z1 fz1 => ⟨lenOk (by show 2 ≤ 1000; decide), fun t1 ht1 => ?_⟩⟩
    have g1 := Ext.upd (o := .lst [V.str "NotOne", z1]) ht1
    have g01 := g0.trans g1
    have m11 := m9.trans (Mn.ofE m9.bag m9.tabs g01)
    refine ⟨fun σ H' => ∃ p q1 q2 q3 q4 : Addr, ∃ y1 y2 y3 y4 : V, σ = [some (.ref b), some (.ref a), some (.ref y), some cv, some x, some (.ref p), some (.ref t1)] ∧ Mn K b bn ns (Tl K) H H' ∧ H' t1 = some (.lst [.str "NotOne", z1]) ∧ Fr K H' z1 (l.getD 0 0) ∧ H' p = some (.lst [.ref q1, .ref q2, .ref q3, .ref q4]) ∧
      (H' q1 = some (.lst [.str "NotOne", y1]) ∧ Fr K H' y1 (l.getD 0 0)) ∧ (H' q2 = some (.lst [.str "NotOne", y2]) ∧ Fr K H' y2 (l.getD 0 0)) ∧ (H' q3 = some (.lst [.str "NotOne", y3]) ∧ Fr K H' y3 (l.getD 0 0)) ∧ (H' q4 = some (.lst [.str "NotOne", y4]) ∧ Fr K H' y4 (l.getD 0 0)), ?_, fun σ H20 z => ?_⟩
    · refine ⟨_, rfl, m11.tabs, fun H12 eN12 tb12 => ?_⟩
      have m12 := m11.trans (Mn.ofN m11.bag tb12 eN12)
      have ru12 := (ru9.ext g01).extN eN12
      have G12 : ExtN H9 H12 := LamX.ExtN.trans (extN_of g01) eN12
      have nt : ∀ {zs : List V} (ps : Array Value), HO.lst zs ≠ .tbl ps := fun _ z => by cases z
      have tt12 := eN12 _ _ (show upd (upd H9 t0 (.tup [V.int 1, V.int 1])) t1 (.lst [V.str "NotOne", z1]) t1 = some _ from upd_same) nt
      refine ⟨_, rfl, _, rfl, y, cv, l, rfl, ru12, .inr (.inr ⟨h0, fun y3 d3 H13 e13 nd3 fy3 hd3 => ⟨cNot K, d3, _, _, rfl, rfl, hd3, .inr (.inl ⟨rfl, y3, rfl, rfl⟩), fun q3 hq3 => ?_⟩⟩)⟩
      have e14 := Ext.upd (o := .lst [V.str "NotOne", y3]) hq3
      have e134 := e13.trans e14
      have m14 := m12.trans (Mn.ofE m12.bag m12.tabs e134)
      refine ⟨m14.tabs, fun H15 eN15 tb15 => ?_⟩
      have m15 := m14.trans (Mn.ofN m14.bag tb15 eN15)
      have ru15 := (ru12.ext e134).extN eN15
      have G15 : ExtN H9 H15 := LamX.ExtN.trans G12 (LamX.ExtN.trans (extN_of e134) eN15)
      have k3 := eN15 _ _ (show upd H13 q3 (.lst [V.str "NotOne", y3]) q3 = some _ from upd_same) nt
      refine ⟨_, rfl, y, l, rfl, ru15, .inr ⟨h0, fun y4 d4 H16 e16 nd4 fy4 hd4 => ⟨cNot K, d4, _, _, rfl, rfl, hd4, .inr (.inl ⟨rfl, y4, rfl, rfl⟩), fun q4 hq4 => ?_⟩⟩⟩
      have e17 := Ext.upd (o := .lst [V.str "NotOne", y4]) hq4
      refine ⟨lenOk (by show 2 ≤ 1000; decide), fun p2 hp2 => ?_⟩
      have e18 := Ext.upd (o := .lst [V.ref q3, V.ref q4]) hp2
      have e168 := e16.trans (e17.trans e18)
      have hp15 := e168 _ _ (G15 _ _ hp nt)
      refine ⟨p, p2, _, _, rfl, rfl, hp15, upd_same, lenOk (by show 2 + 2 ≤ 1000; decide), fun p3 hp3 => ?_⟩
      have e19 := Ext.upd (o := .lst ([V.ref q1, V.ref q2] ++ [V.ref q3, V.ref q4])) hp3
      have eE := e168.trans e19
      refine ⟨p3, q1, q2, q3, q4, y1, y2, y3, y4, rfl, m15.trans (Mn.ofE m15.bag m15.tabs eE), ?_, ?_, upd_same, ⟨?_, ?_⟩, ⟨?_, ?_⟩, ⟨?_, ?_⟩, ⟨?_, ?_⟩⟩
      · exact eE _ _ (eN15 _ _ (e134 _ _ tt12) nt)
      · exact (((fz1.ext g1).extN (LamX.ExtN.trans eN12 (LamX.ExtN.trans (extN_of e134) eN15)))).ext eE
      · exact eE _ _ (G15 _ _ k1 nt)
      · exact (f1.extN G15).ext eE
      · exact eE _ _ (G15 _ _ k2 nt)
      · exact (f2.extN G15).ext eE
      · exact eE _ _ k3
      · exact ((fy3.ext e14).extN eN15).ext eE
      · exact e19 _ _ (e18 _ _ upd_same)
      · exact fy4.ext (e17.trans (e18.trans e19))
    obtain ⟨p, q1, q2, q3, q4, y1, y2, y3, y4, rfl, m20, ht1', fz20, hp20, ⟨k1, f1⟩, ⟨k2, f2⟩, ⟨k3, f3⟩, ⟨k4, f4⟩⟩ := z
    refine ⟨_, rfl, _, rfl, _, rfl, _, rfl, _, rfl, lenOk (by show 4 ≤ 1000; decide), fun t2 ht2 => ?_⟩
    have g2 := Ext.upd (o := .lst [V.ref t1, V.ref t1, V.ref t1, V.ref t1]) ht2
    have c1 : DD K _ (.ref q1) (.lst [.str "NotOne", ptF (l.getD 0 0)]) := code_dd (g2 _ _ k1) (f1.ext g2).dd
    have c2 : DD K _ (.ref q2) (.lst [.str "NotOne", ptF (l.getD 0 0)]) := code_dd (g2 _ _ k2) (f2.ext g2).dd
    have c3 : DD K _ (.ref q3) (.lst [.str "NotOne", ptF (l.getD 0 0)]) := code_dd (g2 _ _ k3) (f3.ext g2).dd
    have c4 : DD K _ (.ref q4) (.lst [.str "NotOne", ptF (l.getD 0 0)]) := code_dd (g2 _ _ k4) (f4.ext g2).dd
    have c5 : DD K _ (.ref t1) (.lst [.str "NotOne", ptF (l.getD 0 0)]) := code_dd (g2 _ _ ht1') (fz20.ext g2).dd
    refine ⟨.ref p, .ref t2, .lst (List.replicate 4 (.lst [.str "NotOne", ptF (l.getD 0 0)])), rfl, dep_odd (dep_ptF _) _ 4, .lst (by show 4 ≤ 1000; decide) (SqL.of (g2 _ _ hp20)) (.cons c1 (.cons c2 (.cons c3 (.cons c4 .nil)))), .lst (by show 4 ≤ 1000; decide) (SqL.of upd_same) (.cons c5 (.cons c5 (.cons c5 (.cons c5 .nil)))), fun H21 e21 => ?_⟩
    exact hq _ (m20.trans (Mn.ofE m20.bag m20.tabs (g2.trans e21)))
end
end K4
end
section
set_option Elab.async false
set_option linter.all false
set_option maxRecDepth 100000
set_option maxHeartbeats 4000000
/-! The walks, 23: the law. -/
namespace K4
open PySem PySem.Spec PyProof.Rows L2 K04
/-- what the law holds: its bag, its rows, its numbers -/
structure LG0 (K : Frag) (b bn : Addr) (ns : List Int) (a a2 : Addr) (l m : List Rat) (sv cv : V) (s c : Rat) (H : Hp) : Prop where
  B : Bag K H b bn ns
  tb : LamX.Tabs (Tl K) H
  fa : FL K H a l
  fb : FL K H a2 m
  fs : Fr K H sv s
  fc : Fr K H cv c
structure LG (K : Frag) (b bn : Addr) (ns : List Int) (a a2 : Addr) (l m : List Rat) (sv cv : V) (s c : Rat) (y z : Addr) (H : Hp) : Prop extends LG0 K b bn ns a a2 l m sv cv s c H where
  ru : RowAt K H y l
  rw_ : RowAt K H z m
section
variable {K : Frag} {b bn a a2 y z : Addr} {ns : List Int} {l m : List Rat} {sv cv : V} {s c : Rat} {H H' : Hp}
theorem LG0.ext (g : LG0 K b bn ns a a2 l m sv cv s c H) (e : Ext H H') : LG0 K b bn ns a a2 l m sv cv s c H' := ⟨g.B.ext e, g.tb.ext e, g.fa.ext e, g.fb.ext e, g.fs.ext e, g.fc.ext e⟩
theorem LG0.mv (g : LG0 K b bn ns a a2 l m sv cv s c H) (m' : Mv K b bn ns H H') : LG0 K b bn ns a a2 l m sv cv s c H' := ⟨m'.bag, tabs_mv g.tb g.B m'.ext, g.fa.mv g.B m'.ext, g.fb.mv g.B m'.ext, g.fs.mv g.B m'.ext, g.fc.mv g.B m'.ext⟩
theorem LG.ext (g : LG K b bn ns a a2 l m sv cv s c y z H) (e : Ext H H') : LG K b bn ns a a2 l m sv cv s c y z H' := ⟨g.toLG0.ext e, g.ru.ext e, g.rw_.ext e⟩
theorem LG.mv (g : LG K b bn ns a a2 l m sv cv s c y z H) (m' : Mv K b bn ns H H') : LG K b bn ns a a2 l m sv cv s c y z H' := ⟨g.toLG0.mv m', g.ru.mv g.B m'.ext, g.rw_.mv g.B m'.ext⟩
end
/-- a drawn row's sizes -/
theorem bn_of {l : List Rat} {n : Nat} (h : l.length = n + 1) (hn : n ≤ 8) (hb : ∀ i, i < n + 1 → NumB (l.getD i 0)) : Bn l 3 23 := ⟨by omega, 6, by decide, by decide, fun j hj => hb j (by omega)⟩
theorem bn_log_small {l : List Rat} {a b : Nat} (h : Bn l a b) (hl : l.length ≤ 9) : Bn (logL l) ((a + 4) * 8) ((a + b + 10) * 8) := by
  have z := h.log
  exact z.mono (Nat.mul_le_mul (Nat.le_refl _) (by omega)) (Nat.mul_le_mul (Nat.le_refl _) (by omega))
theorem bn_pow_m {l : List Rat} {a b c d : Nat} {t : Rat} (h : Bn l a b) (hl : l.length ≤ 9) (ht : Sq c d t) : Bn (powL t l) ((c + a + 4) * 8) ((a + b + c + d + 10) * 8) := by
  have z := h.pow ht
  exact z.mono (Nat.mul_le_mul (Nat.le_refl _) (by omega)) (Nat.mul_le_mul (Nat.le_refl _) (by omega))
theorem bn_pow_wide {l : List Rat} {t : Rat} (h : Bn l 3 23) (hl : l.length ≤ 5) (ht : Sq 200 200 t) : Bn (powL t l) 990 9000 := by
  have z := h.pow ht
  refine z.mono ?_ ?_
  · have : (200 + 3 + 4) * (l.length - 1) ≤ (200 + 3 + 4) * 4 := Nat.mul_le_mul (Nat.le_refl _) (by omega)
    omega
  · have : (3 + 23 + 200 + 200 + 10) * (l.length - 1) ≤ (3 + 23 + 200 + 200 + 10) * 4 := Nat.mul_le_mul (Nat.le_refl _) (by omega)
    omega
theorem sq_self (q : Rat) {a b : Nat} (h : Sq a b q) : Bz q.den (2 ^ b) q := (Bz.self q).mono h.2
theorem sq_add {q r : Rat} (h : Sq 2 2 q) (k : Sq 2 2 r) : Sq 8 20 (q + r) := by
  have x := (sq_self q h).up r.den
  have y := (sq_self r k).up q.den
  rw [Nat.mul_comm r.den q.den] at y
  obtain ⟨p1, p2⟩ := (x.add y).size (Nat.mul_pos q.den_pos r.den_pos)
  have h1 := h.1
  have k1 := k.1
  have e : (2 : Nat) ^ 2 = 4 := rfl
  have e8 : (2 : Nat) ^ 8 = 256 := rfl
  have e20 : (2 : Nat) ^ 20 = 1048576 := rfl
  have m1 : q.den * r.den ≤ 4 * 4 := Nat.mul_le_mul (by omega) (by omega)
  exact ⟨by omega, by omega⟩
theorem sq_mul {q r : Rat} (h : Sq 2 2 q) (k : Sq 2 2 r) : Sq 8 20 (q * r) := by
  obtain ⟨p1, p2⟩ := ((sq_self q h).mul (sq_self r k)).size (Nat.mul_pos q.den_pos r.den_pos)
  have h1 := h.1
  have k1 := k.1
  have e : (2 : Nat) ^ 2 = 4 := rfl
  have e8 : (2 : Nat) ^ 8 = 256 := rfl
  have e20 : (2 : Nat) ^ 20 = 1048576 := rfl
  have m1 : q.den * r.den ≤ 4 * 4 := Nat.mul_le_mul (by omega) (by omega)
  exact ⟨by omega, by omega⟩
theorem neFL {l m : List Rat} (h : l = m) : (!decide (l = m)) = false := by rw [decide_eq_true h]; rfl
def spLaw (K : Frag) : Sp := fun vs H Q _ => ∃ (a : Addr) (ns : List Int), vs = [.ref a] ∧ SqL K H a (ns.map V.int) ∧ LamX.Tabs (Tl K) H ∧ ∀ H', Q (.bl true) H'
section
variable {P : Program} {w : World} {K : Frag} {mg : Str → Option Value} {base : Heap}
theorem sc_law : FnScope ["_law_script", "_law_bag_here", "_law_size", "_law_a", "_law_b", "_law_s", "_law_c", "_law_u", "_law_w", "_law_told", "_law_log", "_law_first", "_law_d"] ["_law_script"] (defScope s_law) := sc_by (by decide +kernel)
theorem ok_law (T : Tx K mg) (TT2 : Tb2 K mg base) {fd : FuncData} (F : FnT K "law" s_law fd) : FnOk P w K mg base CX0 11 (He.ga K "law") fd ["_law_script"] (spLaw K) := by
  have c_law_bag := ok_law_bag (P := P) (w := w) (base := base) T
  have c_law_of := ok_law_of (P := P) (w := w) (base := base) T
  have c_law_draw := ok_law_draw (P := P) (w := w) (base := base) T
  have c_law_row := ok_law_row (P := P) (w := w) (base := base) T
  have c_law_small := ok_law_small (P := P) (w := w) (base := base) T
  have c_law_wide := ok_law_wide (P := P) (w := w) (base := base) T
  have c_law_low := ok_law_low (P := P) (w := w) (base := base) T
  have c_law_number := ok_law_number (P := P) (w := w) (base := base) T
  have c_law_power_so := ok_law_power_so (P := P) (w := w) (base := base) T
  have c_law_log_so := ok_law_log_so (P := P) (w := w) (base := base) T
  have c_law_whole_so := ok_law_whole_so (P := P) (w := w) (base := base) T
  have c_law_add := ok_law_add (P := P) (w := w) (base := base) T
  have c_law_mul := ok_law_mul (P := P) (w := w) (base := base) T
  have c_law_like := ok_law_like (P := P) (w := w) (base := base) T 6
  have c_law_back_so := ok_law_back_so (P := P) (w := w) (base := base) T TT2
  have c_law_refused_so := ok_law_refused_so (P := P) (w := w) (base := base) T TT2
  have c_row_power := ok_row_power (P := P) (w := w) (base := base) T
  have c_row_log := ok_row_log (P := P) (w := w) (base := base) T
  obtain ⟨fdp, Fp, gp, kp, bp⟩ := (okp_row_power (P := P) (w := w) (base := base) T).kw T.d_row_power (fun kV doc pm an cdv ct => kb_swap (a := "row") (b := "t") fun u v => rfl)
  obtain ⟨fdl, Fl, gl, kl, bl⟩ := (okp_row_log (P := P) (w := w) (base := base) T).kw T.d_row_log (fun kV doc pm an cdv ct => kb_one (a := "row") fun u => rfl)
  obtain ⟨fd1, ps1, Ri⟩ := ok_Row_init (P := P) (w := w) (base := base) T
  obtain ⟨fd2, ps2, Rn⟩ := ok_numbers (P := P) (w := w) (base := base) T
  obtain ⟨fd3, ps3, Rs⟩ := ok_Row_scaled (P := P) (w := w) (base := base) T
  obtain ⟨fd4, ps4, Rm⟩ := ok_Row_mul (P := P) (w := w) (base := base) T
  obtain ⟨fd5, ps5, Ra⟩ := ok_Row_add (P := P) (w := w) (base := base) T
  refine F.ok sc_law (fun vs H Q E h => ?_) (fun cdv A outer s H vs Q E hr h => ?_)
  · obtain ⟨_, _, rfl, _⟩ := h
    rfl
  obtain ⟨sa, ms, rfl, hs, tb0, hq⟩ := h
  suffices z : ∃ t, PSs (cxOf CX0 P w K mg base ["_law_script", "_law_bag_here", "_law_size", "_law_a", "_law_b", "_law_s", "_law_c", "_law_u", "_law_w", "_law_told", "_law_log", "_law_first", "_law_d"] "law" (defScope s_law) (He.ga K "law") cdv A outer s H E).nox (defBody s_law) t ∧ t { nx := fun _ H' => Q .non H', rt := Q } (start ["_law_script", "_law_bag_here", "_law_size", "_law_a", "_law_b", "_law_s", "_law_c", "_law_u", "_law_w", "_law_told", "_law_log", "_law_first", "_law_d"] [.ref sa]) H by
    obtain ⟨t, h, q⟩ := z
    exact ⟨t, h.nox, q⟩
  refine ⟨_, (pss_cons (ps_set (i := 1) sc_law.nd rfl (Or.inl rfl) (pe_ca c_law_bag hr (by decide) pass0 (pa_cons (pv 0) pa_nil)))
    (pss_cons (ps_set (i := 2) sc_law.nd rfl (Or.inl rfl) (pe_ca c_law_of hr (by decide) pass0 (pa_cons (pv 1) (pa_cons (pe_lst (pa_cons pe_int (pa_cons pe_int (pa_cons pe_int (pa_cons pe_int (pa_cons pe_int (pa_cons pe_int (pa_cons pe_int pa_nil)))))))) pa_nil))))
    (pss_cons (ps_par (i := 3) (j := 4) rfl sc_law.nd rfl rfl (by decide) rfl rfl (pa_cons (pe_ca c_law_row hr (by decide) pass0 (pa_cons (pv 1) (pa_cons (pv 2) (pa_cons (pe_tup (pa_cons pe_int (pa_cons pe_int pa_nil))) pa_nil)))) (pa_cons (pe_ca c_law_row hr (by decide) pass0 (pa_cons (pv 1) (pa_cons (pv 2) (pa_cons (pe_tup (pa_cons pe_int (pa_cons pe_int pa_nil))) pa_nil)))) pa_nil)) rfl)
    (pss_cons (ps_par (i := 5) (j := 6) rfl sc_law.nd rfl rfl (by decide) rfl rfl (pa_cons (pe_ca c_law_small hr (by decide) pass0 (pa_cons (pv 1) pa_nil)) (pa_cons (pe_ca c_law_small hr (by decide) pass0 (pa_cons (pv 1) pa_nil)) pa_nil)) rfl)
    (C8.pss_cut (ps_if (pt_cmpR op_eq (pe_ca c_law_draw hr (by decide) pass0 (pa_cons (pv 1) (pa_cons pe_int pa_nil))) pe_int (nomark _)) (pss_one (ps_set (i := 6) sc_law.nd rfl (Or.inl rfl) (pe_ifExp (pt_cmpR op_lt (pv 2) pe_int (nomark _)) (pe_ca c_law_wide hr (by decide) pass0 (pa_cons (pv 1) pa_nil)) (pe_ca c_law_low hr (by decide) pass0 (pa_cons (pe_op op_add pe_int (pe_ca c_law_draw hr (by decide) pass0 (pa_cons (pv 1) (pa_cons (pe_op op_pow pe_int pe_int) pa_nil)))) (pa_cons (pe_un un_neg pe_int) pa_nil)))))) pss_nil)
    (pss_cons (ps_par (i := 7) (j := 8) rfl sc_law.nd rfl rfl (by decide) rfl rfl (pa_cons (pe_make T.k_Row Ri.ok (hr.mono (by decide)) (by rfl) T.g_Row Ri.b .nil pass0 (pa_cons (pv 3) pa_nil)) (pa_cons (pe_make T.k_Row Ri.ok (hr.mono (by decide)) (by rfl) T.g_Row Ri.b .nil pass0 (pa_cons (pv 4) pa_nil)) pa_nil)) rfl)
    (pss_cons (ps_set (i := 9) sc_law.nd rfl (Or.inl rfl) (pe_ca c_row_power hr (by decide) passN (pa_cons (pv 7) (pa_cons (pv 6) pa_nil))))
    (pss_cons (ps_if (pw_or (pt_not (pt_val (pe_callB call_isi (by rfl) T.f_isinstance PyProof.Rows.Boot.«isinstance» (pa_cons (pv 9) (pa_cons (pe_gref (by rfl) T.g_Row) pa_nil))))) (pw_or (pt_not (pt_val (pe_ca c_law_power_so hr (by decide) pass0 (pa_cons (pe_meth0 (pv 9) T.c_Row T.m_numbers Rn.ok (hr.mono (by decide)) Rn.b .nil pass0) (pa_cons (pv 3) (pa_cons (pv 6) pa_nil)))))) (pw_or1 (pt_cmpR (op_neFL (hrU hr)) (pe_meth0 (pe_kw Fp (hr.mono (by decide)) (by rfl) gp kp bp passN (pk_cons (pv 6) (pk_cons (pv 7) pk_nil))) T.c_Row T.m_numbers Rn.ok (hr.mono (by decide)) Rn.b .nil pass0) (pe_meth0 (pv 9) T.c_Row T.m_numbers Rn.ok (hr.mono (by decide)) Rn.b .nil pass0) (nomark _))))).pt (pss_one (ps_ret pe_bl)) pss_nil)
    (pss_cons (ps_set (i := 10) sc_law.nd rfl (Or.inl rfl) (pe_ca c_row_log hr (by decide) passN (pa_cons (pv 7) pa_nil)))
    (pss_cons (ps_if (pw_or (pt_not (pt_val (pe_callB call_isi (by rfl) T.f_isinstance PyProof.Rows.Boot.«isinstance» (pa_cons (pv 10) (pa_cons (pe_gref (by rfl) T.g_Row) pa_nil))))) (pw_or (pt_not (pt_val (pe_ca c_law_log_so hr (by decide) pass0 (pa_cons (pe_meth0 (pv 10) T.c_Row T.m_numbers Rn.ok (hr.mono (by decide)) Rn.b .nil pass0) (pa_cons (pv 3) pa_nil))))) (pw_or1 (pt_cmpR (op_neFL (hrU hr)) (pe_meth0 (pe_kw Fl (hr.mono (by decide)) (by rfl) gl kl bl passN (pk_cons (pv 7) pk_nil)) T.c_Row T.m_numbers Rn.ok (hr.mono (by decide)) Rn.b .nil pass0) (pe_meth0 (pv 10) T.c_Row T.m_numbers Rn.ok (hr.mono (by decide)) Rn.b .nil pass0) (nomark _))))).pt (pss_one (ps_ret pe_bl)) pss_nil)
    (pss_cons (ps_if (pw_or (pt_cmpR (op_neFL (hrU hr)) (pe_meth0 (pe_meth (pv 10) T.c_Row T.m_scaled Rs.ok (hr.mono (by decide)) Rs.b .nil pass0 (pa_cons (pv 6) pa_nil)) T.c_Row T.m_numbers Rn.ok (hr.mono (by decide)) Rn.b .nil pass0) (pe_meth0 (pe_ca c_row_log hr (by decide) passN (pa_cons (pv 9) pa_nil)) T.c_Row T.m_numbers Rn.ok (hr.mono (by decide)) Rn.b .nil pass0) (nomark _)) (pw_or1 (pt_not (pt_val (pe_ca c_law_log_so hr (by decide) pass0 (pa_cons (pe_meth0 (pe_ca c_row_log hr (by decide) passN (pa_cons (pv 8) pa_nil)) T.c_Row T.m_numbers Rn.ok (hr.mono (by decide)) Rn.b .nil pass0) (pa_cons (pv 4) pa_nil))))))).pt (pss_one (ps_ret pe_bl)) pss_nil)
    (pss_cons (ps_if (pt_cmpR (op_neFL (hrU hr)) (pe_meth0 (pe_ca c_row_log hr (by decide) passN (pa_cons (pe_op (op_own T.sf T.o_mul.at_ T.o_mul.fn Rm.ok (hr.mono (by decide)) Rm.b pass0) (pv 7) (pv 8)) pa_nil)) T.c_Row T.m_numbers Rn.ok (hr.mono (by decide)) Rn.b .nil pass0) (pe_meth0 (pe_op (op_own T.sf T.o_add.at_ T.o_add.fn Ra.ok (hr.mono (by decide)) Ra.b pass0) (pv 10) (pe_ca c_row_log hr (by decide) passN (pa_cons (pv 8) pa_nil))) T.c_Row T.m_numbers Rn.ok (hr.mono (by decide)) Rn.b .nil pass0) (nomark _)) (pss_one (ps_ret pe_bl)) pss_nil)
    (pss_cons (ps_if (pt_cmpR (op_neFL (hrU hr)) (pe_meth0 (pe_ca c_row_power hr (by decide) passN (pa_cons (pe_op (op_own T.sf T.o_mul.at_ T.o_mul.fn Rm.ok (hr.mono (by decide)) Rm.b pass0) (pv 7) (pv 8)) (pa_cons (pv 5) pa_nil))) T.c_Row T.m_numbers Rn.ok (hr.mono (by decide)) Rn.b .nil pass0) (pe_meth0 (pe_op (op_own T.sf T.o_mul.at_ T.o_mul.fn Rm.ok (hr.mono (by decide)) Rm.b pass0) (pe_ca c_row_power hr (by decide) passN (pa_cons (pv 7) (pa_cons (pv 5) pa_nil))) (pe_ca c_row_power hr (by decide) passN (pa_cons (pv 8) (pa_cons (pv 5) pa_nil)))) T.c_Row T.m_numbers Rn.ok (hr.mono (by decide)) Rn.b .nil pass0) (nomark _)) (pss_one (ps_ret pe_bl)) pss_nil)
    (pss_cons (ps_set (i := 6) sc_law.nd rfl (Or.inl rfl) (pe_ca c_law_small hr (by decide) pass0 (pa_cons (pv 1) pa_nil)))
    (pss_cons (ps_if (pt_cmpR (op_neFL (hrU hr)) (pe_meth0 (pe_op (op_own T.sf T.o_mul.at_ T.o_mul.fn Rm.ok (hr.mono (by decide)) Rm.b pass0) (pe_ca c_row_power hr (by decide) passN (pa_cons (pv 7) (pa_cons (pv 5) pa_nil))) (pe_ca c_row_power hr (by decide) passN (pa_cons (pv 7) (pa_cons (pv 6) pa_nil)))) T.c_Row T.m_numbers Rn.ok (hr.mono (by decide)) Rn.b .nil pass0) (pe_meth0 (pe_ca c_row_power hr (by decide) passN (pa_cons (pv 7) (pa_cons (pe_ca c_law_add hr (by decide) pass0 (pa_cons (pv 5) (pa_cons (pv 6) pa_nil))) pa_nil))) T.c_Row T.m_numbers Rn.ok (hr.mono (by decide)) Rn.b .nil pass0) (nomark _)) (pss_one (ps_ret pe_bl)) pss_nil)
    (pss_cons (ps_if (pt_cmpR (op_neFL (hrU hr)) (pe_meth0 (pe_ca c_row_power hr (by decide) passN (pa_cons (pe_ca c_row_power hr (by decide) passN (pa_cons (pv 7) (pa_cons (pv 5) pa_nil))) (pa_cons (pv 6) pa_nil))) T.c_Row T.m_numbers Rn.ok (hr.mono (by decide)) Rn.b .nil pass0) (pe_meth0 (pe_ca c_row_power hr (by decide) passN (pa_cons (pv 7) (pa_cons (pe_ca c_law_mul hr (by decide) pass0 (pa_cons (pv 5) (pa_cons (pv 6) pa_nil))) pa_nil))) T.c_Row T.m_numbers Rn.ok (hr.mono (by decide)) Rn.b .nil pass0) (nomark _)) (pss_one (ps_ret pe_bl)) pss_nil)
    (pss_cons (ps_if (pw_or (pt_not (pt_val (pe_ca c_law_whole_so hr (by decide) pass0 (pa_cons (pv 1) (pa_cons (pv 3) pa_nil))))) (pw_or (pt_not (pt_val (pe_ca c_law_whole_so hr (by decide) pass0 (pa_cons (pv 1) (pa_cons (pv 4) pa_nil))))) (pw_or1 (pt_not (pt_val (pe_ca c_law_like hr (by decide) pass0 (pa_cons (pe_lst (pa_cons (pe_meth0 (pv 7) T.c_Row T.m_numbers Rn.ok (hr.mono (by decide)) Rn.b .nil pass0) (pa_cons (pe_meth0 (pv 8) T.c_Row T.m_numbers Rn.ok (hr.mono (by decide)) Rn.b .nil pass0) pa_nil))) (pa_cons (pe_lst (pa_cons (pv 3) (pa_cons (pv 4) pa_nil))) pa_nil)))))))).pt (pss_one (ps_ret pe_bl)) pss_nil)
    (pss_cons (ps_set (i := 11) sc_law.nd rfl (Or.inl rfl) (pe_ca c_law_of hr (by decide) pass0 (pa_cons (pv 1) (pa_cons (pe_lst (pa_cons (pe_tup (pa_cons pe_int (pa_cons pe_int pa_nil))) (pa_cons (pe_tup (pa_cons (pe_un un_neg pe_int) (pa_cons pe_int pa_nil))) (pa_cons (pe_tup (pa_cons pe_int (pa_cons pe_int pa_nil))) (pa_cons (pe_tup (pa_cons pe_int (pa_cons pe_int pa_nil))) (pa_cons (pe_ca c_law_number hr (by decide) pass0 (pa_cons (pv 1) pa_nil)) (pa_cons (pe_tup (pa_cons pe_int (pa_cons pe_int pa_nil))) pa_nil))))))) pa_nil))))
    (pss_cons (ps_set (i := 12) sc_law.nd rfl (Or.inl rfl) (pe_ca c_law_row hr (by decide) pass0 (pa_cons (pv 1) (pa_cons (pv 2) (pa_cons (pv 11) pa_nil)))))
    (pss_one (ps_ret (pe_and (pe_ca c_law_back_so hr (by decide) pass0 (pa_cons (pv 1) (pa_cons (pv 3) pa_nil))) (pe_and (pe_ca c_law_back_so hr (by decide) pass0 (pa_cons (pv 1) (pa_cons (pv 12) pa_nil))) (pe_and (pe_ca c_law_refused_so hr (by decide) pass0 (pa_cons (pv 1) (pa_cons (pv 12) pa_nil))) (pe_one (pe_ca c_law_refused_so hr (by decide) pass0 (pa_cons (pv 1) (pa_cons (pv 3) pa_nil)))))))))))))))))))))))))))), ?_⟩
  refine ⟨_, rfl, sa, ms, rfl, hs, fun b bn ns H1 e1 nb B1 => ?_⟩
  have tb1 := tb0.ext e1
  -- the size
  refine ⟨_, rfl, lenOk (by show 7 ≤ 1000; decide), fun t ht => ⟨b, bn, ns, t, _, rfl, bagU B1 ht, SqL.of upd_same, B1.fresh ht, by simp, by show 7 ≤ 1000; decide, fun i x H2 hx m2 => ?_⟩⟩
  have m2 := (Mv.of B1 (Ext.upd ht)).trans m2
  have tb2 := tabs_mv tb1 B1 m2.ext
  obtain ⟨n, rfl, n2, n8⟩ : ∃ n : Nat, x = .int (n : Int) ∧ 2 ≤ n ∧ n ≤ 8 := by
    have := List.mem_of_getElem? hx
    simp only [List.mem_cons, List.not_mem_nil, or_false] at this
    rcases this with rfl | rfl | rfl | rfl | rfl | rfl | rfl
    · exact ⟨2, rfl, by decide, by decide⟩
    · exact ⟨3, rfl, by decide, by decide⟩
    · exact ⟨4, rfl, by decide, by decide⟩
    · exact ⟨5, rfl, by decide, by decide⟩
    · exact ⟨6, rfl, by decide, by decide⟩
    · exact ⟨7, rfl, by decide, by decide⟩
    · exact ⟨8, rfl, by decide, by decide⟩
  -- the rows
  refine ⟨_, rfl, _, rfl, lenOk (by show 2 ≤ 1000; decide), fun t1 ht1 => ?_⟩
  have B2 := m2.bag
  have f1 : Fr K (upd H2 t1 (.tup [V.int 1, V.int 1])) (.ref t1) 1 := whole_fr upd_same rfl
  refine ⟨b, bn, ns, .ref t1, 1, n, rfl, B2.ext (Ext.upd ht1), f1, numB_1, by omega, by omega, fun a l H3 m3 na fa ln l0 lb => ?_⟩
  have m3 := (Mv.of B2 (Ext.upd ht1)).trans m3
  have tb3 := tabs_mv tb2 B2 m3.ext
  have B3 := m3.bag
  refine ⟨_, rfl, _, rfl, lenOk (by show 2 ≤ 1000; decide), fun t2 ht2 => ?_⟩
  have f2 : Fr K (upd H3 t2 (.tup [V.int 1, V.int 1])) (.ref t2) 1 := whole_fr upd_same rfl
  refine ⟨b, bn, ns, .ref t2, 1, n, rfl, B3.ext (Ext.upd ht2), f2, numB_1, by omega, by omega, fun a2 m H4 m4 na2 fm mn m0 mb => ⟨_, _, rfl, ?_⟩⟩
  have m4 := (Mv.of B3 (Ext.upd ht2)).trans m4
  have tb4 := tabs_mv tb3 B3 m4.ext
  have fa4 := fa.mv B3 m4.ext
  have bl : Bn l 3 23 := bn_of ln n8 lb
  have bm : Bn m 3 23 := bn_of mn n8 mb
  -- s, c
  refine ⟨_, rfl, b, bn, ns, rfl, m4.bag, fun sv s H5 fs5 ss m5 => ?_⟩
  refine ⟨_, rfl, b, bn, ns, rfl, m5.bag, fun cv c H6 fc6 sc m6 => ⟨_, _, rfl, ?_⟩⟩
  have m56 := m5.trans m6
  have G6 : LG0 K b bn ns a a2 l m sv cv s c H6 := ⟨m6.bag, tabs_mv tb4 m4.bag m56.ext, fa4.mv m4.bag m56.ext, fm.mv m4.bag m56.ext, fs5.mv m5.bag m6.ext, fc6⟩
  have hl9 : l.length ≤ 9 := by omega
  have hm9 : m.length ≤ 9 := by omega
  refine ⟨fun σ H' => ∃ cv c, σ = [some (.ref sa), some (.ref b), some (.int (n : Int)), some (.ref a), some (.ref a2), some sv, some cv, none, none, none, none, none, none] ∧ Tb c ∧ Bn (powL c l) 990 9000 ∧ LG0 K b bn ns a a2 l m sv cv s c H', ?_, fun σ H7 z => ?_⟩
  · refine ⟨_, rfl, b, bn, ns, 6, rfl, G6.B, by decide, by decide, fun d H7 d0 d1 m7 => ⟨rfl, _, rfl, ?_⟩⟩
    have G7 := G6.mv m7
    by_cases dz : d = 0
    · rw [show decide (V.int d = V.int 0) = true from decide_eq_true (by rw [dz])]
      refine iteT ⟨_, rfl, _, _, rfl, rfl, _, rfl, ?_⟩
      by_cases n5 : (n : Int) < 5
      · rw [decide_eq_true n5]
        refine iteT ⟨_, rfl, b, bn, ns, rfl, G7.B, fun v q H8 fv sq m8 => ?_⟩
        have G8 := G7.mv m8
        exact ⟨v, q, rfl, sq.mono (by omega) (by omega), bn_pow_wide bl (by omega) sq, G8.B, G8.tb, G8.fa, G8.fb, G8.fs, fv⟩
      · rw [decide_eq_false n5]
        refine iteF ⟨_, rfl, _, _, rfl, rfl, ⟨by decide, by decide, by decide⟩, ?_⟩
        refine ⟨b, bn, ns, _, rfl, G7.B, by decide, by decide, fun p H8 p0 p1 m8 => ⟨_, _, rfl, rfl, _, rfl, ?_⟩⟩
        have G8 := G7.mv m8
        have e6 : (10 : Int) ^ (6 : Int).toNat = 1000000 := by decide
        rw [e6] at p1
        have e3 : (2 : Nat) ^ 8 = 256 := rfl
        have e20 : (2 : Nat) ^ 20 = 1048576 := rfl
        have s7 : Sz (-7) 8 := by unfold Sz; decide
        have sp : Sz (1 + p) 20 := by unfold Sz; omega
        refine ⟨_, _, rfl, by decide, s7.mono (by omega), fun v H9 e9 fv => ?_⟩
        have sq : Sq 8 20 (Rat.divInt (1 + p) (-7)) := divInt_sq (by decide) s7 sp
        have G9 := G8.ext e9
        exact ⟨v, _, rfl, sq.mono (by omega) (by omega), bn_pow_small bl hl9 sq, G9.B, G9.tb, G9.fa, G9.fb, G9.fs, fv⟩
    · rw [show decide (V.int d = V.int 0) = false from decide_eq_false fun z => dz (V.int.inj z)]
      exact iteF ⟨cv, c, rfl, sc.mono (by omega) (by omega), bn_pow_small bl hl9 (sc.mono (by omega) (by omega)), G7⟩
  obtain ⟨cv, c, rfl, tc, bpc, G7⟩ := z
  have ol : Ok l := bl.ok
  have om : Ok m := bm.ok
  have opc : Ok (powL c l) := bpc.ok
  have ml : m.length = l.length := by omega
  -- u, w
  refine ⟨_, rfl, fun y d hy hd hne => ⟨y, d, a, l, rfl, upd_same, (G7.fa.ext (Ext.upd hd)).ext (Ext.upd (by rw [upd_ne hne.symm]; exact hy)), by omega, by omega, fun H8 e8 ru => ⟨rfl, ?_⟩⟩⟩
  have eu := ext_made hy hd e8
  have G8 := G7.ext eu
  refine ⟨_, rfl, fun z d2 hz hd2 hne2 => ⟨z, d2, a2, m, rfl, upd_same, (G8.fb.ext (Ext.upd hd2)).ext (Ext.upd (by rw [upd_ne hne2.symm]; exact hz)), by omega, by omega, fun H9 e9 rw9 => ⟨rfl, _, _, rfl, ?_⟩⟩⟩
  have ew := ext_made hz hd2 e9
  have G9 : LG K b bn ns a a2 l m sv cv s c y z H9 := ⟨G8.ext ew, ru.ext ew, rw9⟩
  -- told
  refine ⟨_, rfl, _, rfl, y, cv, l, rfl, G9.ru, .inl ⟨l0, c, G9.fc, ol, opc, tc, fun v H10 e10 _ rt => ?_⟩⟩
  have G10 := G9.ext e10
  obtain ⟨dx, cx, gx, hin, _⟩ := id rt
  refine ⟨_, rfl, .ref v, .ref (cRow K), .ref (cRow K), .ref (cRow K), true, rfl, .own _, .base (.ins hin T.c_Row T.i_Row.ha T.hn T.htk T.i_Row.hm), T.ii_Row, _, rfl, iteF ?_⟩
  refine ⟨_, rfl, v, dx, _, rfl, hin, rfl, v, _, rfl, rt, fun w1 H11 e11 _ f11 => ?_⟩
  have G11 := G10.ext e11
  refine ⟨_, rfl, _, rfl, w1, a, cv, l, c, rfl, f11, G11.fa, G11.fc, by omega, l0, tc, bl, bpc, fun H12 e12 => ⟨_, rfl, iteF ?_⟩⟩
  have G12 := G11.ext e12
  refine ⟨_, rfl, _, rfl, y, cv, l, rfl, G12.ru, .inl ⟨l0, c, G12.fc, ol, opc, tc, fun v2 H13 e13 _ r13 => ?_⟩⟩
  obtain ⟨dx2, cx2, gx2, hin2, _⟩ := id r13
  have rt13 := rt.ext (e11.trans (e12.trans e13))
  obtain ⟨dx3, cx3, gx3, hin3, _⟩ := id rt13
  refine ⟨v2, dx2, _, rfl, hin2, rfl, v2, _, rfl, r13, fun w2 H14 e14 _ f14 => ?_⟩
  have rt14 := rt13.ext e14
  have hin4 := e14 _ _ hin3
  refine ⟨_, rfl, v, dx3, _, rfl, hin4, rfl, v, _, rfl, rt14, fun w3 H15 e15 _ f15 => ?_⟩
  refine ⟨w2, w3, _, _, rfl, rfl, f14.ext e15, f15, _, rfl, ?_⟩
  rw [neFL rfl]
  have G15 := G12.ext (e13.trans (e14.trans e15))
  have rt15 := rt14.ext e15
  -- log
  have blog : Bn (logL l) 56 288 := bn_log_small bl hl9
  have olog : Ok (logL l) := blog.ok
  refine iteF ⟨_, rfl, y, l, rfl, G15.ru, .inl ⟨l0, ol, olog, fun v5 H16 e16 _ rg => ?_⟩⟩
  have G16 := G15.ext e16
  have rt16 := rt15.ext e16
  obtain ⟨dg, cg, gg, hg, _⟩ := id rg
  refine ⟨_, rfl, .ref v5, .ref (cRow K), .ref (cRow K), .ref (cRow K), true, rfl, .own _, .base (.ins hg T.c_Row T.i_Row.ha T.hn T.htk T.i_Row.hm), T.ii_Row, _, rfl, iteF ?_⟩
  refine ⟨_, rfl, v5, dg, _, rfl, hg, rfl, v5, _, rfl, rg, fun w6 H17 e17 _ f17 => ?_⟩
  have G17 := G16.ext e17
  refine ⟨_, rfl, w6, a, l, rfl, f17, G17.fa, by omega, l0, bl, blog.mono, fun H18 e18 => ⟨_, rfl, iteF ?_⟩⟩
  have G18 := G17.ext e18
  refine ⟨_, rfl, y, l, rfl, G18.ru, .inl ⟨l0, ol, olog, fun v7 H19 e19 _ r19 => ?_⟩⟩
  obtain ⟨dh, ch, gh, hh, _⟩ := id r19
  refine ⟨v7, dh, _, rfl, hh, rfl, v7, _, rfl, r19, fun w8 H20 e20 _ f20 => ?_⟩
  have rg20 := rg.ext (e17.trans (e18.trans (e19.trans e20)))
  obtain ⟨dg2, cg2, gg2, hg2, _⟩ := id rg20
  refine ⟨_, rfl, v5, dg2, _, rfl, hg2, rfl, v5, _, rfl, rg20, fun w9 H21 e21 _ f21 => ?_⟩
  refine ⟨w8, w9, _, _, rfl, rfl, f20.ext e21, f21, _, rfl, ?_⟩
  rw [neFL rfl]
  have e1621 := e17.trans (e18.trans (e19.trans (e20.trans e21)))
  have G21 := G16.ext e1621
  have rt21 := rt16.ext e1621
  have rg21 := rg20.ext e21
  -- scaled log, log of the power
  have lp : sclL c (logL l) = logL (powL c l) := log_pow (by omega) l0
  have oscl : Bn (sclL c (logL l)) 356 588 := blog.scl tc
  have plen : (powL c l).length = l.length := powL_len c l
  have p0 : (powL c l).getD 0 0 = 1 := c0_pow (l := l) (by omega) l0
  obtain ⟨dg3, cg3, gg3, hg3, _⟩ := id rg21
  refine iteF ⟨_, rfl, v5, dg3, _, rfl, hg3, rfl, _, rfl, v5, cv, _, c, rfl, rg21, G21.fc, olog, tc.mono (by omega) (by omega), fun v10 H22 e22 _ r22 => ?_⟩
  obtain ⟨di, ci, gi, hi, _⟩ := id r22
  refine ⟨v10, di, _, rfl, hi, rfl, v10, _, rfl, r22, fun w11 H23 e23 _ f23 => ?_⟩
  have e2123 := e22.trans e23
  have rt23 := rt21.ext e2123
  refine ⟨_, rfl, v, _, rfl, rt23, .inl ⟨p0, opc, by rw [← lp]; exact oscl.ok, fun v12 H24 e24 _ r24 => ?_⟩⟩
  obtain ⟨dj, cj, gj, hj, _⟩ := id r24
  refine ⟨v12, dj, _, rfl, hj, rfl, v12, _, rfl, r24, fun w13 H25 e25 _ f25 => ?_⟩
  refine ⟨w11, w13, _, _, rfl, rfl, f23.ext (e24.trans e25), f25, _, rfl, ?_⟩
  rw [neFL lp]
  have G25 := G21.ext (e2123.trans (e24.trans e25))
  have rg25 := rg21.ext (e2123.trans (e24.trans e25))
  have bmlog : Bn (logL m) 56 288 := bn_log_small bm hm9
  have omlog : Ok (logL m) := bmlog.ok
  refine iteF ⟨_, rfl, z, m, rfl, G25.rw_, .inl ⟨m0, om, omlog, fun v14 H26 e26 _ r26 => ?_⟩⟩
  obtain ⟨dk, ck, gk, hk, _⟩ := id r26
  refine ⟨v14, dk, _, rfl, hk, rfl, v14, _, rfl, r26, fun w15 H27 e27 _ f27 => ?_⟩
  have G27 := G25.ext (e26.trans e27)
  refine ⟨_, rfl, w15, a2, m, rfl, f27, G27.fb, by omega, m0, bm, bmlog.mono, fun H28 e28 => ⟨_, rfl, iteF ?_⟩⟩
  have G28 := G27.ext e28
  have rg28 := rg25.ext (e26.trans (e27.trans e28))
  -- the log of the product
  have bpr : Bn (mulL l m) 6 50 := bl.mul bm ml
  have opr : Ok (mulL l m) := bpr.ok
  have pr9 : (mulL l m).length ≤ 9 := by rw [mulL_len]; exact hl9
  have pr0 : (mulL l m).getD 0 0 = 1 := c0_mul (l := l) (m := m) (by omega) l0 m0
  have bprl : Bn (logL (mulL l m)) 80 528 := bn_log_small bpr pr9
  obtain ⟨du, cu, gu, hu, _⟩ := id G28.ru
  obtain ⟨dw, cw, gw, hw, _⟩ := id G28.rw_
  refine ⟨_, rfl, _, rfl, y, z, du, _, dw, _, rfl, rfl, hu, hw, y, z, l, m, rfl, G28.ru, G28.rw_, ml, ol, om, fun v30 H30 e30 _ r30 => ?_⟩
  refine ⟨v30, _, rfl, r30, .inl ⟨pr0, opr, bprl.ok, fun v31 H31 e31 _ r31 => ?_⟩⟩
  obtain ⟨d31, c31, g31, h31, _⟩ := id r31
  refine ⟨v31, d31, _, rfl, h31, rfl, v31, _, rfl, r31, fun w32 H32 e32 _ f32 => ?_⟩
  have e2832 := e30.trans (e31.trans e32)
  have G32 := G28.ext e2832
  have rg32 := rg28.ext e2832
  refine ⟨_, rfl, _, rfl, z, m, rfl, G32.rw_, .inl ⟨m0, om, omlog, fun v33 H33 e33 _ r33 => ?_⟩⟩
  have rg33 := rg32.ext e33
  obtain ⟨dl, cl, gl2, hl2, _⟩ := id rg33
  obtain ⟨d33, c33, g33, h33, _⟩ := id r33
  refine ⟨v5, v33, dl, _, d33, _, rfl, rfl, hl2, h33, v5, v33, _, _, rfl, rg33, r33, by rw [logL_len, logL_len]; exact ml, olog, omlog, fun v34 H34 e34 _ r34 => ?_⟩
  obtain ⟨d34, c34, g34, h34, _⟩ := id r34
  refine ⟨v34, d34, _, rfl, h34, rfl, v34, _, rfl, r34, fun w35 H35 e35 _ f35 => ?_⟩
  have e3235 := e33.trans (e34.trans e35)
  refine ⟨w32, w35, _, _, rfl, rfl, f32.ext e3235, f35, _, rfl, ?_⟩
  rw [neFL (log_mul ml l0 m0)]
  have G35 := G32.ext e3235
  -- the power of the product
  have ss8 : Sq 8 20 s := ss.mono (by omega) (by omega)
  have ts : Tb s := ss.mono (by omega) (by omega)
  have bprs := bn_pow_m bpr pr9 ss8
  have bps : Bn (powL s l) 990 9000 := bn_pow_small bl hl9 ss8
  have bms : Bn (powL s m) 990 9000 := bn_pow_small bm hm9 ss8
  obtain ⟨du2, cu2, gu2, hu2, _⟩ := id G35.ru
  obtain ⟨dw2, cw2, gw2, hw2, _⟩ := id G35.rw_
  refine iteF ⟨_, rfl, _, rfl, y, z, du2, _, dw2, _, rfl, rfl, hu2, hw2, y, z, l, m, rfl, G35.ru, G35.rw_, ml, ol, om, fun v36 H36 e36 _ r36 => ?_⟩
  have G36 := G35.ext e36
  refine ⟨_, rfl, v36, sv, _, rfl, r36, .inl ⟨pr0, s, G36.fs, opr, bprs.ok, ts, fun v37 H37 e37 _ r37 => ?_⟩⟩
  obtain ⟨d37, c37, g37, h37, _⟩ := id r37
  refine ⟨v37, d37, _, rfl, h37, rfl, v37, _, rfl, r37, fun w38 H38 e38 _ f38 => ?_⟩
  have G38 := G36.ext (e37.trans e38)
  refine ⟨_, rfl, _, rfl, y, sv, l, rfl, G38.ru, .inl ⟨l0, s, G38.fs, ol, bps.ok, ts, fun v39 H39 e39 _ r39 => ?_⟩⟩
  have G39 := G38.ext e39
  refine ⟨_, rfl, _, rfl, z, sv, m, rfl, G39.rw_, .inl ⟨m0, s, G39.fs, om, bms.ok, ts, fun v40 H40 e40 _ r40 => ?_⟩⟩
  have r39' := r39.ext e40
  obtain ⟨d39, c39, g39, h39, _⟩ := id r39'
  obtain ⟨d40, c40, g40, h40, _⟩ := id r40
  refine ⟨v39, v40, d39, _, d40, _, rfl, rfl, h39, h40, v39, v40, _, _, rfl, r39', r40, by rw [powL_len, powL_len]; exact ml, bps.ok, bms.ok, fun v41 H41 e41 _ r41 => ?_⟩
  obtain ⟨d41, c41, g41, h41, _⟩ := id r41
  refine ⟨v41, d41, _, rfl, h41, rfl, v41, _, rfl, r41, fun w42 H42 e42 _ f42 => ?_⟩
  have e3842 := e39.trans (e40.trans (e41.trans e42))
  refine ⟨w38, w42, _, _, rfl, rfl, f38.ext e3842, f42, _, rfl, ?_⟩
  rw [neFL (pow_mulL ml l0 m0)]
  have G42 := G38.ext e3842
  -- another c
  refine iteF ⟨_, rfl, b, bn, ns, rfl, G42.B, fun cv2 k H43 fk43 sk m43 => ?_⟩
  have G43 := G42.mv m43
  have sk8 : Sq 8 20 k := sk.mono (by omega) (by omega)
  have tk : Tb k := sk.mono (by omega) (by omega)
  have bpk : Bn (powL k l) 990 9000 := bn_pow_small bl hl9 sk8
  have ssm : Sm s := ss.mono (by omega) (by omega)
  have skm : Sm k := sk.mono (by omega) (by omega)
  -- u^s u^c
  refine ⟨_, rfl, _, rfl, y, sv, l, rfl, G43.ru, .inl ⟨l0, s, G43.fs, ol, bps.ok, ts, fun v44 H44 e44 _ r44 => ?_⟩⟩
  have G44 := G43.ext e44
  refine ⟨_, rfl, _, rfl, y, cv2, l, rfl, G44.ru, .inl ⟨l0, k, fk43.ext e44, ol, bpk.ok, tk, fun v45 H45 e45 _ r45 => ?_⟩⟩
  have r44' := r44.ext e45
  obtain ⟨d44, c44, g44, h44, _⟩ := id r44'
  obtain ⟨d45, c45, g45, h45, _⟩ := id r45
  refine ⟨v44, v45, d44, _, d45, _, rfl, rfl, h44, h45, v44, v45, _, _, rfl, r44', r45, by rw [powL_len, powL_len], bps.ok, bpk.ok, fun v46 H46 e46 _ r46 => ?_⟩
  obtain ⟨d46, c46, g46, h46, _⟩ := id r46
  refine ⟨v46, d46, _, rfl, h46, rfl, v46, _, rfl, r46, fun w47 H47 e47 _ f47 => ?_⟩
  have e4347 := e44.trans (e45.trans (e46.trans e47))
  have G47 := G43.ext e4347
  have fk47 := fk43.ext e4347
  have sqa := sq_add ss sk
  refine ⟨_, rfl, _, rfl, _, rfl, sv, cv2, s, k, rfl, G47.fs, fk47, ssm, skm, fun av H48 e48 fav => ?_⟩
  have G48 := G47.ext e48
  refine ⟨y, av, l, rfl, G48.ru, .inl ⟨l0, s + k, fav, ol, (bn_pow_small bl hl9 sqa).ok, sqa.mono (by omega) (by omega), fun v49 H49 e49 _ r49 => ?_⟩⟩
  obtain ⟨d49, c49, g49, h49, _⟩ := id r49
  refine ⟨v49, d49, _, rfl, h49, rfl, v49, _, rfl, r49, fun w50 H50 e50 _ f50 => ?_⟩
  have e4750 := e48.trans (e49.trans e50)
  refine ⟨w47, w50, _, _, rfl, rfl, f47.ext e4750, f50, _, rfl, ?_⟩
  rw [neFL (pow_addL l0)]
  have G50 := G47.ext e4750
  have fk50 := fk47.ext e4750
  -- (u^s)^c
  have sqm := sq_mul ss sk
  have ps0 : (powL s l).getD 0 0 = 1 := c0_pow (l := l) (by omega) l0
  have bpm : Bn (powL (s * k) l) 990 9000 := bn_pow_small bl hl9 sqm
  refine iteF ⟨_, rfl, _, rfl, y, sv, l, rfl, G50.ru, .inl ⟨l0, s, G50.fs, ol, bps.ok, ts, fun v51 H51 e51 _ r51 => ?_⟩⟩
  have G51 := G50.ext e51
  refine ⟨_, rfl, v51, cv2, _, rfl, r51, .inl ⟨ps0, k, fk50.ext e51, bps.ok, by rw [pow_powL l0]; exact bpm.ok, tk, fun v52 H52 e52 _ r52 => ?_⟩⟩
  obtain ⟨d52, c52, g52, h52, _⟩ := id r52
  refine ⟨v52, d52, _, rfl, h52, rfl, v52, _, rfl, r52, fun w53 H53 e53 _ f53 => ?_⟩
  have e5153 := e52.trans e53
  have G53 := G51.ext e5153
  have fk53 := (fk50.ext e51).ext e5153
  refine ⟨_, rfl, _, rfl, _, rfl, sv, cv2, s, k, rfl, G53.fs, fk53, ssm, skm, fun av2 H54 e54 fav2 => ?_⟩
  have G54 := G53.ext e54
  refine ⟨y, av2, l, rfl, G54.ru, .inl ⟨l0, s * k, fav2, ol, bpm.ok, sqm.mono (by omega) (by omega), fun v55 H55 e55 _ r55 => ?_⟩⟩
  obtain ⟨d55, c55, g55, h55, _⟩ := id r55
  refine ⟨v55, d55, _, rfl, h55, rfl, v55, _, rfl, r55, fun w56 H56 e56 _ f56 => ?_⟩
  have e5356 := e54.trans (e55.trans e56)
  refine ⟨w53, w56, _, _, rfl, rfl, f53.ext e5356, f56, _, rfl, ?_⟩
  rw [neFL (pow_powL l0)]
  have G56 := G53.ext e5356
  -- whole powers
  refine iteF ⟨_, rfl, _, rfl, b, bn, ns, a, l, rfl, G56.B, G56.fa, by omega, hl9, l0, bl, fun H57 m57 => ⟨_, rfl, iteF ?_⟩⟩
  have G57 := G56.mv m57
  refine ⟨_, rfl, _, rfl, b, bn, ns, a2, m, rfl, G57.B, G57.fb, by omega, hm9, m0, bm, fun H58 m58 => ⟨_, rfl, iteF ?_⟩⟩
  have G58 := G57.mv m58
  obtain ⟨du3, cu3, gu3, hu3, _⟩ := id G58.ru
  refine ⟨_, rfl, y, du3, _, rfl, hu3, rfl, y, l, rfl, G58.ru, fun w59 H59 e59 _ f59 => ?_⟩
  have G59 := G58.ext e59
  obtain ⟨dw3, cw3, gw3, hw3, _⟩ := id G59.rw_
  refine ⟨_, rfl, z, dw3, _, rfl, hw3, rfl, z, m, rfl, G59.rw_, fun w60 H60 e60 _ f60 => ⟨lenOk (by show 2 ≤ 1000; decide), fun p1 hp1 => ?_⟩⟩
  have g1 := Ext.upd (o := .lst [V.ref w59, V.ref w60]) hp1
  refine ⟨_, rfl, _, rfl, lenOk (by show 2 ≤ 1000; decide), fun p2 hp2 => ?_⟩
  have g2 := Ext.upd (o := .lst [V.ref a, V.ref a2]) hp2
  have g12 := g1.trans g2
  have G60 := (G59.ext e60).ext g12
  have dep2 : (PT.lst [ptL l, ptL m]).dep < 6 := by
    have h1 := dep_L l
    have h2 := dep_L m
    rw [PT.dep, PT.deps, PT.deps, PT.deps]
    omega
  have l1000 : l.length ≤ 1000 := by omega
  have m1000 : m.length ≤ 1000 := by omega
  refine ⟨.ref p1, .ref p2, .lst [ptL l, ptL m], rfl, dep2, .lst (by show 2 ≤ 1000; decide) (SqL.of (g2 _ _ upd_same)) (.cons ((f59.ext (e60.trans g12)).dd l1000) (.cons ((f60.ext g12).dd m1000) .nil)), .lst (by show 2 ≤ 1000; decide) (SqL.of upd_same) (.cons (G60.fa.dd l1000) (.cons (G60.fb.dd m1000) .nil)), fun H61 e61 => ⟨_, rfl, iteF ?_⟩⟩
  have G61 := G60.ext e61
  -- the other first number
  refine ⟨_, rfl, lenOk (by show 2 ≤ 1000; decide), fun k1 hk1 => ⟨_, rfl, lenOk (by show 2 ≤ 1000; decide), fun k2 hk2 => ⟨lenOk (by show 2 ≤ 1000; decide), fun k3 hk3 => ⟨lenOk (by show 2 ≤ 1000; decide), fun k4 hk4 => ?_⟩⟩⟩⟩
  have j1 := Ext.upd (o := .tup [V.int 0, V.int 1]) hk1
  have j2 := Ext.upd (o := .tup [V.int (-1), V.int 1]) hk2
  have j3 := Ext.upd (o := .tup [V.int 2, V.int 1]) hk3
  have j4 := Ext.upd (o := .tup [V.int 1, V.int 2]) hk4
  have j14 := j1.trans (j2.trans (j3.trans j4))
  have G62 := G61.ext j14
  have q1 := (whole_fr (K := K) (H := upd H61 k1 (.tup [V.int 0, V.int 1])) (p := k1) (n := 0) (q := 0) upd_same rfl).ext (j2.trans (j3.trans j4))
  have q2 := (whole_fr (K := K) (H := upd (upd H61 k1 (.tup [V.int 0, V.int 1])) k2 (.tup [V.int (-1), V.int 1])) (p := k2) (n := -1) (q := ((-1 : Int) : Rat)) upd_same rfl).ext (j3.trans j4)
  have q3 := (whole_fr (K := K) (H := upd (upd (upd H61 k1 (.tup [V.int 0, V.int 1])) k2 (.tup [V.int (-1), V.int 1])) k3 (.tup [V.int 2, V.int 1])) (p := k3) (n := 2) (q := ((2 : Int) : Rat)) upd_same rfl).ext j4
  have q4 : Fr K (upd (upd (upd (upd H61 k1 (.tup [V.int 0, V.int 1])) k2 (.tup [V.int (-1), V.int 1])) k3 (.tup [V.int 2, V.int 1])) k4 (.tup [V.int 1, V.int 2])) (.ref k4) (Rat.divInt 1 2) := Fr.of upd_same (by rw [divInt_num (by decide)]; rfl) (by rw [divInt_den (by decide)]; rfl)
  refine ⟨_, rfl, b, bn, ns, rfl, G62.B, fun nv q5 H63 f63 nb5 m63 => ⟨lenOk (by show 2 ≤ 1000; decide), fun k6 hk6 => ⟨lenOk (by show 6 ≤ 1000; decide), fun t6 ht6 => ?_⟩⟩⟩
  have G63 := G62.mv m63
  have j6 := Ext.upd (o := .tup [V.int 1, V.int 1]) hk6
  have j7 := Ext.upd (o := .lst [V.ref k1, V.ref k2, V.ref k3, V.ref k4, nv, V.ref k6]) ht6
  have q6 := (whole_fr (K := K) (H := upd H63 k6 (.tup [V.int 1, V.int 1])) (p := k6) (n := 1) (q := 1) upd_same rfl).ext j7
  have j67 := j6.trans j7
  have G64 := G63.ext j67
  have all6 : ∀ x ∈ [V.ref k1, V.ref k2, V.ref k3, V.ref k4, nv, V.ref k6], ∃ q, Fr K (upd (upd H63 k6 (.tup [V.int 1, V.int 1])) t6 (.lst [V.ref k1, V.ref k2, V.ref k3, V.ref k4, nv, V.ref k6])) x q ∧ NumB q := fun x hx => by
    simp only [List.mem_cons, List.not_mem_nil, or_false] at hx
    rcases hx with rfl | rfl | rfl | rfl | rfl | rfl
    · exact ⟨_, (q1.mv G62.B m63.ext).ext j67, numB_0⟩
    · exact ⟨_, (q2.mv G62.B m63.ext).ext j67, ((Bz.int (-1)).up 6).mono (by decide)⟩
    · exact ⟨_, (q3.mv G62.B m63.ext).ext j67, ((Bz.int 2).up 6).mono (by decide)⟩
    · exact ⟨_, (q4.mv G62.B m63.ext).ext j67, numB_of (.inr (.inl rfl)) (by decide)⟩
    · exact ⟨_, f63.ext j67, nb5⟩
    · exact ⟨_, q6, numB_1⟩
  refine ⟨b, bn, ns, t6, _, rfl, G64.B, SqL.of upd_same, (G63.ext j6).B.fresh ht6, by simp, by show 6 ≤ 1000; decide, fun i7 fv H65 hi7 m65 => ?_⟩
  obtain ⟨f, ff64, nbf⟩ := all6 fv (List.mem_of_getElem? hi7)
  have ff := ff64.mv G64.B m65.ext
  have G65 := G64.mv m65
  refine ⟨_, rfl, _, rfl, _, rfl, b, bn, ns, fv, f, n, rfl, G65.B, ff, nbf, by omega, by omega, fun ad ld H66 m66 _ fd ldn _ ldb => ?_⟩
  have G66 := G65.mv m66
  have bd : Bn ld 3 23 := bn_of ldn n8 ldb
  have hd9 : ld.length ≤ 9 := by omega
  -- there and back; refused
  refine ⟨_, rfl, _, rfl, b, bn, ns, a, l, rfl, G66.B, G66.tb, G66.fa, by omega, hl9, bl, fun H67 m67 => ⟨_, rfl, iteT ?_⟩⟩
  have fd67 := fd.mn G66.B m67
  have fa67 := G66.fa.mn G66.B m67
  refine ⟨_, rfl, _, rfl, b, bn, ns, ad, ld, rfl, m67.bag, m67.tabs, fd67, by omega, hd9, bd, fun H68 m68 => ⟨_, rfl, iteT ?_⟩⟩
  have fd68 := fd67.mn m67.bag m68
  have fa68 := fa67.mn m67.bag m68
  refine ⟨_, rfl, _, rfl, b, bn, ns, ad, ld, rfl, m68.bag, m68.tabs, fd68, by omega, hd9, bd, fun H69 m69 => ⟨_, rfl, iteT ?_⟩⟩
  have fa69 := fa68.mn m68.bag m69
  exact ⟨_, rfl, _, rfl, b, bn, ns, a, l, rfl, m69.bag, m69.tabs, fa69, by omega, hl9, bl, fun H70 m70 => hq H70⟩
end
end K4
end
section
set_option Elab.async false
set_option linter.all false
set_option maxRecDepth 100000
set_option maxHeartbeats 0
/-! That what is looked at gives what the walks ask. -/
namespace K4
open PySem PySem.Spec PyProof.Rows L2 K04

theorem cread4 {K : Frag} {C : Addr} (h : PySem.W.readsIn K C (.type "type") = true) : ClX.CRead K C (.type "type") := by
  refine ⟨h, ?_⟩
  unfold PySem.W.readsIn at h
  simp only [Bool.and_eq_true, beq_iff_eq] at h
  obtain ⟨⟨⟨⟨_, h2⟩, h3⟩, _⟩, _⟩ := h
  unfold PySem.W.specialIn
  rw [h2]
  exact h3
theorem smet_of {K : Frag} {C : Addr} {m : Str} (h : PySem.W.readsIn K C (.type "type") = true) (w : He5.wrapB K C "staticmethod" "staticmethod.__get__" m = true) (k : PySem.W.keepIn K (.ref (He5.wf K C "staticmethod" m)) = true) : SMet K C m (He.ma K C m) (He5.wf K C "staticmethod" m) := by
  obtain ⟨h1, h2⟩ := He5.wrapB_ok w
  exact ⟨cread4 h, h1, h2, k⟩
theorem refs_of : ∀ l : List Value, PySem.W.excTail PySem.HandSPX.veTail l = true → PySem.HandSPX.refsVE l = true := fun l => by
  induction l with
  | nil => exact fun h => h
  | cons v r ih => cases v with
    | ref a => exact fun h => ih h
    | _ => exact fun h => h
theorem oex_cls {K : Frag} {C : Addr} (q : PySem.W.excInitIn K C PySem.HandSPX.veTail "ValueError.__new__" = true) (d : PySem.W.hasDictIn K C = true) :
    ∃ nm q N bs bm sn sub ab col dd k0 k1 k2 k3 k5, K.lookup C = some (PySem.excClassObj nm q C N bs bm true sn sub ab col dd k0 k1 k2 k3 k5 "ValueError.__new__") ∧ PySem.HandSPX.refsVE bm = true := by
  unfold PySem.W.excInitIn at q
  split at q
  · rename_i dd cd sl ho
    have d2 : cd.hasDict = true := by
      unfold PySem.W.hasDictIn PySem.W.clsIn at d
      rw [ho] at d
      exact d
    split at q
    · rename_i C2 bm k0 k1 k2 k3 n k5 hm hs
      simp only [Bool.and_eq_true, beq_iff_eq, Bool.not_eq_true'] at q
      obtain ⟨⟨⟨rfl, rfl⟩, hdel⟩, ht⟩ := q
      obtain ⟨nm, bs, mro, ns, qn, hd, sn, sub, ab, col, del⟩ := cd
      dsimp only at hm hdel d2
      subst hm hdel d2
      obtain ⟨l⟩ := sl
      simp only at hs
      subst hs
      exact ⟨nm, qn, ns, bs, bm, sn, sub, ab, col, dd, k0, k1, k2, k3, k5, ho, refs_of _ ht⟩
    · cases q
  · cases q
theorem errC_of {K : Frag} {C : Addr} (h1 : (PySem.W.clsIn K C).isSome = true) (x : L2.XfC K C) (h2 : PySem.W.findIn K (.ref C) "__class__" = some (some (.builtin "object.__class__"))) (h3 : PySem.W.specialIn K (.builtin "object.__class__") "__get__" = some (some (.builtin "getset_descriptor.__get__")))
    (h4 : PySem.W.takesIn K (.builtin "object.__class__") = some true) (h5 : PySem.W.mroIn K C (.type "object") = some true) : ErrC K C := ⟨h1, x.ga, x.gg, x.exC, h2, h3, h4, h5⟩

theorem exAt {K : Frag} (h : exB K = true) (i : Nat) {b : Bool} (e : (exL K)[i]? = some b) : b = true := List.all_eq_true.mp h b (List.mem_of_getElem? e)
theorem tx_of {K : Frag} {h : Heap} {mg : Str → Option Value} (X : K.In h) (G : h.Ns mainGlobals mg) (c : He5.SaysA faL fnL K) (e : exB K = true) : Tx K mg where
  d_is_fraction := c.def_ 0 rfl
  g_is_fraction := He.glo_ok X G (c.fact 0 (f := .glo "is_fraction") rfl)
  d_ratio := c.def_ 1 rfl
  g_ratio := He.glo_ok X G (c.fact 1 (f := .glo "ratio") rfl)
  d_sum_of := c.def_ 2 rfl
  g_sum_of := He.glo_ok X G (c.fact 2 (f := .glo "sum_of") rfl)
  d_product_of := c.def_ 3 rfl
  g_product_of := He.glo_ok X G (c.fact 3 (f := .glo "product_of") rfl)
  d_quotient_of := c.def_ 4 rfl
  g_quotient_of := He.glo_ok X G (c.fact 4 (f := .glo "quotient_of") rfl)
  d_is_whole := c.def_ 5 rfl
  g_is_whole := He.glo_ok X G (c.fact 5 (f := .glo "is_whole") rfl)
  d_is_order := c.def_ 6 rfl
  g_is_order := He.glo_ok X G (c.fact 6 (f := .glo "is_order") rfl)
  d_first_no_fraction := c.def_ 7 rfl
  g_first_no_fraction := He.glo_ok X G (c.fact 7 (f := .glo "first_no_fraction") rfl)
  d_check_numbers := c.def_ 8 rfl
  g_check_numbers := He.glo_ok X G (c.fact 8 (f := .glo "check_numbers") rfl)
  d_check_same_order := c.def_ 9 rfl
  g_check_same_order := He.glo_ok X G (c.fact 9 (f := .glo "check_same_order") rfl)
  d_least_place := c.def_ 10 rfl
  g_least_place := He.glo_ok X G (c.fact 10 (f := .glo "least_place") rfl)
  d_unit_line := c.def_ 11 rfl
  g_unit_line := He.glo_ok X G (c.fact 11 (f := .glo "unit_line") rfl)
  d_add_product := c.def_ 12 rfl
  g_add_product := He.glo_ok X G (c.fact 12 (f := .glo "add_product") rfl)
  d_added := c.def_ 13 rfl
  g_added := He.glo_ok X G (c.fact 13 (f := .glo "added") rfl)
  d_scaled_list := c.def_ 14 rfl
  g_scaled_list := He.glo_ok X G (c.fact 14 (f := .glo "scaled_list") rfl)
  d_multiplied := c.def_ 15 rfl
  g_multiplied := He.glo_ok X G (c.fact 15 (f := .glo "multiplied") rfl)
  d_reciprocal := c.def_ 16 rfl
  g_reciprocal := He.glo_ok X G (c.fact 16 (f := .glo "reciprocal") rfl)
  d_row_power := c.def_ 17 rfl
  g_row_power := He.glo_ok X G (c.fact 17 (f := .glo "row_power") rfl)
  d_row_log := c.def_ 18 rfl
  g_row_log := He.glo_ok X G (c.fact 18 (f := .glo "row_log") rfl)
  d__bend_of := c.def_ 19 rfl
  g__bend_of := He.glo_ok X G (c.fact 19 (f := .glo "_bend_of") rfl)
  d__kind_of := c.def_ 20 rfl
  g__kind_of := He.glo_ok X G (c.fact 20 (f := .glo "_kind_of") rfl)
  d__law_bag := c.def_ 21 rfl
  g__law_bag := He.glo_ok X G (c.fact 21 (f := .glo "_law_bag") rfl)
  d__law_draw := c.def_ 22 rfl
  g__law_draw := He.glo_ok X G (c.fact 22 (f := .glo "_law_draw") rfl)
  d__law_of := c.def_ 23 rfl
  g__law_of := He.glo_ok X G (c.fact 23 (f := .glo "_law_of") rfl)
  d__law_like := c.def_ 24 rfl
  g__law_like := He.glo_ok X G (c.fact 24 (f := .glo "_law_like") rfl)
  d__law_low := c.def_ 25 rfl
  g__law_low := He.glo_ok X G (c.fact 25 (f := .glo "_law_low") rfl)
  d__law_add := c.def_ 26 rfl
  g__law_add := He.glo_ok X G (c.fact 26 (f := .glo "_law_add") rfl)
  d__law_mul := c.def_ 27 rfl
  g__law_mul := He.glo_ok X G (c.fact 27 (f := .glo "_law_mul") rfl)
  d__law_times := c.def_ 28 rfl
  g__law_times := He.glo_ok X G (c.fact 28 (f := .glo "_law_times") rfl)
  d__law_scale := c.def_ 29 rfl
  g__law_scale := He.glo_ok X G (c.fact 29 (f := .glo "_law_scale") rfl)
  d__law_number := c.def_ 30 rfl
  g__law_number := He.glo_ok X G (c.fact 30 (f := .glo "_law_number") rfl)
  d__law_odd := c.def_ 31 rfl
  g__law_odd := He.glo_ok X G (c.fact 31 (f := .glo "_law_odd") rfl)
  d__law_big := c.def_ 32 rfl
  g__law_big := He.glo_ok X G (c.fact 32 (f := .glo "_law_big") rfl)
  d__law_wide := c.def_ 33 rfl
  g__law_wide := He.glo_ok X G (c.fact 33 (f := .glo "_law_wide") rfl)
  d__law_is := c.def_ 34 rfl
  g__law_is := He.glo_ok X G (c.fact 34 (f := .glo "_law_is") rfl)
  d__law_fault := c.def_ 35 rfl
  g__law_fault := He.glo_ok X G (c.fact 35 (f := .glo "_law_fault") rfl)
  d__law_ask := c.def_ 36 rfl
  g__law_ask := He.glo_ok X G (c.fact 36 (f := .glo "_law_ask") rfl)
  d__law_row := c.def_ 37 rfl
  g__law_row := He.glo_ok X G (c.fact 37 (f := .glo "_law_row") rfl)
  d__law_slope := c.def_ 38 rfl
  g__law_slope := He.glo_ok X G (c.fact 38 (f := .glo "_law_slope") rfl)
  d__law_power_so := c.def_ 39 rfl
  g__law_power_so := He.glo_ok X G (c.fact 39 (f := .glo "_law_power_so") rfl)
  d__law_log_so := c.def_ 40 rfl
  g__law_log_so := He.glo_ok X G (c.fact 40 (f := .glo "_law_log_so") rfl)
  d__law_small := c.def_ 41 rfl
  g__law_small := He.glo_ok X G (c.fact 41 (f := .glo "_law_small") rfl)
  d__law_whole_so := c.def_ 42 rfl
  g__law_whole_so := He.glo_ok X G (c.fact 42 (f := .glo "_law_whole_so") rfl)
  d__law_back_so := c.def_ 43 rfl
  g__law_back_so := He.glo_ok X G (c.fact 43 (f := .glo "_law_back_so") rfl)
  d__law_refused_so := c.def_ 44 rfl
  g__law_refused_so := He.glo_ok X G (c.fact 44 (f := .glo "_law_refused_so") rfl)
  d_law := c.def_ 45 rfl
  g_law := He.glo_ok X G (c.fact 45 (f := .glo "law") rfl)
  f_len := He.free_ok X G (c.fact 55 (f := .free "len") rfl)
  f_range := He.free_ok X G (c.fact 56 (f := .free "range") rfl)
  f_isinstance := He.free_ok X G (c.fact 57 (f := .free "isinstance") rfl)
  f_int := He.free_ok X G (c.fact 58 (f := .free "int") rfl)
  f_abs := He.free_ok X G (c.fact 59 (f := .free "abs") rfl)
  f_all := He.free_ok X G (c.fact 60 (f := .free "all") rfl)
  f_list := He.free_ok X G (c.fact 61 (f := .free "list") rfl)
  f_tuple := He.free_ok X G (c.fact 62 (f := .free "tuple") rfl)
  f_bool := He.free_ok X G (c.fact 63 (f := .free "bool") rfl)
  f_str := He.free_ok X G (c.fact 64 (f := .free "str") rfl)
  f_enumerate := He.free_ok X G (c.fact 65 (f := .free "enumerate") rfl)
  f_zip := He.free_ok X G (c.fact 66 (f := .free "zip") rfl)
  g_gcd := PySem.W.mg_of X G (He.eqO_ok (exAt e 0 rfl))
  g_ZERO := He.glo_ok X G (c.fact 46 (f := .glo "ZERO") rfl)
  g_ONE := He.glo_ok X G (c.fact 47 (f := .glo "ONE") rfl)
  zero := fun H => He.tupB_ok (vs := [.int 0, .int 1]) (exAt e 1 rfl) H
  one := fun H => He.tupB_ok (vs := [.int 1, .int 1]) (exAt e 2 rfl) H
  c_Row := He.cls_ok (c.fact 67 (f := .cls "Row") rfl)
  k_Row := He.mkr_ok (c.fact 68 (f := .mkr "Row") rfl)
  g_Row := He.glo_ok X G (c.fact 48 (f := .glo "Row") rfl)
  i_Row := ⟨He.eqO_ok (exAt e 3 rfl), of_decide_eq_true (exAt e 4 rfl)⟩
  ii_Row := of_decide_eq_true (exAt e 5 rfl)
  c_Step := He.cls_ok (c.fact 69 (f := .cls "Step") rfl)
  k_Step := He.mkr_ok (c.fact 70 (f := .mkr "Step") rfl)
  g_Step := He.glo_ok X G (c.fact 49 (f := .glo "Step") rfl)
  i_Step := ⟨He.eqO_ok (exAt e 6 rfl), of_decide_eq_true (exAt e 7 rfl)⟩
  ii_Step := of_decide_eq_true (exAt e 8 rfl)
  hn := He.eqO_ok (exAt e 9 rfl)
  htk := of_decide_eq_true (exAt e 10 rfl)
  nR_numbers := He.noat_ok (c.fact 71 (f := .noat "Row" "_numbers") rfl)
  nRorder := He.noat_ok (c.fact 72 (f := .noat "Row" "order") rfl)
  nRheight := He.noat_ok (c.fact 73 (f := .noat "Row" "height") rfl)
  nS_numbers := He.noat_ok (c.fact 74 (f := .noat "Step" "_numbers") rfl)
  nSorder := He.noat_ok (c.fact 75 (f := .noat "Step" "order") rfl)
  nSheight := He.noat_ok (c.fact 76 (f := .noat "Step" "height") rfl)
  nSlead := He.noat_ok (c.fact 77 (f := .noat "Step" "lead") rfl)
  nSkind := He.noat_ok (c.fact 78 (f := .noat "Step" "kind") rfl)
  nSflat := He.noat_ok (c.fact 79 (f := .noat "Step" "flat") rfl)
  nSstrength := He.noat_ok (c.fact 80 (f := .noat "Step" "strength") rfl)
  m_numbers := He.meth_ok (c.fact 81 (f := .meth "Row" "numbers") rfl)
  m_scaled := He.meth_ok (c.fact 82 (f := .meth "Row" "scaled") rfl)
  sf := exAt e 11 rfl
  o_add := ⟨He.eqO_ok (exAt e 12 rfl), exAt e 13 rfl⟩
  o_mul := ⟨He.eqO_ok (exAt e 14 rfl), exAt e 15 rfl⟩
  o_eq := ⟨He.eqO_ok (exAt e 16 rfl), exAt e 17 rfl⟩
  kS := five (of_decide_eq_true (exAt e 18 rfl)) (of_decide_eq_true (exAt e 19 rfl)) (of_decide_eq_true (exAt e 20 rfl)) (of_decide_eq_true (exAt e 21 rfl)) (of_decide_eq_true (exAt e 22 rfl))
  d_Row_init := c.def_ 46 rfl
  d_Row_numbers := c.def_ 47 rfl
  d_Row_add := c.def_ 48 rfl
  d_Row_mul := c.def_ 49 rfl
  d_Row_scaled := c.def_ 50 rfl
  d_Step_init := c.def_ 51 rfl
  d_Step_eq := c.def_ 52 rfl
  d_InvalidNumber_init := c.def_ 53 rfl
  d_NotOne_init := c.def_ 54 rfl
  d_DividedByZero_init := c.def_ 55 rfl
  still := by
    obtain ⟨fd, F⟩ := c.def_ 56 (d := fnL.getD 56 (fnL.getD 0 ⟨fun _ => 0, "", "", ⟨[], [], none, [], [], none, []⟩, [], ⟨.function, [], false, false, []⟩, [], []⟩)) rfl
    exact ⟨_, _, fd, smet_of (exAt e 23 rfl) (exAt e 24 rfl) F.kp, F⟩
  g_InvalidNumber := He.glo_ok X G (c.fact 50 (f := .glo "InvalidNumber") rfl)
  e_InvalidNumber := ⟨oex_cls (exAt e 25 rfl) (exAt e 26 rfl), He.eqO_ok (exAt e 27 rfl), of_decide_eq_true (exAt e 28 rfl), of_decide_eq_true (exAt e 29 rfl), exAt e 30 rfl⟩
  in_InvalidNumber := He.eqO_ok (exAt e 31 rfl)
  ty_InvalidNumber := of_decide_eq_true (exAt e 32 rfl)
  x_InvalidNumber := L2.xfB_ok (exAt e 33 rfl)
  ic_InvalidNumber := errC_of (exAt e 34 rfl) (L2.xfB_ok (exAt e 33 rfl)) (He.eqO_ok (exAt e 35 rfl)) (He.eqO_ok (exAt e 9 rfl)) (of_decide_eq_true (exAt e 10 rfl)) (of_decide_eq_true (exAt e 36 rfl))
  n_InvalidNumber_code := He.eqO_ok (exAt e 37 rfl)
  n_InvalidNumber_value := He.eqO_ok (exAt e 38 rfl)
  n_InvalidNumber_first := He.eqO_ok (exAt e 39 rfl)
  cr_InvalidNumber := of_decide_eq_true (exAt e 40 rfl)
  na_InvalidNumber := of_decide_eq_true (exAt e 41 rfl)
  kk_Inv_Inv := of_decide_eq_true (exAt e 42 rfl)
  kk_Inv_Not := of_decide_eq_true (exAt e 43 rfl)
  kk_Inv_Div := of_decide_eq_true (exAt e 44 rfl)
  g_NotOne := He.glo_ok X G (c.fact 51 (f := .glo "NotOne") rfl)
  e_NotOne := ⟨oex_cls (exAt e 45 rfl) (exAt e 46 rfl), He.eqO_ok (exAt e 47 rfl), of_decide_eq_true (exAt e 48 rfl), of_decide_eq_true (exAt e 49 rfl), exAt e 50 rfl⟩
  in_NotOne := He.eqO_ok (exAt e 51 rfl)
  ty_NotOne := of_decide_eq_true (exAt e 52 rfl)
  x_NotOne := L2.xfB_ok (exAt e 53 rfl)
  ic_NotOne := errC_of (exAt e 54 rfl) (L2.xfB_ok (exAt e 53 rfl)) (He.eqO_ok (exAt e 55 rfl)) (He.eqO_ok (exAt e 9 rfl)) (of_decide_eq_true (exAt e 10 rfl)) (of_decide_eq_true (exAt e 56 rfl))
  n_NotOne_code := He.eqO_ok (exAt e 57 rfl)
  n_NotOne_value := He.eqO_ok (exAt e 58 rfl)
  n_NotOne_first := He.eqO_ok (exAt e 59 rfl)
  cr_NotOne := of_decide_eq_true (exAt e 60 rfl)
  na_NotOne := of_decide_eq_true (exAt e 61 rfl)
  kk_Not_Inv := of_decide_eq_true (exAt e 62 rfl)
  kk_Not_Not := of_decide_eq_true (exAt e 63 rfl)
  kk_Not_Div := of_decide_eq_true (exAt e 64 rfl)
  g_DividedByZero := He.glo_ok X G (c.fact 52 (f := .glo "DividedByZero") rfl)
  e_DividedByZero := ⟨exAt e 65 rfl, exAt e 66 rfl, exAt e 67 rfl, He.eqO_ok (exAt e 68 rfl), of_decide_eq_true (exAt e 69 rfl), of_decide_eq_true (exAt e 70 rfl), exAt e 71 rfl⟩
  in_DividedByZero := He.eqO_ok (exAt e 72 rfl)
  ty_DividedByZero := of_decide_eq_true (exAt e 73 rfl)
  x_DividedByZero := L2.xfB_ok (exAt e 74 rfl)
  ic_DividedByZero := errC_of (exAt e 75 rfl) (L2.xfB_ok (exAt e 74 rfl)) (He.eqO_ok (exAt e 76 rfl)) (He.eqO_ok (exAt e 9 rfl)) (of_decide_eq_true (exAt e 10 rfl)) (of_decide_eq_true (exAt e 77 rfl))
  n_DividedByZero_code := He.eqO_ok (exAt e 78 rfl)
  n_DividedByZero_value := He.eqO_ok (exAt e 79 rfl)
  n_DividedByZero_first := He.eqO_ok (exAt e 80 rfl)
  cr_DividedByZero := of_decide_eq_true (exAt e 81 rfl)
  na_DividedByZero := of_decide_eq_true (exAt e 82 rfl)
  kk_Div_Inv := of_decide_eq_true (exAt e 83 rfl)
  kk_Div_Not := of_decide_eq_true (exAt e 84 rfl)
  kk_Div_Div := of_decide_eq_true (exAt e 85 rfl)
  tk_Div := of_decide_eq_true (exAt e 86 rfl)
  g_CreepError := He.glo_ok X G (c.fact 53 (f := .glo "CreepError") rfl)
  g_NoAnswer := He.glo_ok X G (c.fact 54 (f := .glo "NoAnswer") rfl)
theorem ne_of_ex {K : Frag} (e : exB K = true) : tOf K "_law_back_so" ≠ tOf K "_law_refused_so" := of_decide_eq_true (exAt e 87 rfl)
def lawAt : Nat := 45
theorem lawD {K : Frag} (c : He5.SaysA faL fnL K) : ∃ fd, FnT K "law" s_law fd := c.def_ 45 rfl
end K4
end
set_option Elab.async false
set_option linter.all false
set_option maxRecDepth 100000
set_option maxHeartbeats 0
/-! The end: the run and the walk joined. -/
namespace K4
open PySem PySem.Spec PyProof.Rows L2 K04
theorem law_at {K : PySem.W.Frag} {h : Heap} {mg : Str → Option Value} {fa : Addr} {w : World} (G : h.Ns mainGlobals mg) (c : Says4 h K) (e : mg "law" = some (.ref fa)) :
    LamX.LawAtS PySem.Challenge.rw_creepclocks_k04_whole_powers_and_logs_of w K CX0 11 63 "_law_script" mg fa h := by
  have T := tx_of c.inH G c.a c.ex
  obtain ⟨fd, F⟩ := lawD c.a
  obtain rfl : fa = He.ga K "law" := by
    have := e.symm.trans T.g_law
    cases this
    rfl
  have mem1 : (("_law_back_so", none) : He.Defn) ∈ tfL := List.mem_cons_self
  have mem2 : (("_law_refused_so", none) : He.Defn) ∈ tfL := List.mem_cons_of_mem _ List.mem_cons_self
  have two : ∀ {q : Addr × Addr → Prop}, q (He.cT K ("_law_back_so", none)) → q (He.cT K ("_law_refused_so", none)) → ∀ p ∈ [He.cT K ("_law_back_so", none), He.cT K ("_law_refused_so", none)], q p := by
    intro q a b p hp
    simp only [List.mem_cons, List.not_mem_nil, or_false] at hp
    rcases hp with rfl | rfl
    · exact a
    · exact b
  have m1 : He.cT K ("_law_back_so", none) ∈ [He.cT K ("_law_back_so", none), He.cT K ("_law_refused_so", none)] := List.mem_cons_self
  have m2 : He.cT K ("_law_refused_so", none) ∈ [He.cT K ("_law_back_so", none), He.cT K ("_law_refused_so", none)] := List.mem_cons_of_mem _ List.mem_cons_self
  have b := FunD.bindsA (ps := ["_law_script"]) F fun _ _ _ _ _ _ us hl => match us, hl with | [_], _ => rfl
  refine ⟨fd, [He.cT K ("_law_back_so", none), He.cT K ("_law_refused_so", none)], spLaw K, two (c.empty _ mem1) (c.empty _ mem2), two (c.out _ mem1) (c.out _ mem2), two (PySem.W.codeHd_of_K c.inH (c.hd _ mem1)) (PySem.W.codeHd_of_K c.inH (c.hd _ mem2)), fun s v => b s [v] rfl, ?_, ?_⟩
  · intro H a ns _ _ hT hS
    refine ⟨a, ns, rfl, hS, fun p hp => ?_, fun _ => rfl⟩
    simp only [Tl, List.mem_cons, List.not_mem_nil, or_false] at hp
    rcases hp with rfl | rfl
    · exact LamX.TabS.nil (hT _ m1)
    · exact LamX.TabS.nil (hT _ m2)
  · intro base _ _ hTB
    exact ok_law T ⟨hTB _ m1, hTB _ m2, ne_of_ex c.ex⟩ F
end K4
open PySem PySem.W PySem.Calls PyProof.Rows
theorem PySem.Challenge.cw_creepclocks_k04_whole_powers_and_logs_of_holds : PySem.Challenge.rw_creepclocks_k04_whole_powers_and_logs_of.Holds := by
  w_on; o_law
  refine HandSHeadRun.head_imp (r := OpenLaw.row PySem.Challenge.rw_creepclocks_k04_whole_powers_and_logs_of) (q := view (OpenLaw.row PySem.Challenge.rw_creepclocks_k04_whole_powers_and_logs_of).prog [0, 84]) (H := K4.hk4) (ob := K4.ob4) (M := 12000) (loose := K4.looseL) (d := HandSHeadRun.topDef (OpenLaw.row PySem.Challenge.rw_creepclocks_k04_whole_powers_and_logs_of).prog 84) (kwd := []) K4.ob4_eq
    K4.runL (by kernel_rfl) (by kernel_rfl) (by kernel_rfl) (by rfl) (by first | assumption | decide +kernel) (by decide +kernel) ⟨rfl, rfl, rfl, rfl, rfl, by decide +kernel⟩ ?hw ?hc
  case hw => w_witness2
  case hc =>
    refine LamX.walk_ofTsE (l := PySem.Challenge.rw_creepclocks_k04_whole_powers_and_logs_of) (n := 63) (k := 11) (x := "_law_script") (CX := fun _ => L2.CX0) rfl (by decide) (by kernel_rfl) ⟨rfl, by decide, by decide⟩ ?F (fun _ _ _ _ _ z => z)
    intro w mg fa h Y G hmg0
    obtain ⟨K, c⟩ := Y
    have hmg : mg ("law" : PySem.Str) = some (.ref fa) := by
      have e : (HandSHeadRun.topDef (OpenLaw.row PySem.Challenge.rw_creepclocks_k04_whole_powers_and_logs_of).prog 84).name = ("law" : PySem.Str) := by kernel_rfl
      rw [← e]
      exact hmg0
    exact ⟨K, c.inH, K4.law_at G c hmg⟩
