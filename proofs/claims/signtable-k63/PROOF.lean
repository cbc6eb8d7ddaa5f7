import PyProof.Rows.All
import Wide.All
import OpenK.AllK
import Wide.FinOn
import HandS.ForMost
import HandS.WideBits
import HandS.Wide
import HandS.Evl
import HandS.More
import HandS.ClsMeth
import HandS.Iter
import HandS.Comp
import HandS.Walk
import HandS.Zip
import HandS.Defaults
import HandS.IsInst
import PySem.Challenge.RW_signtable_k63_whole_pulled_does_the_same
set_option Elab.async false
set_option linter.all false
set_option maxRecDepth 100000
set_option maxHeartbeats 8000000

namespace Sg

/-! ### bits -/
def pc (n : Nat) : Nat := if h : n = 0 then 0 else n % 2 + pc (n / 2)
termination_by n
decreasing_by omega
theorem pc_zero : pc 0 = 0 := by unfold pc; rfl
theorem pc_step (n : Nat) : pc n = n % 2 + pc (n / 2) := by
  by_cases h : n = 0
  · subst h; rw [pc_zero]
  · rw [pc]; rw [dif_neg h]
theorem pc_even (n : Nat) : pc (2 * n) = pc n := by
  rw [pc_step]; congr 1 <;> simp
theorem pc_odd (n : Nat) : pc (2 * n + 1) = pc n + 1 := by
  rw [pc_step]
  have h1 : (2 * n + 1) % 2 = 1 := by omega
  have h2 : (2 * n + 1) / 2 = n := by omega
  rw [h1, h2]; omega
theorem pc_pos {n : Nat} (h : 0 < n) : 0 < pc n := by
  induction n using Nat.strongRecOn with
  | ind n ih =>
    rw [pc_step]
    by_cases e : n % 2 = 1
    · omega
    · have := ih (n / 2) (by omega) (by omega); omega
/-- the step of the loop that counts ones -/
theorem and_pred_even (m : Nat) (h : 0 < m) : (2 * m) &&& (2 * m - 1) = 2 * (m &&& (m - 1)) := by
  have e : 2 * m - 1 = 2 * (m - 1) + 1 := by omega
  apply Nat.eq_of_testBit_eq
  intro i
  cases i with
  | zero => simp
  | succ i =>
    rw [Nat.testBit_and, Nat.testBit_succ, Nat.testBit_succ, Nat.testBit_succ]
    have h1 : 2 * m / 2 = m := by omega
    have h2 : (2 * m - 1) / 2 = m - 1 := by omega
    have h3 : 2 * (m &&& (m - 1)) / 2 = m &&& (m - 1) := by omega
    rw [h1, h2, h3, Nat.testBit_and]
theorem and_pred_odd (m : Nat) : (2 * m + 1) &&& (2 * m) = 2 * m := by
  apply Nat.eq_of_testBit_eq
  intro i
  cases i with
  | zero => simp
  | succ i =>
    rw [Nat.testBit_and, Nat.testBit_succ, Nat.testBit_succ]
    have h1 : (2 * m + 1) / 2 = m := by omega
    have h2 : (2 * m) / 2 = m := by omega
    rw [h1, h2, Bool.and_self]
theorem pc_pred {n : Nat} (h : 0 < n) : pc n = pc (n &&& (n - 1)) + 1 := by
  induction n using Nat.strongRecOn with
  | ind n ih =>
    by_cases e : n % 2 = 1
    · obtain ⟨m, rfl⟩ : ∃ m, n = 2 * m + 1 := ⟨n / 2, by omega⟩
      rw [Nat.add_sub_cancel, and_pred_odd, pc_even, pc_odd]
    · obtain ⟨m, rfl⟩ : ∃ m, n = 2 * m := ⟨n / 2, by omega⟩
      rw [and_pred_even m (by omega), pc_even, pc_even]
      exact ih m (by omega) (by omega)
theorem pc_two_pow (w : Nat) : pc (2 ^ w) = 1 := by
  induction w with
  | zero => rw [pc_step]; simp [pc_zero]
  | succ w ih => rw [Nat.pow_succ, Nat.mul_comm, pc_even]; exact ih
theorem pc_xor (a b : Nat) : pc (a ^^^ b) % 2 = (pc a + pc b) % 2 := by
  induction a using Nat.strongRecOn generalizing b with
  | ind a ih =>
    by_cases h : a = 0
    · subst h; rw [pc_zero]; simp
    · rw [pc_step (a ^^^ b), pc_step a, pc_step b, Nat.xor_div_two]
      have := ih (a / 2) (by omega) (b / 2)
      have h2 : (a ^^^ b) % 2 = (a % 2 + b % 2) % 2 := by
        have h3 := Nat.xor_mod_two_pow (a := a) (b := b) (n := 1)
        rw [Nat.pow_one] at h3
        rw [h3]
        rcases Nat.mod_two_eq_zero_or_one a with h4 | h4 <;> rcases Nat.mod_two_eq_zero_or_one b with h5 | h5 <;> rw [h4, h5] <;> rfl
      omega

def dot (a b : Nat) : Bool := decide (pc (a &&& b) % 2 = 1)
theorem dot_comm (a b : Nat) : dot a b = dot b a := by unfold dot; rw [Nat.and_comm]
theorem dot_xor_left (a b c : Nat) : dot (a ^^^ b) c = (dot a c ^^ dot b c) := by
  unfold dot
  rw [Nat.and_xor_distrib_right]
  have h := pc_xor (a &&& c) (b &&& c)
  have h1 := Nat.mod_two_eq_zero_or_one (pc (a &&& c))
  have h2 := Nat.mod_two_eq_zero_or_one (pc (b &&& c))
  rcases h1 with h1 | h1 <;> rcases h2 with h2 | h2 <;> rw [h, Nat.add_mod, h1, h2] <;> rfl
theorem dot_xor_right (a b c : Nat) : dot a (b ^^^ c) = (dot a b ^^ dot a c) := by
  rw [dot_comm, dot_xor_left, dot_comm b, dot_comm c]
theorem dot_zero_left (a : Nat) : dot 0 a = false := by unfold dot; rw [Nat.zero_and, pc_zero]; rfl
theorem dot_zero_right (a : Nat) : dot a 0 = false := by rw [dot_comm, dot_zero_left]
/-- a bit at a place, or none -/
def sh (b : Bool) (w : Nat) : Nat := b.toNat <<< w
theorem sh_false (w : Nat) : sh false w = 0 := by unfold sh; simp
theorem sh_true (w : Nat) : sh true w = 1 <<< w := rfl
theorem sh_xor (a b : Bool) (w : Nat) : sh (a ^^ b) w = sh a w ^^^ sh b w := by
  cases a <;> cases b <;> simp [sh_false, sh_true]
theorem testBit_sh (b : Bool) (w i : Nat) : (sh b w).testBit i = (b && decide (i = w)) := by
  cases b
  · rw [sh_false]; simp
  · rw [sh_true, Nat.one_shiftLeft, Nat.testBit_two_pow]; simp [eq_comm]
theorem dot_sh (a : Nat) (b : Bool) (w : Nat) : dot a (sh b w) = (b && a.testBit w) := by
  cases b
  · rw [sh_false, dot_zero_right]; rfl
  · rw [sh_true, Nat.one_shiftLeft]
    unfold dot
    have h : a &&& 2 ^ w = if a.testBit w then 2 ^ w else 0 := by
      apply Nat.eq_of_testBit_eq
      intro i
      rw [Nat.testBit_and, Nat.testBit_two_pow]
      by_cases e : w = i
      · subst e; cases hb : a.testBit w <;> simp
      · cases hb : a.testBit w <;> simp [e]
    rw [h]
    cases hb : a.testBit w <;> simp [pc_zero, pc_two_pow]
theorem dot_sh_left (a : Nat) (b : Bool) (w : Nat) : dot (sh b w) a = (b && a.testBit w) := by rw [dot_comm, dot_sh]
theorem sh_lt {b : Bool} {w n : Nat} (h : w < n) : sh b w < 2 ^ n := by
  cases b
  · rw [sh_false]; exact Nat.two_pow_pos n
  · rw [sh_true, Nat.one_shiftLeft]; exact Nat.pow_lt_pow_right (by decide) h
end Sg

namespace Sg
/-! ### numbers -/
abbrev G := Int × Int
def gadd (a b : G) : G := (a.1 + b.1, a.2 + b.2)
def gsub (a b : G) : G := (a.1 - b.1, a.2 - b.2)
def gmul (a b : G) : G := (a.1 * b.1 - a.2 * b.2, a.1 * b.2 + a.2 * b.1)
def gnorm (a : G) : Int := a.1 * a.1 + a.2 * a.2
def spun (g : G) (t : Nat) : G :=
  if t % 4 = 1 then (-g.2, g.1) else if t % 4 = 2 then (-g.1, -g.2) else if t % 4 = 3 then (g.2, -g.1) else g
theorem mod4 (t : Nat) : t % 4 = 0 ∨ t % 4 = 1 ∨ t % 4 = 2 ∨ t % 4 = 3 := by omega
theorem spun_congr {g : G} {s t : Nat} (h : s % 4 = t % 4) : spun g s = spun g t := by unfold spun; rw [h]
theorem spun_zero (g : G) : spun g 0 = g := rfl
theorem spun_spun (g : G) (s t : Nat) : spun (spun g s) t = spun g (s + t) := by
  unfold spun
  rw [Nat.add_mod]
  rcases mod4 s with h | h | h | h <;> rcases mod4 t with h' | h' | h' | h' <;> simp [h, h']
theorem spun_gadd (a b : G) (t : Nat) : spun (gadd a b) t = gadd (spun a t) (spun b t) := by
  unfold spun gadd
  rcases mod4 t with h | h | h | h <;> simp [h] <;> (try constructor) <;> omega
theorem spun_gsub (a b : G) (t : Nat) : spun (gsub a b) t = gsub (spun a t) (spun b t) := by
  unfold spun gsub
  rcases mod4 t with h | h | h | h <;> simp [h] <;> (try constructor) <;> omega
theorem gnorm_spun (a : G) (t : Nat) : gnorm (spun a t) = gnorm a := by
  unfold spun gnorm
  rcases mod4 t with h | h | h | h <;> simp [h] <;> grind
theorem spun_gmul (a b : G) (t : Nat) : spun (gmul a b) t = gmul a (spun b t) := by
  unfold spun gmul
  rcases mod4 t with h | h | h | h <;> simp [h] <;> grind
theorem spun2 (a : G) : spun a 2 = (-a.1, -a.2) := rfl

/-! ### rows -/
structure Row where
  t : Nat
  x : Nat
  z : Nat
  deriving DecidableEq, Repr
def product (a b : Row) : Row := ⟨(a.t + b.t + 2 * pc (a.z &&& b.x)) % 4, a.x ^^^ b.x, a.z ^^^ b.z⟩
def crosses (a b : Row) : Bool := decide ((pc (a.x &&& b.z) + pc (a.z &&& b.x)) % 2 = 1)
theorem crosses_eq (a b : Row) : crosses a b = (dot a.x b.z ^^ dot a.z b.x) := by
  unfold crosses dot
  have h1 := Nat.mod_two_eq_zero_or_one (pc (a.x &&& b.z))
  have h2 := Nat.mod_two_eq_zero_or_one (pc (a.z &&& b.x))
  rcases h1 with h1 | h1 <;> rcases h2 with h2 | h2 <;> rw [Nat.add_mod, h1, h2] <;> rfl

/-! ### moves -/
inductive K1 where | mix | quarter | back | flip | sign
  deriving DecidableEq, Repr
inductive K2 where | join | both | swap
  deriving DecidableEq, Repr
inductive Mv where
  | one (k : K1) (w : Nat)
  | two (k : K2) (w v : Nat)
  deriving DecidableEq, Repr
def bt (n w : Nat) : Nat := (n.testBit w).toNat
def moved1 (r : Row) (k : K1) (w : Nat) : Row :=
  let x := bt r.x w
  let z := bt r.z w
  match k with
  | .mix => ⟨(r.t + 2 * x * z) % 4, r.x ^^^ ((x ^^^ z) <<< w), r.z ^^^ ((x ^^^ z) <<< w)⟩
  | .quarter => ⟨(r.t + x) % 4, r.x, r.z ^^^ (x <<< w)⟩
  | .back => ⟨(r.t + 3 * x) % 4, r.x, r.z ^^^ (x <<< w)⟩
  | .flip => ⟨(r.t + 2 * z) % 4, r.x, r.z⟩
  | .sign => ⟨(r.t + 2 * x) % 4, r.x, r.z⟩
def moved2 (r : Row) (k : K2) (w v : Nat) : Row :=
  let x := bt r.x w
  let z := bt r.z w
  let ox := bt r.x v
  let oz := bt r.z v
  match k with
  | .join => ⟨r.t, r.x ^^^ (x <<< v), r.z ^^^ (oz <<< w)⟩
  | .both => ⟨(r.t + 2 * x * ox) % 4, r.x, r.z ^^^ (ox <<< w) ^^^ (x <<< v)⟩
  | .swap => ⟨r.t, r.x ^^^ ((x ^^^ ox) <<< w) ^^^ ((x ^^^ ox) <<< v), r.z ^^^ ((z ^^^ oz) <<< w) ^^^ ((z ^^^ oz) <<< v)⟩
def moved (r : Row) : Mv → Row
  | .one k w => moved1 r k w
  | .two k w v => moved2 r k w v
def undone : Mv → Mv
  | .one .quarter w => .one .back w
  | .one .back w => .one .quarter w
  | m => m
/-- a move on wires below n -/
def Mv.Ok (n : Nat) : Mv → Prop
  | .one _ w => w < n
  | .two _ w v => w < n ∧ v < n ∧ w ≠ v
theorem undone_ok {n : Nat} {m : Mv} (h : m.Ok n) : (undone m).Ok n := by
  cases m with
  | one k w => cases k <;> exact h
  | two k w v => exact h
theorem undone_undone (m : Mv) : undone (undone m) = m := by
  cases m with
  | one k w => cases k <;> rfl
  | two k w v => rfl

/-! ### vectors: functions of the place -/
abbrev Vec := Nat → G
def spinOf : K1 → Nat
  | .quarter => 1
  | .sign => 2
  | .back => 3
  | _ => 0
def chg (f : Vec) : Mv → Vec
  | .one .mix w => fun k => if k.testBit w then gsub (f (k ^^^ (1 <<< w))) (f k) else gadd (f k) (f (k ^^^ (1 <<< w)))
  | .one .flip w => fun k => f (k ^^^ (1 <<< w))
  | .one q w => fun k => if k.testBit w then spun (f k) (spinOf q) else f k
  | .two .join w v => fun k => f (k ^^^ (bt k w <<< v))
  | .two .both w v => fun k => if k.testBit w && k.testBit v then spun (f k) 2 else f k
  | .two .swap w v => fun k => if k.testBit w = k.testBit v then f k else f (k ^^^ (1 <<< w) ^^^ (1 <<< v))
def strike (f : Vec) (r : Row) : Vec := fun k => spun (f (k ^^^ r.x)) (r.t + 2 * pc (r.z &&& (k ^^^ r.x)))
theorem two_pc (a b : Nat) : (2 * pc (a &&& b)) % 4 = 2 * (dot a b).toNat := by
  unfold dot
  rcases Nat.mod_two_eq_zero_or_one (pc (a &&& b)) with h | h <;> simp [h] <;> omega
theorem strike_eq (f : Vec) (r : Row) (k : Nat) : strike f r k = spun (f (k ^^^ r.x)) (r.t + 2 * (dot r.z (k ^^^ r.x)).toNat) := by
  unfold strike
  apply spun_congr
  have := two_pc r.z (k ^^^ r.x)
  omega
theorem strike_at {f : Vec} {r : Row} {k j : Nat} (h : k ^^^ r.x = j) : strike f r k = spun (f j) (r.t + 2 * (dot r.z j).toNat) := by
  subst h; exact strike_eq f r k

theorem spun_eq {a b : G} {s t : Nat} (h : a = b) (h2 : s % 4 = t % 4) : spun a s = spun b t := by subst h; exact spun_congr h2
theorem xor_cancel (a b : Nat) : a ^^^ b ^^^ b = a := by rw [Nat.xor_assoc, Nat.xor_self, Nat.xor_zero]
theorem bt_shl (n w v : Nat) : bt n w <<< v = sh (n.testBit w) v := rfl
theorem xbt_shl (a b : Bool) (v : Nat) : (a.toNat ^^^ b.toNat) <<< v = sh (a ^^ b) v := by cases a <;> cases b <;> rfl
theorem one_shl (w : Nat) : 1 <<< w = sh true w := rfl
theorem testBit_xsh (k : Nat) (b : Bool) (w v : Nat) (h : v ≠ w) : (k ^^^ sh b w).testBit v = k.testBit v := by
  rw [Nat.testBit_xor, testBit_sh]; simp [h]
theorem testBit_xsh_same (k : Nat) (b : Bool) (w : Nat) : (k ^^^ sh b w).testBit w = (k.testBit w ^^ b) := by
  rw [Nat.testBit_xor, testBit_sh]; simp

/-- a row's bits -/
theorem moved_x1 (r : Row) (k : K1) (w : Nat) : (moved1 r k w).x = match k with
    | .mix => r.x ^^^ sh (r.x.testBit w ^^ r.z.testBit w) w | _ => r.x := by
  cases k <;> simp only [moved1, bt, xbt_shl]
theorem moved_z1 (r : Row) (k : K1) (w : Nat) : (moved1 r k w).z = match k with
    | .mix => r.z ^^^ sh (r.x.testBit w ^^ r.z.testBit w) w | .quarter => r.z ^^^ sh (r.x.testBit w) w | .back => r.z ^^^ sh (r.x.testBit w) w | _ => r.z := by
  cases k <;> simp only [moved1, bt_shl] <;> simp only [bt, xbt_shl]
theorem moved_x2 (r : Row) (k : K2) (w v : Nat) : (moved2 r k w v).x = match k with
    | .join => r.x ^^^ sh (r.x.testBit w) v | .both => r.x
    | .swap => r.x ^^^ sh (r.x.testBit w ^^ r.x.testBit v) w ^^^ sh (r.x.testBit w ^^ r.x.testBit v) v := by
  cases k <;> simp only [moved2, bt_shl] <;> simp only [bt, xbt_shl]
theorem moved_z2 (r : Row) (k : K2) (w v : Nat) : (moved2 r k w v).z = match k with
    | .join => r.z ^^^ sh (r.z.testBit v) w | .both => r.z ^^^ sh (r.x.testBit v) w ^^^ sh (r.x.testBit w) v
    | .swap => r.z ^^^ sh (r.z.testBit w ^^ r.z.testBit v) w ^^^ sh (r.z.testBit w ^^ r.z.testBit v) v := by
  cases k <;> simp only [moved2, bt_shl] <;> simp only [bt, xbt_shl]

/-! ### a row struck, then a move: the move, then the row moved -/
theorem xac (a b c : Nat) : a ^^^ b ^^^ c = a ^^^ c ^^^ b := by rw [Nat.xor_assoc, Nat.xor_comm b, Nat.xor_assoc]
theorem ite_spun (b : Bool) (g : G) (c : Nat) : (if b = true then spun g c else g) = spun g (c * b.toNat) := by
  cases b
  · simp [spun_zero]
  · simp
theorem chg_spin (f : Vec) (q : K1) (w : Nat) (h1 : q ≠ .mix) (h2 : q ≠ .flip) (k : Nat) : chg f (.one q w) k = spun (f k) (spinOf q * (k.testBit w).toNat) := by
  cases q <;> first | exact absurd rfl h1 | exact absurd rfl h2 | exact ite_spun _ _ _
theorem conj_spin (f : Vec) (r : Row) (q : K1) (w : Nat) (h1 : q ≠ .mix) (h2 : q ≠ .flip) (k : Nat) :
    chg (strike f r) (.one q w) k = strike (chg f (.one q w)) (moved r (.one q w)) k := by
  rw [chg_spin _ q w h1 h2, strike_eq, strike_eq, chg_spin _ q w h1 h2]
  have hx : (moved r (.one q w)).x = r.x := by
    show (moved1 r q w).x = r.x
    rw [moved_x1]; cases q <;> first | exact absurd rfl h1 | rfl
  rw [hx]
  have hk : k.testBit w = ((k ^^^ r.x).testBit w ^^ r.x.testBit w) := by rw [Nat.testBit_xor]; cases k.testBit w <;> cases r.x.testBit w <;> rfl
  rw [hk]
  generalize k ^^^ r.x = y
  rw [spun_spun, spun_spun]
  apply spun_congr
  show _ = (spinOf q * (y.testBit w).toNat + ((moved1 r q w).t + 2 * (dot (moved1 r q w).z y).toNat)) % 4
  rw [moved_z1]
  cases q with
  | mix => exact absurd rfl h1
  | flip => exact absurd rfl h2
  | quarter =>
    simp only [moved1, bt, dot_xor_left, dot_sh_left, spinOf]
    cases r.x.testBit w <;> cases y.testBit w <;> cases dot r.z y <;> simp <;> omega
  | back =>
    simp only [moved1, bt, dot_xor_left, dot_sh_left, spinOf]
    cases r.x.testBit w <;> cases y.testBit w <;> cases dot r.z y <;> simp <;> omega
  | sign =>
    simp only [moved1, bt, spinOf]
    cases r.x.testBit w <;> cases y.testBit w <;> cases dot r.z y <;> simp <;> omega
theorem conj_flip (f : Vec) (r : Row) (w : Nat) (k : Nat) :
    chg (strike f r) (.one .flip w) k = strike (chg f (.one .flip w)) (moved r (.one .flip w)) k := by
  show strike f r (k ^^^ (1 <<< w)) = _
  rw [strike_eq, strike_eq]
  show _ = spun (f (k ^^^ r.x ^^^ (1 <<< w))) ((r.t + 2 * bt r.z w) % 4 + 2 * (dot r.z (k ^^^ r.x)).toNat)
  rw [xac k (1 <<< w)]
  apply spun_congr
  rw [one_shl, dot_xor_right, dot_sh]
  simp only [bt]
  cases dot r.z (k ^^^ r.x) <;> cases r.z.testBit w <;> simp <;> omega
theorem xor_eq_of_bits {a b : Nat} (h : ∀ i, a.testBit i = b.testBit i) : a = b := Nat.eq_of_testBit_eq h
theorem conj_join (f : Vec) (r : Row) (w v : Nat) (hwv : w ≠ v) (k : Nat) :
    chg (strike f r) (.two .join w v) k = strike (chg f (.two .join w v)) (moved r (.two .join w v)) k := by
  show strike f r (k ^^^ (bt k w <<< v)) = _
  rw [strike_eq, strike_eq]
  show _ = spun (f (k ^^^ (moved2 r .join w v).x ^^^ (bt (k ^^^ (moved2 r .join w v).x) w <<< v))) (r.t + 2 * (dot (moved2 r .join w v).z (k ^^^ (moved2 r .join w v).x)).toNat)
  rw [moved_x2, moved_z2]
  simp only [bt_shl]
  rw [← Nat.xor_assoc, testBit_xsh _ _ _ _ hwv]
  have e : k ^^^ r.x ^^^ sh (r.x.testBit w) v ^^^ sh ((k ^^^ r.x).testBit w) v = k ^^^ sh (k.testBit w) v ^^^ r.x := by
    rw [Nat.testBit_xor, sh_xor, xac k (sh (k.testBit w) v)]
    apply xor_eq_of_bits
    intro i
    simp only [Nat.testBit_xor]
    generalize (sh (r.x.testBit w) v).testBit i = a
    cases a <;> simp
  rw [e]
  apply spun_congr
  have e2 : k ^^^ sh (k.testBit w) v ^^^ r.x = (k ^^^ r.x) ^^^ sh (k.testBit w) v := xac _ _ _
  rw [e2]
  have hvw : v ≠ w := fun e => hwv e.symm
  simp only [dot_xor_right, dot_xor_left, dot_sh, dot_sh_left, Nat.testBit_xor, testBit_sh, hwv, hvw, decide_false, Bool.and_false, Bool.xor_false]
  cases dot r.z k <;> cases dot r.z r.x <;> cases r.z.testBit v <;> cases r.x.testBit w <;> cases k.testBit w <;> rfl
theorem conj_swap (f : Vec) (r : Row) (w v : Nat) (hwv : w ≠ v) (k : Nat) :
    chg (strike f r) (.two .swap w v) k = strike (chg f (.two .swap w v)) (moved r (.two .swap w v)) k := by
  have sw : ∀ (g : Vec) (j : Nat), chg g (.two .swap w v) j = g (j ^^^ sh (j.testBit w ^^ j.testBit v) w ^^^ sh (j.testBit w ^^ j.testBit v) v) := by
    intro g j
    show (if j.testBit w = j.testBit v then g j else g (j ^^^ (1 <<< w) ^^^ (1 <<< v))) = _
    cases j.testBit w <;> cases j.testBit v <;> simp [sh_false, sh_true]
  rw [sw, strike_eq, strike_eq, sw]
  show _ = spun _ (r.t + 2 * (dot (moved2 r .swap w v).z (k ^^^ (moved2 r .swap w v).x)).toNat)
  have hx : (moved r (.two .swap w v)).x = (moved2 r .swap w v).x := rfl
  rw [hx, moved_x2, moved_z2]
  have hvw : v ≠ w := fun e => hwv e.symm
  simp only [Nat.testBit_xor, testBit_sh]
  simp only [hwv, hvw, decide_true, decide_false, Bool.and_true, Bool.and_false, Bool.xor_false, Bool.false_xor]
  have e : ∀ (a b c d : Bool), k ^^^ (r.x ^^^ sh (a ^^ b) w ^^^ sh (a ^^ b) v) ^^^ sh (c ^^ (a ^^ (a ^^ b)) ^^ (d ^^ (b ^^ (a ^^ b)))) w ^^^ sh (c ^^ (a ^^ (a ^^ b)) ^^ (d ^^ (b ^^ (a ^^ b)))) v = k ^^^ sh (c ^^ d) w ^^^ sh (c ^^ d) v ^^^ r.x := by
    intro a b c d
    apply xor_eq_of_bits
    intro i
    simp only [Nat.testBit_xor, testBit_sh]
    generalize k.testBit i = p
    generalize r.x.testBit i = q
    generalize decide (i = w) = m
    generalize decide (i = v) = n
    revert a b c d p q m n
    decide
  rw [e]
  apply spun_congr
  simp only [dot_xor_right, dot_xor_left, dot_sh, dot_sh_left, Nat.testBit_xor, testBit_sh]
  simp only [hwv, hvw, decide_true, decide_false, Bool.and_true, Bool.and_false, Bool.xor_false, Bool.false_xor]
  generalize dot r.z k = p
  generalize dot r.z r.x = q
  cases p <;> cases q <;> cases r.z.testBit v <;> cases r.z.testBit w <;> cases r.x.testBit w <;> cases r.x.testBit v <;> cases k.testBit w <;> cases k.testBit v <;> rfl
theorem conj_both (f : Vec) (r : Row) (w v : Nat) (hwv : w ≠ v) (k : Nat) :
    chg (strike f r) (.two .both w v) k = strike (chg f (.two .both w v)) (moved r (.two .both w v)) k := by
  have sw : ∀ (g : Vec) (j : Nat), chg g (.two .both w v) j = spun (g j) (2 * (j.testBit w && j.testBit v).toNat) := fun g j => ite_spun _ _ _
  rw [sw, strike_eq, strike_eq, sw]
  have hx : (moved r (.two .both w v)).x = r.x := rfl
  rw [hx]
  have hk : ∀ u, k.testBit u = ((k ^^^ r.x).testBit u ^^ r.x.testBit u) := fun u => by rw [Nat.testBit_xor]; cases k.testBit u <;> cases r.x.testBit u <;> rfl
  rw [hk w, hk v]
  generalize k ^^^ r.x = y
  rw [spun_spun, spun_spun]
  apply spun_congr
  show _ = (2 * (y.testBit w && y.testBit v).toNat + ((r.t + 2 * bt r.x w * bt r.x v) % 4 + 2 * (dot (moved2 r .both w v).z y).toNat)) % 4
  rw [moved_z2]
  simp only [dot_xor_left, dot_sh_left, bt]
  cases dot r.z y <;> cases y.testBit w <;> cases y.testBit v <;> cases r.x.testBit w <;> cases r.x.testBit v <;> simp <;> omega
theorem xsh2 (k : Nat) (b : Bool) (w : Nat) : k ^^^ sh b w ^^^ sh b w = k := xor_cancel _ _
theorem chg_mix (f : Vec) (w k : Nat) : chg f (.one .mix w) k = if k.testBit w then gsub (f (k ^^^ sh true w)) (f k) else gadd (f k) (f (k ^^^ sh true w)) := rfl
theorem gsub_spun2 (a b : G) : gsub a (spun b 2) = gadd a b := by unfold gsub gadd spun; simp <;> omega
theorem gadd_spun2 (a b : G) : gadd a (spun b 2) = gsub a b := by unfold gsub gadd spun; simp <;> omega
theorem gadd_comm (a b : G) : gadd a b = gadd b a := by unfold gadd; simp <;> omega
theorem conj_mix (f : Vec) (r : Row) (w : Nat) (k : Nat) :
    chg (strike f r) (.one .mix w) k = strike (chg f (.one .mix w)) (moved r (.one .mix w)) k := by
  have hx : (moved r (.one .mix w)).x = r.x ^^^ sh (r.x.testBit w ^^ r.z.testBit w) w := moved_x1 r .mix w
  have hz : (moved r (.one .mix w)).z = r.z ^^^ sh (r.x.testBit w ^^ r.z.testBit w) w := moved_z1 r .mix w
  have ht : (moved r (.one .mix w)).t = (r.t + 2 * (r.x.testBit w).toNat * (r.z.testBit w).toNat) % 4 := rfl
  rw [chg_mix, strike_eq, strike_eq, strike_eq, hx, hz, ht, chg_mix]
  have e0 : k ^^^ sh true w ^^^ r.x = (k ^^^ r.x) ^^^ sh true w := xac _ _ _
  have hk : k.testBit w = ((k ^^^ r.x).testBit w ^^ r.x.testBit w) := by rw [Nat.testBit_xor]; cases k.testBit w <;> cases r.x.testBit w <;> rfl
  rw [hk, e0, ← Nat.xor_assoc]
  generalize k ^^^ r.x = y
  rw [testBit_xsh_same]
  simp only [dot_xor_right, dot_xor_left, dot_sh, dot_sh_left, testBit_sh, Nat.testBit_xor]
  have e1 : y ^^^ sh true w ^^^ sh true w = y := xsh2 _ _ _
  generalize hd : dot r.z y = d
  generalize hb : f (y ^^^ sh true w) = b at *
  cases r.x.testBit w <;> cases r.z.testBit w <;> cases y.testBit w <;>
    simp only [sh_false, e1, hb, Nat.xor_zero, Bool.xor_false, Bool.false_xor, Bool.xor_true, Bool.not_true, Bool.not_false, Bool.and_true, Bool.and_false, Bool.true_and, Bool.false_and, Bool.xor_self, if_true, if_false, Bool.false_eq_true, Bool.toNat_true, Bool.toNat_false, decide_true] <;>
    cases d <;> rcases mod4 r.t with h | h | h | h <;> simp [spun, gadd, gsub, Nat.add_mod, h] <;> (try constructor) <;> omega
theorem conj {n : Nat} (f : Vec) (r : Row) (m : Mv) (h : m.Ok n) : chg (strike f r) m = strike (chg f m) (moved r m) := by
  funext k
  cases m with
  | one q w =>
    by_cases h1 : q = .mix
    · subst h1; exact conj_mix f r w k
    · by_cases h2 : q = .flip
      · subst h2; exact conj_flip f r w k
      · exact conj_spin f r q w h1 h2 k
  | two q w v =>
    cases q
    · exact conj_join f r w v h.2.2 k
    · exact conj_both f r w v h.2.2 k
    · exact conj_swap f r w v h.2.2 k
end Sg

namespace Sg
/-! ### linear maps -/
def vadd (f g : Vec) : Vec := fun k => gadd (f k) (g k)
def vsub (f g : Vec) : Vec := fun k => gsub (f k) (g k)
def vmul (c : G) (f : Vec) : Vec := fun k => gmul c (f k)
theorem gmul_gadd (c a b : G) : gmul c (gadd a b) = gadd (gmul c a) (gmul c b) := by unfold gmul gadd; simp <;> constructor <;> grind
theorem gmul_gsub (c a b : G) : gmul c (gsub a b) = gsub (gmul c a) (gmul c b) := by unfold gmul gsub; simp <;> constructor <;> grind
theorem gadd4 (a b c d : G) : gadd (gadd a b) (gadd c d) = gadd (gadd a c) (gadd b d) := by unfold gadd; simp <;> constructor <;> omega
theorem gsub_gadd (a b c d : G) : gsub (gadd a b) (gadd c d) = gadd (gsub a c) (gsub b d) := by unfold gadd gsub; simp <;> constructor <;> omega
theorem gadd_gsub (a b c d : G) : gadd (gsub a b) (gsub c d) = gsub (gadd a c) (gadd b d) := by unfold gadd gsub; simp <;> constructor <;> omega
theorem gsub4 (a b c d : G) : gsub (gsub a b) (gsub c d) = gsub (gsub a c) (gsub b d) := by unfold gsub; simp <;> constructor <;> omega
theorem gmul_comm (a b : G) : gmul a b = gmul b a := by unfold gmul; simp <;> constructor <;> grind
theorem gmul_assoc (a b c : G) : gmul (gmul a b) c = gmul a (gmul b c) := by unfold gmul; simp <;> constructor <;> grind
theorem gnorm_gmul (a b : G) : gnorm (gmul a b) = gnorm a * gnorm b := by unfold gmul gnorm; grind
theorem gnorm_nonneg (a : G) : 0 ≤ gnorm a := by
  unfold gnorm
  have h1 : 0 ≤ a.1 * a.1 := by rcases Int.le_total 0 a.1 with h | h; exact Int.mul_nonneg h h; exact Int.mul_nonneg_of_nonpos_of_nonpos h h
  have h2 : 0 ≤ a.2 * a.2 := by rcases Int.le_total 0 a.2 with h | h; exact Int.mul_nonneg h h; exact Int.mul_nonneg_of_nonpos_of_nonpos h h
  omega
theorem sq_zero {a : Int} (h : a * a ≤ 0) : a = 0 := by
  rcases Int.lt_trichotomy a 0 with h1 | h1 | h1
  · have := Int.mul_pos_of_neg_of_neg h1 h1; omega
  · exact h1
  · have := Int.mul_pos h1 h1; omega
theorem gnorm_zero {a : G} (h : gnorm a = 0) : a = (0, 0) := by
  unfold gnorm at h
  have h1 : 0 ≤ a.1 * a.1 := by rcases Int.le_total 0 a.1 with h | h; exact Int.mul_nonneg h h; exact Int.mul_nonneg_of_nonpos_of_nonpos h h
  have h2 : 0 ≤ a.2 * a.2 := by rcases Int.le_total 0 a.2 with h | h; exact Int.mul_nonneg h h; exact Int.mul_nonneg_of_nonpos_of_nonpos h h
  obtain ⟨p, q⟩ := a
  have e1 := sq_zero (a := p) (by simp at *; omega)
  have e2 := sq_zero (a := q) (by simp at *; omega)
  rw [e1, e2]
theorem gmul_zero_left (a : G) : gmul (0, 0) a = (0, 0) := by unfold gmul; simp
theorem gmul_zero_right (a : G) : gmul a (0, 0) = (0, 0) := by unfold gmul; simp
theorem gmul_one (a : G) : gmul (1, 0) a = a := by unfold gmul; simp
theorem gmul_cancel {c a b : G} (hc : c ≠ (0, 0)) (h : gmul c a = gmul c b) : a = b := by
  have h1 : gmul c (gsub a b) = (0, 0) := by rw [gmul_gsub, h]; unfold gsub; simp
  have h2 : gnorm c * gnorm (gsub a b) = 0 := by rw [← gnorm_gmul, h1]; rfl
  have h3 : gnorm c ≠ 0 := fun e => hc (gnorm_zero e)
  have h4 : gnorm (gsub a b) = 0 := by
    rcases Int.mul_eq_zero.mp h2 with e | e
    · exact absurd e h3
    · exact e
  have h5 := gnorm_zero h4
  obtain ⟨p, q⟩ := a
  obtain ⟨r, s⟩ := b
  unfold gsub at h5
  simp at h5
  simp
  omega
theorem gmul_ne {c a : G} (hc : c ≠ (0, 0)) (ha : a ≠ (0, 0)) : gmul c a ≠ (0, 0) := fun e =>
  ha (gmul_cancel hc (e.trans (gmul_zero_right c).symm))
/-- i to a power -/
def iu (t : Nat) : G := spun (1, 0) t
theorem spun_iu (g : G) (t : Nat) : spun g t = gmul (iu t) g := by
  unfold iu
  rw [gmul_comm, ← spun_gmul, gmul_comm, gmul_one]
theorem iu_ne (t : Nat) : iu t ≠ (0, 0) := by
  unfold iu spun
  rcases mod4 t with h | h | h | h <;> simp [h]

theorem ite_apply2 {c : Prop} [Decidable c] (a b a' b' : G) (op : G → G → G) : op (if c then a else b) (if c then a' else b') = if c then op a a' else op b b' := by
  split <;> rfl
theorem chg_vadd (f g : Vec) (m : Mv) : chg (vadd f g) m = vadd (chg f m) (chg g m) := by
  funext k
  cases m with
  | one q w =>
    cases q <;> simp only [chg, vadd] <;> (try rfl) <;> (cases k.testBit w <;> simp [gadd4, gsub_gadd, spun_gadd])
  | two q w v =>
    cases q <;> simp only [chg, vadd] <;> (try rfl)
    · cases k.testBit w <;> cases k.testBit v <;> simp [spun_gadd]
    · by_cases h : k.testBit w = k.testBit v <;> simp [h]
theorem chg_vsub (f g : Vec) (m : Mv) : chg (vsub f g) m = vsub (chg f m) (chg g m) := by
  funext k
  cases m with
  | one q w =>
    cases q <;> simp only [chg, vsub] <;> (try rfl) <;> (cases k.testBit w <;> simp [gadd_gsub, gsub4, spun_gsub])
  | two q w v =>
    cases q <;> simp only [chg, vsub] <;> (try rfl)
    · cases k.testBit w <;> cases k.testBit v <;> simp [spun_gsub]
    · by_cases h : k.testBit w = k.testBit v <;> simp [h]
theorem chg_vmul (c : G) (f : Vec) (m : Mv) : chg (vmul c f) m = vmul c (chg f m) := by
  funext k
  cases m with
  | one q w =>
    cases q <;> simp only [chg, vmul] <;> (try rfl) <;> (cases k.testBit w <;> simp [gmul_gadd, gmul_gsub, spun_gmul])
  | two q w v =>
    cases q <;> simp only [chg, vmul] <;> (try rfl)
    · cases k.testBit w <;> cases k.testBit v <;> simp [spun_gmul]
    · by_cases h : k.testBit w = k.testBit v <;> simp [h]
theorem strike_vadd (f g : Vec) (r : Row) : strike (vadd f g) r = vadd (strike f r) (strike g r) := by
  funext k; exact spun_gadd _ _ _
theorem strike_vsub (f g : Vec) (r : Row) : strike (vsub f g) r = vsub (strike f r) (strike g r) := by
  funext k; exact spun_gsub _ _ _
theorem strike_vmul (c : G) (f : Vec) (r : Row) : strike (vmul c f) r = vmul c (strike f r) := by
  funext k; exact spun_gmul _ _ _
def chgs (f : Vec) (ms : List Mv) : Vec := ms.foldl chg f
theorem chgs_nil (f : Vec) : chgs f [] = f := rfl
theorem chgs_append (f : Vec) (a b : List Mv) : chgs f (a ++ b) = chgs (chgs f a) b := List.foldl_append
theorem chgs_snoc (f : Vec) (a : List Mv) (m : Mv) : chgs f (a ++ [m]) = chg (chgs f a) m := by rw [chgs_append]; rfl
theorem chgs_vadd (ms : List Mv) : ∀ (f g : Vec), chgs (vadd f g) ms = vadd (chgs f ms) (chgs g ms) := by
  induction ms with
  | nil => intro f g; rfl
  | cons m r ih => intro f g; show chgs (chg _ m) r = _; rw [chg_vadd, ih]; rfl
theorem chgs_vsub (ms : List Mv) : ∀ (f g : Vec), chgs (vsub f g) ms = vsub (chgs f ms) (chgs g ms) := by
  induction ms with
  | nil => intro f g; rfl
  | cons m r ih => intro f g; show chgs (chg _ m) r = _; rw [chg_vsub, ih]; rfl
theorem chgs_vmul (c : G) (ms : List Mv) : ∀ (f : Vec), chgs (vmul c f) ms = vmul c (chgs f ms) := by
  induction ms with
  | nil => intro f; rfl
  | cons m r ih => intro f; show chgs (chg _ m) r = _; rw [chg_vmul, ih]; rfl

/-! ### products of rows -/
theorem strike_strike (f : Vec) (a b : Row) : strike (strike f b) a = strike f (product a b) := by
  funext k
  rw [strike_eq, strike_eq, strike_eq]
  show _ = spun (f (k ^^^ (a.x ^^^ b.x))) ((a.t + b.t + 2 * pc (a.z &&& b.x)) % 4 + 2 * (dot (a.z ^^^ b.z) (k ^^^ (a.x ^^^ b.x))).toNat)
  rw [← Nat.xor_assoc, spun_spun]
  apply spun_congr
  have h := two_pc a.z b.x
  rw [dot_xor_left, dot_xor_right a.z (k ^^^ a.x)]
  cases h1 : dot b.z (k ^^^ a.x ^^^ b.x) <;> cases h2 : dot a.z (k ^^^ a.x) <;> cases h3 : dot a.z b.x <;> rw [h3] at h <;> simp at h ⊢ <;> omega
/-- rows that strike alike -/
structure Alk (a b : Row) : Prop where
  t : a.t % 4 = b.t % 4
  x : a.x = b.x
  z : a.z = b.z
theorem strike_alk {a b : Row} (h : Alk a b) (f : Vec) : strike f a = strike f b := by
  obtain ⟨ta, xa, za⟩ := a
  obtain ⟨tb, xb, zb⟩ := b
  obtain ⟨h1, h2, h3⟩ := h
  simp at h2 h3
  subst h2; subst h3
  funext k
  unfold strike
  apply spun_congr
  simp only at h1 ⊢
  omega
theorem Alk.refl (a : Row) : Alk a a := ⟨rfl, rfl, rfl⟩
/-- the same marks: alike but for a factor -/
theorem strike_marks {a b : Row} (hx : a.x = b.x) (hz : a.z = b.z) (f : Vec) : strike f a = vmul (iu (a.t + 3 * b.t)) (strike f b) := by
  obtain ⟨ta, xa, za⟩ := a
  obtain ⟨tb, xb, zb⟩ := b
  simp at hx hz
  subst hx; subst hz
  funext k
  show _ = gmul _ _
  rw [← spun_iu]
  unfold strike
  rw [spun_spun]
  apply spun_congr
  simp
  omega
/-- a row turned -/
def turnBy (b : Bool) (r : Row) : Row := ⟨r.t + 2 * b.toNat, r.x, r.z⟩
theorem product_comm (a b : Row) : Alk (product a b) (turnBy (crosses a b) (product b a)) := by
  refine ⟨?_, Nat.xor_comm _ _, Nat.xor_comm _ _⟩
  show (a.t + b.t + 2 * pc (a.z &&& b.x)) % 4 % 4 = ((b.t + a.t + 2 * pc (b.z &&& a.x)) % 4 + 2 * (crosses a b).toNat) % 4
  rw [crosses_eq, dot_comm a.x]
  have h := two_pc a.z b.x
  have h' := two_pc b.z a.x
  cases h1 : dot b.z a.x <;> cases h2 : dot a.z b.x <;> rw [h1] at h' <;> rw [h2] at h <;> simp at h h' ⊢ <;> omega
theorem Alk.product {a b c d : Row} (h : Alk a b) (h' : Alk c d) : Alk (product a c) (product b d) := by
  obtain ⟨ta, xa, za⟩ := a
  obtain ⟨tb, xb, zb⟩ := b
  obtain ⟨tc, xc, zc⟩ := c
  obtain ⟨td, xd, zd⟩ := d
  obtain ⟨h1, h2, h3⟩ := h
  obtain ⟨h4, h5, h6⟩ := h'
  simp at *
  subst h2; subst h3; subst h5; subst h6
  refine ⟨?_, rfl, rfl⟩
  simp [Sg.product]
  omega
theorem Alk.trans {a b c : Row} (h : Alk a b) (h' : Alk b c) : Alk a c := ⟨h.t.trans h'.t, h.x.trans h'.x, h.z.trans h'.z⟩
theorem Alk.symm {a b : Row} (h : Alk a b) : Alk b a := ⟨h.t.symm, h.x.symm, h.z.symm⟩

/-! ### moves on a word, the rows moved along -/
def movs (r : Row) (ms : List Mv) : Row := ms.foldl moved r
theorem movs_snoc (r : Row) (a : List Mv) (m : Mv) : movs r (a ++ [m]) = moved (movs r a) m := by unfold movs; rw [List.foldl_append]; rfl
theorem movs_append (r : Row) (a b : List Mv) : movs r (a ++ b) = movs (movs r a) b := List.foldl_append
def MsOk (n : Nat) (ms : List Mv) : Prop := ∀ m ∈ ms, m.Ok n
theorem conjs {n : Nat} : ∀ (ms : List Mv), MsOk n ms → ∀ (f : Vec) (r : Row), chgs (strike f r) ms = strike (chgs f ms) (movs r ms)
  | [], _, _, _ => rfl
  | m :: ms, h, f, r => by
    show chgs (chg (strike f r) m) ms = strike (chgs (chg f m) ms) (movs (moved r m) ms)
    rw [conj f r m (h m List.mem_cons_self)]
    exact conjs ms (fun x hx => h x (List.mem_cons_of_mem _ hx)) _ _

/-- a row ahead of the moves, a row behind them -/
def Rel (ms : List Mv) (p q : Row) : Prop := ∀ f, chgs (strike f p) ms = strike (chgs f ms) q
theorem Rel.product {ms : List Mv} {p q p' q' : Row} (h : Rel ms p q) (h' : Rel ms p' q') : Rel ms (product p p') (product q q') := fun f => by
  rw [← strike_strike, h, h', strike_strike]
theorem Rel.alk {ms : List Mv} {p q p' q' : Row} (h : Rel ms p q) (h1 : Alk p p') (h2 : Alk q q') : Rel ms p' q' := fun f => by
  rw [← strike_alk h1, h, strike_alk h2]
theorem Rel.turn {ms : List Mv} (t : Nat) : Rel ms ⟨t, 0, 0⟩ ⟨t, 0, 0⟩ := fun f => by
  have e : ∀ g : Vec, strike g ⟨t, 0, 0⟩ = vmul (iu t) g := fun g => by
    funext k
    rw [strike_eq]
    show spun (g (k ^^^ 0)) (t + 2 * (dot 0 (k ^^^ 0)).toNat) = _
    rw [dot_zero_left, Nat.xor_zero]
    exact spun_iu _ _
  rw [e, e, chgs_vmul]

/-! ### what is undone -/
def scaleOf : Mv → Int
  | .one .mix _ => 2
  | _ => 1
def scale (c : Int) (f : Vec) : Vec := fun k => (c * (f k).1, c * (f k).2)
theorem scale_vmul (c : Int) (f : Vec) : scale c f = vmul (c, 0) f := by
  funext k; unfold scale vmul gmul; simp
theorem chg_undone {n : Nat} (m : Mv) (hm : m.Ok n) (f : Vec) : chg (chg f m) (undone m) = scale (scaleOf m) f := by
  funext k
  cases m with
  | one q w =>
    cases q with
    | mix =>
      show chg (chg f (.one .mix w)) (.one .mix w) k = _
      rw [chg_mix, chg_mix, chg_mix, testBit_xsh_same, xsh2]
      cases k.testBit w <;> simp [gadd, gsub, scale, scaleOf] <;> constructor <;> omega
    | quarter =>
      show chg (chg f (.one .quarter w)) (.one .back w) k = _
      rw [chg_spin _ .back w (by decide) (by decide), chg_spin _ .quarter w (by decide) (by decide), spun_spun]
      cases k.testBit w <;> simp [spinOf, scale, scaleOf, spun]
    | back =>
      show chg (chg f (.one .back w)) (.one .quarter w) k = _
      rw [chg_spin _ .quarter w (by decide) (by decide), chg_spin _ .back w (by decide) (by decide), spun_spun]
      cases k.testBit w <;> simp [spinOf, scale, scaleOf, spun]
    | flip =>
      show f (k ^^^ (1 <<< w) ^^^ (1 <<< w)) = _
      rw [xor_cancel]; simp [scale, scaleOf]
    | sign =>
      show chg (chg f (.one .sign w)) (.one .sign w) k = _
      rw [chg_spin _ .sign w (by decide) (by decide), chg_spin _ .sign w (by decide) (by decide), spun_spun]
      cases k.testBit w <;> simp [spinOf, scale, scaleOf, spun]
  | two q w v =>
    have hwv : w ≠ v := hm.2.2
    cases q with
    | join =>
      show f (k ^^^ (bt k w <<< v) ^^^ (bt (k ^^^ (bt k w <<< v)) w <<< v)) = _
      simp only [bt_shl]
      rw [testBit_xsh _ _ _ _ hwv, xsh2]; simp [scale, scaleOf]
    | both =>
      have sw : ∀ (g : Vec) (j : Nat), chg g (.two .both w v) j = spun (g j) (2 * (j.testBit w && j.testBit v).toNat) := fun g j => ite_spun _ _ _
      show chg (chg f (.two .both w v)) (.two .both w v) k = _
      rw [sw, sw, spun_spun]
      cases k.testBit w && k.testBit v <;> simp [scale, scaleOf, spun]
    | swap =>
      show chg (chg f (.two .swap w v)) (.two .swap w v) k = _
      show (if k.testBit w = k.testBit v then chg f (.two .swap w v) k else chg f (.two .swap w v) (k ^^^ (1 <<< w) ^^^ (1 <<< v))) = _
      show (if k.testBit w = k.testBit v then (if k.testBit w = k.testBit v then f k else f (k ^^^ (1 <<< w) ^^^ (1 <<< v))) else (if (k ^^^ (1 <<< w) ^^^ (1 <<< v)).testBit w = (k ^^^ (1 <<< w) ^^^ (1 <<< v)).testBit v then f (k ^^^ (1 <<< w) ^^^ (1 <<< v)) else f (k ^^^ (1 <<< w) ^^^ (1 <<< v) ^^^ (1 <<< w) ^^^ (1 <<< v)))) = _
      have e : k ^^^ (1 <<< w) ^^^ (1 <<< v) ^^^ (1 <<< w) ^^^ (1 <<< v) = k := by
        rw [xac (k ^^^ (1 <<< w)) (1 <<< v) (1 <<< w), xor_cancel, xor_cancel]
      have hvw : v ≠ w := fun e => hwv e.symm
      rw [e, one_shl, one_shl, testBit_xsh _ _ _ _ hwv, testBit_xsh_same, testBit_xsh_same, testBit_xsh _ _ _ _ hvw]
      cases k.testBit w <;> cases k.testBit v <;> simp [scale, scaleOf]
end Sg

namespace Sg
/-! ### carried rows -/
def gen (j : Nat) : Row := if j % 2 = 0 then ⟨0, 1 <<< (j / 2), 0⟩ else ⟨0, 0, 1 <<< (j / 2)⟩
theorem gen_x (w : Nat) : gen (2 * w) = ⟨0, 1 <<< w, 0⟩ := by
  unfold gen; rw [if_pos (by omega)]; congr; omega
theorem gen_z (w : Nat) : gen (2 * w + 1) = ⟨0, 0, 1 <<< w⟩ := by
  unfold gen; rw [if_neg (by omega)]; congr; omega
def carryF (im : Nat → Row) (at_ marks : Nat) : Nat → Row → Row
  | 0, acc => acc
  | n + 1, acc => let r := carryF im at_ marks n acc; if marks.testBit n then product r (im (2 * n + at_)) else r
def carriedF (im : Nat → Row) (n : Nat) (r : Row) : Row := carryF im 1 r.z n (carryF im 0 r.x n ⟨r.t, 0, 0⟩)
def lk (im : List Row) : Nat → Row := fun j => im.getD j ⟨0, 0, 0⟩
def carried (im : List Row) (r : Row) : Row := carriedF (lk im) (im.length / 2) r
theorem mod_succ_bit (x n : Nat) : x % 2 ^ (n + 1) = x % 2 ^ n ^^^ sh (x.testBit n) n := by
  apply xor_eq_of_bits
  intro i
  rw [Nat.testBit_xor, testBit_sh, Nat.testBit_mod_two_pow, Nat.testBit_mod_two_pow]
  rcases Nat.lt_trichotomy i n with h | h | h
  · have h1 : i < n + 1 := by omega
    have h2 : i ≠ n := by omega
    simp [h, h1, h2]
  · subst h; simp
  · have h1 : ¬ i < n + 1 := by omega
    have h2 : i ≠ n := by omega
    have h3 : ¬ i < n := by omega
    simp [h1, h2, h3]
theorem carry_gen_x (t x n : Nat) : Alk (carryF gen 0 x n ⟨t, 0, 0⟩) ⟨t, x % 2 ^ n, 0⟩ := by
  induction n with
  | zero => simp [carryF, Nat.mod_one]; exact Alk.refl _
  | succ n ih =>
    simp only [carryF]
    rw [mod_succ_bit]
    cases h : x.testBit n
    · rw [if_neg (by simp), sh_false, Nat.xor_zero]; exact ih
    · rw [if_pos rfl]
      have := Alk.product ih (Alk.refl (gen (2 * n + 0)))
      rw [Nat.add_zero] at this ⊢
      refine this.trans ?_
      rw [gen_x]
      refine ⟨?_, ?_, ?_⟩
      · simp [product, pc_zero]
      · simp [product, sh_true]
      · simp [product]
theorem carry_gen_z (t x z n : Nat) (r : Row) (h : Alk r ⟨t, x, 0⟩) : Alk (carryF gen 1 z n r) ⟨t, x, z % 2 ^ n⟩ := by
  induction n with
  | zero => simp [carryF, Nat.mod_one]; exact h
  | succ n ih =>
    simp only [carryF]
    rw [mod_succ_bit]
    cases h : z.testBit n
    · rw [if_neg (by simp), sh_false, Nat.xor_zero]; exact ih
    · rw [if_pos rfl]
      have := Alk.product ih (Alk.refl (gen (2 * n + 1)))
      refine this.trans ?_
      rw [gen_z]
      refine ⟨?_, ?_, ?_⟩
      · simp [product, pc_zero]
      · simp [product]
      · simp [product, sh_true]
theorem carried_gen {n : Nat} {r : Row} (hx : r.x < 2 ^ n) (hz : r.z < 2 ^ n) : Alk (carriedF gen n r) r := by
  have h := carry_gen_z r.t (r.x % 2 ^ n) r.z n _ (carry_gen_x r.t r.x n)
  rw [Nat.mod_eq_of_lt hx, Nat.mod_eq_of_lt hz] at h
  exact h
theorem carry_rel {ms : List Mv} {im : Nat → Row} (at_ marks : Nat) : ∀ (n : Nat) (a b : Row), (∀ w, w < n → Rel ms (im (2 * w + at_)) (gen (2 * w + at_))) → Rel ms a b → Rel ms (carryF im at_ marks n a) (carryF gen at_ marks n b)
  | 0, _, _, _, h => h
  | n + 1, a, b, hi, h => by
    have ih := carry_rel (im := im) at_ marks n a b (fun w hw => hi w (by omega)) h
    simp only [carryF]
    cases marks.testBit n
    · rw [if_neg (by simp), if_neg (by simp)]; exact ih
    · rw [if_pos rfl, if_pos rfl]; exact ih.product (hi n (by omega))
/-- what the images say: a row ahead of the moves, that stands for one behind them -/
structure Img (n : Nat) (ms : List Mv) (im : List Row) : Prop where
  len : im.length = 2 * n
  rel : ∀ j, j < 2 * n → Rel ms (lk im j) (gen j)
theorem carriedF_rel {n : Nat} {ms : List Mv} {im : Nat → Row} (h : ∀ j, j < 2 * n → Rel ms (im j) (gen j)) {r : Row} (hx : r.x < 2 ^ n) (hz : r.z < 2 ^ n) : Rel ms (carriedF im n r) r := by
  have h1 : Rel ms (carriedF im n r) (carriedF gen n r) :=
    carry_rel 1 r.z n _ _ (fun w hw => h (2 * w + 1) (by omega)) (carry_rel 0 r.x n _ _ (fun w hw => h (2 * w + 0) (by omega)) (Rel.turn r.t))
  exact h1.alk (Alk.refl _) (carried_gen hx hz)
theorem carried_rel {n : Nat} {ms : List Mv} {im : List Row} (h : Img n ms im) {r : Row} (hx : r.x < 2 ^ n) (hz : r.z < 2 ^ n) : Rel ms (carried im r) r := by
  unfold carried
  have e : im.length / 2 = n := by have := h.len; omega
  rw [e]
  exact carriedF_rel h.rel hx hz

/-! ### rows in bounds -/
structure Row.Ok (n : Nat) (r : Row) : Prop where
  t : r.t < 4
  x : r.x < 2 ^ n
  z : r.z < 2 ^ n
theorem product_ok {n : Nat} {a b : Row} (h : a.Ok n) (h' : b.Ok n) : (product a b).Ok n :=
  ⟨Nat.mod_lt _ (by decide), Nat.xor_lt_two_pow h.x h'.x, Nat.xor_lt_two_pow h.z h'.z⟩
theorem gen_ok {n j : Nat} (h : j < 2 * n) : (gen j).Ok n := by
  have hp : 1 <<< (j / 2) < 2 ^ n := by rw [Nat.one_shiftLeft]; exact Nat.pow_lt_pow_right (by decide) (by omega)
  unfold gen
  split
  · exact ⟨Nat.zero_lt_succ 3, hp, Nat.two_pow_pos n⟩
  · exact ⟨Nat.zero_lt_succ 3, Nat.two_pow_pos n, hp⟩
theorem moved_ok {n : Nat} {r : Row} (h : r.Ok n) {m : Mv} (hm : m.Ok n) : (moved r m).Ok n := by
  cases m with
  | one q w =>
    have hw : w < n := hm
    refine ⟨?_, ?_, ?_⟩
    · cases q <;> exact Nat.mod_lt _ (by decide)
    · show (moved1 r q w).x < _
      rw [moved_x1]
      cases q
      · exact Nat.xor_lt_two_pow h.x (sh_lt hw)
      all_goals exact h.x
    · show (moved1 r q w).z < _
      rw [moved_z1]
      cases q
      · exact Nat.xor_lt_two_pow h.z (sh_lt hw)
      · exact Nat.xor_lt_two_pow h.z (sh_lt hw)
      · exact Nat.xor_lt_two_pow h.z (sh_lt hw)
      all_goals exact h.z
  | two q w v =>
    have hw : w < n := hm.1
    have hv : v < n := hm.2.1
    refine ⟨?_, ?_, ?_⟩
    · cases q
      · exact h.t
      · exact Nat.mod_lt _ (by decide)
      · exact h.t
    · show (moved2 r q w v).x < _
      rw [moved_x2]
      cases q
      · exact Nat.xor_lt_two_pow h.x (sh_lt hv)
      · exact h.x
      · exact Nat.xor_lt_two_pow (Nat.xor_lt_two_pow h.x (sh_lt hw)) (sh_lt hv)
    · show (moved2 r q w v).z < _
      rw [moved_z2]
      cases q
      · exact Nat.xor_lt_two_pow h.z (sh_lt hw)
      · exact Nat.xor_lt_two_pow (Nat.xor_lt_two_pow h.z (sh_lt hw)) (sh_lt hv)
      · exact Nat.xor_lt_two_pow (Nat.xor_lt_two_pow h.z (sh_lt hw)) (sh_lt hv)
theorem carryF_ok {n : Nat} {im : Nat → Row} (at_ marks : Nat) : ∀ (k : Nat) (a : Row), (∀ w, w < k → (im (2 * w + at_)).Ok n) → a.Ok n → (carryF im at_ marks k a).Ok n
  | 0, _, _, h => h
  | k + 1, a, hi, h => by
    have ih := carryF_ok (im := im) at_ marks k a (fun w hw => hi w (by omega)) h
    simp only [carryF]
    split
    · exact product_ok ih (hi k (by omega))
    · exact ih
def ImOk (n : Nat) (im : List Row) : Prop := im.length = 2 * n ∧ ∀ r ∈ im, r.Ok n
theorem lk_mem {im : List Row} {j : Nat} (h : j < im.length) : lk im j ∈ im := by
  unfold lk
  rw [List.getD_eq_getElem?_getD, List.getElem?_eq_getElem h]
  exact List.getElem_mem h
theorem carried_ok {n : Nat} {im : List Row} (h : ImOk n im) {r : Row} (hr : r.Ok n) : (carried im r).Ok n := by
  unfold carried carriedF
  have e : im.length / 2 = n := by have := h.1; omega
  have hi : ∀ j, j < 2 * n → (lk im j).Ok n := fun j hj => h.2 _ (lk_mem (by rw [h.1]; exact hj))
  rw [e]
  exact carryF_ok 1 r.z n _ (fun w hw => hi _ (by omega)) (carryF_ok 0 r.x n _ (fun w hw => hi _ (by omega)) ⟨hr.t, Nat.two_pow_pos n, Nat.two_pow_pos n⟩)

/-! ### a move further -/
def wiresOf : Mv → List Nat
  | .one _ w => [w]
  | .two _ w v => if w < v then [w, v] else [v, w]
theorem wires_one (k : K1) (w : Nat) : wiresOf (.one k w) = [w] := rfl
theorem wires_lt (k : K2) {w v : Nat} (h : w < v) : wiresOf (.two k w v) = [w, v] := if_pos h
theorem wires_ge (k : K2) {w v : Nat} (h : ¬ w < v) : wiresOf (.two k w v) = [v, w] := if_neg h
def furtherAt (im : List Row) (m : Mv) (found : List Row) (w : Nat) : List Row :=
  (found.set (2 * w) (carried im (moved (gen (2 * w)) (undone m)))).set (2 * w + 1) (carried im (moved (gen (2 * w + 1)) (undone m)))
def further (im : List Row) (m : Mv) : List Row := (wiresOf m).foldl (furtherAt im m) im
theorem rel_further {n : Nat} {ms : List Mv} {m : Mv} (hm : m.Ok n) {p q : Row} (h : Rel ms p (moved q (undone m))) : Rel (ms ++ [m]) p q := fun f => by
  rw [chgs_snoc, chgs_snoc, h f]
  generalize chgs f ms = g
  have e1 : chg (strike (chg g m) q) (undone m) = strike (scale (scaleOf m) g) (moved q (undone m)) := by
    rw [conj _ q (undone m) (undone_ok hm), chg_undone m hm]
  have e2 := congrArg (fun v => chg v m) e1
  have e3 : ∀ v, chg (chg v (undone m)) m = scale (scaleOf m) v := fun v => by
    have := chg_undone (undone m) (undone_ok hm) v
    rw [undone_undone] at this
    rw [this]
    cases m with
    | one k w => cases k <;> rfl
    | two k w v => rfl
  simp only [e3] at e2
  rw [scale_vmul, scale_vmul, strike_vmul, chg_vmul] at e2
  funext k
  have e4 := congrFun e2 k
  have hc : ((scaleOf m, 0) : G) ≠ (0, 0) := by
    cases m with
    | one k w => cases k <;> simp [scaleOf]
    | two k w v => simp [scaleOf]
  exact (gmul_cancel hc e4).symm
theorem lk_set (im : List Row) (i j : Nat) (r : Row) : lk (im.set i r) j = if i = j ∧ i < im.length then r else lk im j := by
  unfold lk
  rw [List.getD_eq_getElem?_getD, List.getD_eq_getElem?_getD, List.getElem?_set]
  by_cases h : i = j
  · subst h
    by_cases h2 : i < im.length
    · simp [h2]
    · simp [h2]
  · simp [h]
theorem furtherAt_len (im : List Row) (m : Mv) (found : List Row) (w : Nat) : (furtherAt im m found w).length = found.length := by
  unfold furtherAt; rw [List.length_set, List.length_set]
theorem lk_furtherAt (im : List Row) (m : Mv) (found : List Row) (w j : Nat) (hw : 2 * w + 1 < found.length) :
    lk (furtherAt im m found w) j = if j / 2 = w then carried im (moved (gen j) (undone m)) else lk found j := by
  unfold furtherAt
  rw [lk_set, List.length_set, lk_set]
  by_cases h : j / 2 = w
  · rw [if_pos h]
    by_cases h1 : j % 2 = 0
    · have e : j = 2 * w := by omega
      subst e
      rw [if_neg (by omega), if_pos ⟨rfl, by omega⟩]
    · have e : j = 2 * w + 1 := by omega
      subst e
      rw [if_pos ⟨rfl, hw⟩]
  · rw [if_neg h, if_neg (by omega), if_neg (by omega)]
theorem lk_further {n : Nat} (im : List Row) (hl : im.length = 2 * n) (m : Mv) (hm : m.Ok n) (j : Nat) :
    lk (further im m) j = if j / 2 ∈ wiresOf m then carried im (moved (gen j) (undone m)) else lk im j := by
  cases m with
  | one k w =>
    have hw : w < n := hm
    show lk (furtherAt im _ im w) j = _
    rw [lk_furtherAt _ _ _ _ _ (by omega)]
    simp [wiresOf]
  | two k w v =>
    have hw : w < n := hm.1
    have hv : v < n := hm.2.1
    unfold further
    by_cases h : w < v
    · rw [wires_lt k h]
      show lk (furtherAt im _ (furtherAt im _ im w) v) j = _
      rw [lk_furtherAt _ _ _ _ _ (by rw [furtherAt_len]; omega), lk_furtherAt _ _ _ _ _ (by omega)]
      by_cases h1 : j / 2 = v
      · simp [h1]
      · by_cases h2 : j / 2 = w <;> simp [h1, h2]
    · rw [wires_ge k h]
      show lk (furtherAt im _ (furtherAt im _ im v) w) j = _
      rw [lk_furtherAt _ _ _ _ _ (by rw [furtherAt_len]; omega), lk_furtherAt _ _ _ _ _ (by omega)]
      by_cases h1 : j / 2 = w
      · simp [h1]
      · by_cases h2 : j / 2 = v <;> simp [h1, h2]
theorem further_len {n : Nat} (im : List Row) (m : Mv) : (further im m).length = im.length := by
  cases m with
  | one k w => exact furtherAt_len _ _ _ _
  | two k w v =>
    unfold further
    by_cases h : w < v
    · rw [wires_lt k h]
      show (furtherAt im _ (furtherAt im _ im w) v).length = _
      rw [furtherAt_len, furtherAt_len]
    · rw [wires_ge k h]
      show (furtherAt im _ (furtherAt im _ im v) w).length = _
      rw [furtherAt_len, furtherAt_len]
/-- generators away from a move's wires stay -/
theorem testBit_one_shl (w v : Nat) (h : v ≠ w) : (1 <<< w : Nat).testBit v = false := by
  rw [one_shl, testBit_sh]; simp [h]
theorem moved_away {r : Row} {m : Mv} (ht : r.t < 4) (h : ∀ w ∈ wiresOf m, r.x.testBit w = false ∧ r.z.testBit w = false) : moved r m = r := by
  obtain ⟨t, x, z⟩ := r
  simp only at h ht
  have e : t % 4 = t := Nat.mod_eq_of_lt ht
  cases m with
  | one k w =>
    obtain ⟨h1, h2⟩ := h w (by simp [wiresOf])
    cases k <;> simp [moved, moved1, bt, h1, h2, e]
  | two k w v =>
    have hw := h w (by by_cases q : w < v; rw [wires_lt k q]; simp; rw [wires_ge k q]; simp)
    have hv := h v (by by_cases q : w < v; rw [wires_lt k q]; simp; rw [wires_ge k q]; simp)
    cases k <;> simp [moved, moved2, bt, hw.1, hw.2, hv.1, hv.2, e]
theorem wiresOf_undone (m : Mv) : wiresOf (undone m) = wiresOf m := by
  cases m with
  | one k w => cases k <;> rfl
  | two k w v => rfl
theorem gen_away {j : Nat} {m : Mv} (h : ¬ j / 2 ∈ wiresOf m) : moved (gen j) m = gen j := by
  apply moved_away
  · unfold gen; split <;> exact Nat.zero_lt_succ 3
  · intro w hw
    have hne : w ≠ j / 2 := fun e => h (e ▸ hw)
    unfold gen
    split
    · exact ⟨testBit_one_shl _ _ hne, Nat.zero_testBit _⟩
    · exact ⟨Nat.zero_testBit _, testBit_one_shl _ _ hne⟩
theorem further_img {n : Nat} {ms : List Mv} {im : List Row} (h : Img n ms im) {m : Mv} (hm : m.Ok n) : Img n (ms ++ [m]) (further im m) := by
  refine ⟨(further_len (n := n) im m).trans h.len, fun j hj => ?_⟩
  rw [lk_further im h.len m hm]
  by_cases hj2 : j / 2 ∈ wiresOf m
  · rw [if_pos hj2]
    have ok := moved_ok (gen_ok hj) (undone_ok hm)
    exact rel_further hm (carried_rel h ok.x ok.z)
  · rw [if_neg hj2]
    apply rel_further hm
    rw [gen_away (by rw [wiresOf_undone]; exact hj2)]
    exact h.rel j hj
theorem further_ok {n : Nat} {im : List Row} (h : ImOk n im) {m : Mv} (hm : m.Ok n) : ImOk n (further im m) := by
  refine ⟨(further_len (n := n) im m).trans h.1, fun r hr => ?_⟩
  obtain ⟨j, hj, e⟩ := List.getElem_of_mem hr
  have hj' : j < 2 * n := by rw [further_len (n := n), h.1] at hj; exact hj
  have e1 : r = lk (further im m) j := by
    unfold lk
    rw [List.getD_eq_getElem?_getD, List.getElem?_eq_getElem hj, e]
    rfl
  rw [e1, lk_further im h.1 m hm]
  split
  · exact carried_ok h (moved_ok (gen_ok hj') (undone_ok hm))
  · exact h.2 _ (lk_mem (by rw [h.1]; exact hj'))

/-! ### the images at the beginning -/
def gens (n : Nat) : List Row := (List.range (2 * n)).map gen
theorem lk_gens {n j : Nat} (h : j < 2 * n) : lk (gens n) j = gen j := by
  unfold lk gens
  rw [List.getD_eq_getElem?_getD, List.getElem?_map, List.getElem?_range h]
  rfl
theorem gens_img (n : Nat) : Img n [] (gens n) := ⟨by unfold gens; simp, fun j hj f => by rw [lk_gens hj]; rfl⟩
theorem gens_ok (n : Nat) : ImOk n (gens n) := ⟨by unfold gens; simp, fun r hr => by
  unfold gens at hr
  obtain ⟨j, hj, e⟩ := List.mem_map.mp hr
  rw [← e]
  exact gen_ok (List.mem_range.mp hj)⟩
def doing (n : Nat) (ms : List Mv) : List Row := ms.foldl (fun im m => im.map fun r => moved r m) (gens n)
theorem doing_eq (n : Nat) (ms : List Mv) : doing n ms = (List.range (2 * n)).map fun j => movs (gen j) ms := by
  have h : ∀ (ms : List Mv) (im : List Row), ms.foldl (fun im m => im.map fun r => moved r m) im = im.map fun r => movs r ms := by
    intro ms
    induction ms with
    | nil => intro im; show im = im.map fun r => r; simp
    | cons m r ih => intro im; show r.foldl _ (im.map _) = _; rw [ih, List.map_map]; rfl
  unfold doing gens
  rw [h, List.map_map]
  rfl
end Sg

namespace Sg
/-! ### sums -/
def sumN (g : Nat → Int) : Nat → Int
  | 0 => 0
  | n + 1 => sumN g n + g n
theorem sumN_congr {g h : Nat → Int} : ∀ {n : Nat}, (∀ k, k < n → g k = h k) → sumN g n = sumN h n
  | 0, _ => rfl
  | n + 1, e => by simp only [sumN]; rw [sumN_congr (n := n) fun k hk => e k (by omega), e n (by omega)]
theorem sumN_add (g h : Nat → Int) : ∀ n, sumN (fun k => g k + h k) n = sumN g n + sumN h n
  | 0 => rfl
  | n + 1 => by simp only [sumN]; rw [sumN_add g h n]; omega
theorem sumN_mul (c : Int) (g : Nat → Int) : ∀ n, sumN (fun k => c * g k) n = c * sumN g n
  | 0 => by simp [sumN]
  | n + 1 => by simp only [sumN]; rw [sumN_mul c g n, Int.mul_add]
theorem sumN_nonneg {g : Nat → Int} : ∀ {n : Nat}, (∀ k, k < n → 0 ≤ g k) → 0 ≤ sumN g n
  | 0, _ => Int.le_refl 0
  | n + 1, h => by
    simp only [sumN]
    have := sumN_nonneg (n := n) fun k hk => h k (by omega)
    have := h n (by omega)
    omega
theorem sumN_zero {g : Nat → Int} : ∀ {n : Nat}, (∀ k, k < n → 0 ≤ g k) → sumN g n = 0 → ∀ k, k < n → g k = 0
  | 0, _, _, k, hk => absurd hk (by omega)
  | n + 1, h, e, k, hk => by
    simp only [sumN] at e
    have h1 := sumN_nonneg (n := n) fun k hk => h k (by omega)
    have h2 := h n (by omega)
    by_cases q : k = n
    · subst q; omega
    · exact sumN_zero (n := n) (fun k hk => h k (by omega)) (by omega) k (by omega)
theorem sumN_list (g : Nat → Int) : ∀ n, sumN g n = ((List.range n).map g).sum
  | 0 => rfl
  | n + 1 => by
    simp only [sumN]
    rw [sumN_list g n, List.range_succ, List.map_append, List.sum_append]
    simp
theorem perm_sum : ∀ {a b : List Int}, a.Perm b → a.sum = b.sum := fun h => by
  induction h with
  | nil => rfl
  | cons x _ ih => rw [List.sum_cons, List.sum_cons, ih]
  | swap x y l => rw [List.sum_cons, List.sum_cons, List.sum_cons, List.sum_cons]; omega
  | trans _ _ h1 h2 => exact h1.trans h2
theorem nodup_map {p : Nat → Nat} : ∀ {l : List Nat}, (∀ a b, a ∈ l → b ∈ l → p a = p b → a = b) → l.Nodup → (l.map p).Nodup
  | [], _, _ => List.nodup_nil
  | a :: r, h, hn => by
    obtain ⟨h1, h2⟩ := List.nodup_cons.mp hn
    rw [List.map_cons]
    refine List.nodup_cons.mpr ⟨fun hm => ?_, nodup_map (fun x y hx hy => h x y (List.mem_cons_of_mem _ hx) (List.mem_cons_of_mem _ hy)) h2⟩
    obtain ⟨b, hb, e⟩ := List.mem_map.mp hm
    have := h b a (List.mem_cons_of_mem _ hb) List.mem_cons_self e
    subst this
    exact h1 hb
theorem sumN_perm (g : Nat → Int) (p : Nat → Nat) (n : Nat) (h1 : ∀ k, k < n → p k < n) (h2 : ∀ k, k < n → p (p k) = k) : sumN (fun k => g (p k)) n = sumN g n := by
  rw [sumN_list, sumN_list]
  have e : (List.range n).map (fun k => g (p k)) = ((List.range n).map p).map g := by rw [List.map_map]; rfl
  rw [e]
  apply perm_sum
  apply List.Perm.map
  refine (List.perm_ext_iff_of_nodup (nodup_map (fun a b ha hb e => ?_) List.nodup_range) List.nodup_range).mpr fun a => ?_
  · have := h2 a (List.mem_range.mp ha)
    rw [e, h2 b (List.mem_range.mp hb)] at this
    exact this.symm
  · rw [List.mem_map]
    constructor
    · rintro ⟨k, hk, rfl⟩
      exact List.mem_range.mpr (h1 k (List.mem_range.mp hk))
    · intro ha
      exact ⟨p a, List.mem_range.mpr (h1 a (List.mem_range.mp ha)), h2 a (List.mem_range.mp ha)⟩
/-! ### the norms -/
def nrm (n : Nat) (f : Vec) : Int := sumN (fun k => gnorm (f k)) (2 ^ n)
theorem nrm_nonneg (n : Nat) (f : Vec) : 0 ≤ nrm n f := sumN_nonneg fun _ _ => gnorm_nonneg _
theorem nrm_strike {n : Nat} (f : Vec) {r : Row} (hx : r.x < 2 ^ n) : nrm n (strike f r) = nrm n f := by
  unfold nrm
  have e : sumN (fun k => gnorm (strike f r k)) (2 ^ n) = sumN (fun k => (fun j => gnorm (f j)) (k ^^^ r.x)) (2 ^ n) := sumN_congr fun k _ => gnorm_spun _ _
  rw [e]
  exact sumN_perm (fun j => gnorm (f j)) (fun k => k ^^^ r.x) _ (fun k hk => Nat.xor_lt_two_pow hk hx) fun k _ => xor_cancel _ _
theorem sh_lt' {b : Bool} {w n : Nat} (h : w < n) : sh b w < 2 ^ n := sh_lt h
theorem nrm_chg {n : Nat} (f : Vec) {m : Mv} (hm : m.Ok n) : nrm n (chg f m) = scaleOf m * nrm n f := by
  have perm : ∀ p : Nat → Nat, (∀ k, k < 2 ^ n → p k < 2 ^ n) → (∀ k, k < 2 ^ n → p (p k) = k) → (∀ k, chg f m k = f (p k)) → nrm n (chg f m) = nrm n f := fun p h1 h2 h3 => by
    unfold nrm
    have e : sumN (fun k => gnorm (chg f m k)) (2 ^ n) = sumN (fun k => (fun j => gnorm (f j)) (p k)) (2 ^ n) := sumN_congr fun k _ => by rw [h3]
    rw [e]
    exact sumN_perm (fun j => gnorm (f j)) p _ h1 h2
  have spin : (∀ k, ∃ t, chg f m k = spun (f k) t) → nrm n (chg f m) = nrm n f := fun h => sumN_congr fun k _ => by
    obtain ⟨t, e⟩ := h k
    rw [e, gnorm_spun]
  cases m with
  | one q w =>
    have hw : w < n := hm
    cases q with
    | mix =>
      show _ = 2 * nrm n f
      have px : ∀ k, k < 2 ^ n → k ^^^ sh true w < 2 ^ n := fun k hk => Nat.xor_lt_two_pow hk (sh_lt hw)
      have e1 : sumN (fun k => gnorm (chg f (.one .mix w) (k ^^^ sh true w))) (2 ^ n) = nrm n (chg f (.one .mix w)) :=
        sumN_perm (fun j => gnorm (chg f (.one .mix w) j)) (fun k => k ^^^ sh true w) _ px fun k _ => xsh2 _ _ _
      have e2 : sumN (fun k => gnorm (f (k ^^^ sh true w))) (2 ^ n) = nrm n f :=
        sumN_perm (fun j => gnorm (f j)) (fun k => k ^^^ sh true w) _ px fun k _ => xsh2 _ _ _
      have e3 : ∀ k, gnorm (chg f (.one .mix w) k) + gnorm (chg f (.one .mix w) (k ^^^ sh true w)) = 2 * (gnorm (f k) + gnorm (f (k ^^^ sh true w))) := fun k => by
        rw [chg_mix, chg_mix, testBit_xsh_same, xsh2]
        cases k.testBit w
        · simp only [Bool.false_eq_true, if_false, Bool.false_xor, if_true]
          unfold gnorm gadd gsub
          simp only
          grind
        · simp only [if_true, Bool.xor_self, Bool.false_eq_true, if_false]
          unfold gnorm gadd gsub
          simp only
          grind
      have e4 : nrm n (chg f (.one .mix w)) + nrm n (chg f (.one .mix w)) = 2 * (nrm n f + nrm n f) := by
        have a : nrm n (chg f (.one .mix w)) + nrm n (chg f (.one .mix w)) = sumN (fun k => gnorm (chg f (.one .mix w) k) + gnorm (chg f (.one .mix w) (k ^^^ sh true w))) (2 ^ n) := by
          rw [sumN_add, e1]; rfl
        have b : sumN (fun k => 2 * (gnorm (f k) + gnorm (f (k ^^^ sh true w)))) (2 ^ n) = 2 * (nrm n f + nrm n f) := by
          rw [sumN_mul, sumN_add, e2]; rfl
        rw [a, ← b]
        exact sumN_congr fun k _ => e3 k
      omega
    | flip =>
      show _ = 1 * nrm n f
      rw [Int.one_mul]
      exact perm (fun k => k ^^^ sh true w) (fun k hk => Nat.xor_lt_two_pow hk (sh_lt hw)) (fun k _ => xsh2 _ _ _) fun k => rfl
    | quarter => show _ = 1 * nrm n f; rw [Int.one_mul]; exact spin fun k => ⟨_, chg_spin f .quarter w (by decide) (by decide) k⟩
    | back => show _ = 1 * nrm n f; rw [Int.one_mul]; exact spin fun k => ⟨_, chg_spin f .back w (by decide) (by decide) k⟩
    | sign => show _ = 1 * nrm n f; rw [Int.one_mul]; exact spin fun k => ⟨_, chg_spin f .sign w (by decide) (by decide) k⟩
  | two q w v =>
    have hw : w < n := hm.1
    have hv : v < n := hm.2.1
    have hwv : w ≠ v := hm.2.2
    have hvw : v ≠ w := fun e => hwv e.symm
    show _ = 1 * nrm n f
    rw [Int.one_mul]
    cases q with
    | join =>
      refine perm (fun k => k ^^^ sh (k.testBit w) v) (fun k hk => Nat.xor_lt_two_pow hk (sh_lt hv)) (fun k _ => ?_) fun k => rfl
      rw [testBit_xsh _ _ _ _ hwv, xsh2]
    | both => exact spin fun k => ⟨_, ite_spun _ _ _⟩
    | swap =>
      refine perm (fun k => k ^^^ sh (k.testBit w ^^ k.testBit v) w ^^^ sh (k.testBit w ^^ k.testBit v) v) (fun k hk => Nat.xor_lt_two_pow (Nat.xor_lt_two_pow hk (sh_lt hw)) (sh_lt hv)) (fun k _ => ?_) fun k => ?_
      · rw [testBit_xsh _ _ _ _ hwv, testBit_xsh_same, testBit_xsh_same, testBit_xsh _ _ _ _ hvw]
        have e : ((k.testBit w ^^ (k.testBit w ^^ k.testBit v)) ^^ (k.testBit v ^^ (k.testBit w ^^ k.testBit v))) = (k.testBit w ^^ k.testBit v) := by
          cases k.testBit w <;> cases k.testBit v <;> rfl
        rw [e, xac (k ^^^ sh (k.testBit w ^^ k.testBit v) w), xsh2, xsh2]
      · show (if k.testBit w = k.testBit v then f k else f (k ^^^ (1 <<< w) ^^^ (1 <<< v))) = _
        cases k.testBit w <;> cases k.testBit v <;> simp [sh_false, sh_true]
def scales : List Mv → Int
  | [] => 1
  | m :: r => scales r * scaleOf m
theorem scaleOf_pos (m : Mv) : 0 < scaleOf m := by
  cases m with
  | one k w => cases k <;> simp [scaleOf]
  | two k w v => simp [scaleOf]
theorem scales_pos : ∀ ms : List Mv, 0 < scales ms
  | [] => by decide
  | m :: r => Int.mul_pos (scales_pos r) (scaleOf_pos m)
theorem nrm_chgs {n : Nat} : ∀ (ms : List Mv), MsOk n ms → ∀ f, nrm n (chgs f ms) = scales ms * nrm n f
  | [], _, f => by simp [chgs_nil, scales]
  | m :: r, h, f => by
    show nrm n (chgs (chg f m) r) = scales r * scaleOf m * nrm n f
    rw [nrm_chgs r (fun x hx => h x (List.mem_cons_of_mem _ hx)), nrm_chg f (h m List.mem_cons_self), Int.mul_assoc]
theorem nrm_zero {n : Nat} {f : Vec} (h : nrm n f = 0) : ∀ k, k < 2 ^ n → f k = (0, 0) := fun k hk => gnorm_zero (sumN_zero (fun _ _ => gnorm_nonneg _) h k hk)

/-! ### what stands beyond the vector does not matter -/
def Agree (n : Nat) (f g : Vec) : Prop := ∀ k, k < 2 ^ n → f k = g k
theorem Agree.chg {n : Nat} {f g : Vec} (h : Agree n f g) {m : Mv} (hm : m.Ok n) : Agree n (chg f m) (chg g m) := fun k hk => by
  cases m with
  | one q w =>
    have hw : w < n := hm
    have e := h (k ^^^ sh true w) (Nat.xor_lt_two_pow hk (sh_lt hw))
    cases q <;> simp only [Sg.chg, one_shl] <;> (try rw [e]) <;> (try rw [h k hk])
  | two q w v =>
    have hw : w < n := hm.1
    have hv : v < n := hm.2.1
    cases q <;> simp only [Sg.chg, one_shl, bt_shl]
    · exact h _ (Nat.xor_lt_two_pow hk (sh_lt hv))
    · rw [h k hk]
    · rw [h k hk, h _ (Nat.xor_lt_two_pow (Nat.xor_lt_two_pow hk (sh_lt hw)) (sh_lt hv))]
theorem Agree.strike {n : Nat} {f g : Vec} (h : Agree n f g) {r : Row} (hx : r.x < 2 ^ n) : Agree n (strike f r) (strike g r) := fun k hk => by
  unfold Sg.strike
  rw [h _ (Nat.xor_lt_two_pow hk hx)]
theorem Agree.chgs {n : Nat} : ∀ (ms : List Mv), MsOk n ms → ∀ {f g : Vec}, Agree n f g → Agree n (chgs f ms) (chgs g ms)
  | [], _, _, _, h => h
  | m :: r, hm, _, _, h => Agree.chgs r (fun x hx => hm x (List.mem_cons_of_mem _ hx)) (h.chg (hm m List.mem_cons_self))

/-! ### what leaves all rows as they are is a factor -/
def res (n k : Nat) (f : Vec) : Vec := fun j => if j % 2 ^ n = k % 2 ^ n then f j else (0, 0)
def IdOn (n : Nat) (ms : List Mv) : Prop := ∀ j, j < 2 * n → Rel ms (gen j) (gen j)
theorem IdOn.row {n : Nat} {ms : List Mv} (h : IdOn n ms) {r : Row} (hx : r.x < 2 ^ n) (hz : r.z < 2 ^ n) : Rel ms r r :=
  (carriedF_rel (im := gen) h hx hz).alk (carried_gen hx hz) (Alk.refl _)
theorem strike_z (f : Vec) (w k : Nat) : strike f ⟨0, 0, 1 <<< w⟩ k = spun (f k) (2 * (k.testBit w).toNat) := by
  rw [strike_eq]
  show spun (f (k ^^^ 0)) (0 + 2 * (dot (1 <<< w) (k ^^^ 0)).toNat) = _
  rw [Nat.xor_zero, Nat.zero_add, one_shl, dot_sh_left]
  simp
theorem mod_bit (j k n : Nat) : (j % 2 ^ (n + 1) = k % 2 ^ (n + 1)) ↔ (j % 2 ^ n = k % 2 ^ n ∧ j.testBit n = k.testBit n) := by
  constructor
  · intro h
    constructor
    · apply xor_eq_of_bits
      intro i
      have e := congrArg (fun x => x.testBit i) h
      simp only [Nat.testBit_mod_two_pow] at e ⊢
      by_cases hi : i < n
      · have : i < n + 1 := by omega
        simp [hi, this] at e ⊢; exact e
      · simp [hi]
    · have e := congrArg (fun x => x.testBit n) h
      simp only [Nat.testBit_mod_two_pow] at e
      simpa using e
  · rintro ⟨h1, h2⟩
    rw [mod_succ_bit, mod_succ_bit, h1, h2]
theorem res_step {n' k : Nat} (f : Vec) : vadd (res n' k f) (strike (res n' k f) ⟨2 * (k.testBit n').toNat, 0, 1 <<< n'⟩) = scale 2 (res (n' + 1) k f) := by
  funext j
  show gadd _ _ = _
  have e : strike (res n' k f) ⟨2 * (k.testBit n').toNat, 0, 1 <<< n'⟩ j = spun (res n' k f j) (2 * (k.testBit n').toNat + 2 * (j.testBit n').toNat) := by
    rw [strike_eq]
    show spun (res n' k f (j ^^^ 0)) (_ + 2 * (dot (1 <<< n') (j ^^^ 0)).toNat) = _
    rw [Nat.xor_zero, one_shl, dot_sh_left, Bool.true_and]
  rw [e]
  unfold scale res
  have hb := mod_bit j k n'
  by_cases h : j % 2 ^ n' = k % 2 ^ n'
  · by_cases h2 : j.testBit n' = k.testBit n'
    · rw [if_pos h, if_pos (hb.mpr ⟨h, h2⟩), h2]
      cases k.testBit n' <;> simp [spun, gadd] <;> constructor <;> omega
    · rw [if_pos h, if_neg fun q => h2 (hb.mp q).2]
      cases h3 : k.testBit n' <;> cases h4 : j.testBit n' <;> rw [h3, h4] at h2 <;> simp at h2 <;> simp [spun, gadd] <;> omega
  · rw [if_neg h, if_neg fun q => h (hb.mp q).1]
    rcases mod4 (2 * (k.testBit n').toNat + 2 * (j.testBit n').toNat) with q | q | q | q <;> simp [spun, gadd, q]
theorem res_all {n : Nat} {ms : List Mv} (h : IdOn n ms) (f : Vec) (k : Nat) : ∀ n', n' ≤ n → chgs (res n' k f) ms k = chgs f ms k
  | 0, _ => by
    have e : res 0 k f = f := by funext j; unfold res; simp [Nat.mod_one]
    rw [e]
  | n' + 1, hn => by
    have ih := res_all h f k n' (by omega)
    have hz : (1 <<< n' : Nat) < 2 ^ n := by rw [Nat.one_shiftLeft]; exact Nat.pow_lt_pow_right (by decide) (by omega)
    have hr : Rel ms ⟨2 * (k.testBit n').toNat, 0, 1 <<< n'⟩ ⟨2 * (k.testBit n').toNat, 0, 1 <<< n'⟩ := h.row (Nat.two_pow_pos n) hz
    have e1 := congrArg (fun v => chgs v ms k) (res_step (n' := n') (k := k) f)
    rw [chgs_vadd, hr, scale_vmul, chgs_vmul] at e1
    have e2 : strike (chgs (res n' k f) ms) ⟨2 * (k.testBit n').toNat, 0, 1 <<< n'⟩ k = chgs (res n' k f) ms k := by
      rw [strike_eq]
      show spun (chgs (res n' k f) ms (k ^^^ 0)) (_ + 2 * (dot (1 <<< n') (k ^^^ 0)).toNat) = _
      rw [Nat.xor_zero, one_shl, dot_sh_left, Bool.true_and]
      cases k.testBit n' <;> simp [spun]
    have e3 : gadd (chgs (res n' k f) ms k) (chgs (res n' k f) ms k) = gmul (2, 0) (chgs (res (n' + 1) k f) ms k) := by
      have q : vadd (chgs (res n' k f) ms) (strike (chgs (res n' k f) ms) ⟨2 * (k.testBit n').toNat, 0, 1 <<< n'⟩) k = gadd (chgs (res n' k f) ms k) (chgs (res n' k f) ms k) := by
        show gadd _ _ = _
        rw [e2]
      rw [← q, e1]
      rfl
    have e4 : gmul (2, 0) (chgs (res n' k f) ms k) = gmul (2, 0) (chgs (res (n' + 1) k f) ms k) := by
      rw [← e3]; unfold gmul gadd; simp <;> constructor <;> omega
    rw [← gmul_cancel (by simp) e4]
    exact ih
def unit (k : Nat) : Vec := fun j => if j = k then (1, 0) else (0, 0)
theorem strike_unit (k : Nat) : strike (unit 0) ⟨0, k, 0⟩ = unit k := by
  funext j
  rw [strike_eq]
  show spun (unit 0 (j ^^^ k)) (0 + 2 * (dot 0 (j ^^^ k)).toNat) = _
  rw [dot_zero_left]
  show unit 0 (j ^^^ k) = _
  unfold unit
  by_cases h : j = k
  · subst h; simp
  · have : j ^^^ k ≠ 0 := fun e => h (by
      have := xor_cancel j k
      rw [e, Nat.zero_xor] at this
      exact this.symm)
    rw [if_neg h, if_neg this]
theorem factor {n : Nat} {ms : List Mv} (h : IdOn n ms) (hm : MsOk n ms) : ∃ c : G, c ≠ (0, 0) ∧ ∀ f k, k < 2 ^ n → chgs f ms k = gmul c (f k) := by
  have key : ∀ f k, k < 2 ^ n → chgs f ms k = gmul (chgs (unit 0) ms 0) (f k) := fun f k hk => by
    rw [← res_all h f k n (Nat.le_refl n)]
    have e1 : Agree n (res n k f) (vmul (f k) (unit k)) := fun j hj => by
      unfold res vmul unit
      rw [Nat.mod_eq_of_lt hj, Nat.mod_eq_of_lt hk]
      by_cases q : j = k
      · subst q; simp [gmul]
      · simp [q, gmul]
    rw [Agree.chgs ms hm e1 k hk, chgs_vmul]
    show gmul (f k) _ = _
    rw [← strike_unit k]
    have hr : Rel ms ⟨0, k, 0⟩ ⟨0, k, 0⟩ := h.row hk (Nat.two_pow_pos n)
    rw [hr, strike_eq]
    show gmul (f k) (spun (chgs (unit 0) ms (k ^^^ k)) (0 + 2 * (dot 0 (k ^^^ k)).toNat)) = _
    rw [dot_zero_left, Nat.xor_self, gmul_comm]
    rfl
  refine ⟨chgs (unit 0) ms 0, fun e => ?_, key⟩
  have z : nrm n (chgs (unit 0) ms) = 0 := by
    have : nrm n (chgs (unit 0) ms) = sumN (fun _ => 0) (2 ^ n) := sumN_congr fun k hk => by
      rw [key _ k hk, e, gmul_zero_left]; rfl
    rw [this]
    have z0 : ∀ m, sumN (fun _ => 0) m = 0 := fun m => by induction m with
      | zero => rfl
      | succ m ih => simp only [sumN]; rw [ih]; rfl
    exact z0 _
  rw [nrm_chgs ms hm] at z
  have z1 : nrm n (unit 0) = 0 := by
    rcases Int.mul_eq_zero.mp z with q | q
    · have := scales_pos ms; omega
    · exact q
  have z2 := nrm_zero z1 0 (Nat.two_pow_pos n)
  exact absurd z2 (by unfold unit; simp)
end Sg

namespace Sg
/-! ### what moves keep of rows -/
def Straight (r : Row) : Prop := (r.t + pc (r.x &&& r.z)) % 2 = 0
theorem straight_iff (r : Row) : Straight r ↔ (r.t + (dot r.x r.z).toNat) % 2 = 0 := by
  unfold Straight dot
  rcases Nat.mod_two_eq_zero_or_one (pc (r.x &&& r.z)) with h | h <;> simp [h] <;> omega
theorem moved_straight {n : Nat} {r : Row} (h : Straight r) {m : Mv} (hm : m.Ok n) : Straight (moved r m) := by
  rw [straight_iff] at h ⊢
  cases m with
  | one q w =>
    show ((moved1 r q w).t + (dot (moved1 r q w).x (moved1 r q w).z).toNat) % 2 = 0
    rw [moved_x1, moved_z1]
    cases q <;> simp only [moved1, bt, dot_xor_left, dot_xor_right, dot_sh, dot_sh_left, Nat.testBit_xor, testBit_sh] <;>
      cases hd : dot r.x r.z <;> rw [hd] at h <;> cases r.x.testBit w <;> cases r.z.testBit w <;> simp at h ⊢ <;> omega
  | two q w v =>
    have hwv : w ≠ v := hm.2.2
    have hvw : v ≠ w := fun e => hwv e.symm
    show ((moved2 r q w v).t + (dot (moved2 r q w v).x (moved2 r q w v).z).toNat) % 2 = 0
    rw [moved_x2, moved_z2]
    cases q <;> simp only [moved2, bt, dot_xor_left, dot_xor_right, dot_sh, dot_sh_left, testBit_sh, Nat.testBit_xor] <;>
      cases hd : dot r.x r.z <;> rw [hd] at h <;> cases r.x.testBit w <;> cases r.z.testBit w <;> cases r.x.testBit v <;> cases r.z.testBit v <;> simp [hwv, hvw] at h ⊢ <;> omega
theorem moved_crosses {n : Nat} (a b : Row) {m : Mv} (hm : m.Ok n) : crosses (moved a m) (moved b m) = crosses a b := by
  rw [crosses_eq, crosses_eq]
  cases m with
  | one q w =>
    show (dot (moved1 a q w).x (moved1 b q w).z ^^ dot (moved1 a q w).z (moved1 b q w).x) = _
    rw [moved_x1, moved_z1, moved_x1, moved_z1]
    cases q <;> simp only [dot_xor_left, dot_xor_right, dot_sh, dot_sh_left, testBit_sh, Nat.testBit_xor] <;>
      generalize dot a.x b.z = p <;> generalize dot a.z b.x = q <;> (try generalize dot a.x b.x = p2) <;> (try generalize dot a.z b.z = q2) <;>
      generalize a.x.testBit w = ax <;> generalize a.z.testBit w = az <;> generalize b.x.testBit w = bx <;> generalize b.z.testBit w = bz <;> simp <;> revert p q ax az bx bz <;> decide
  | two q w v =>
    have hwv : w ≠ v := hm.2.2
    have hvw : v ≠ w := fun e => hwv e.symm
    show (dot (moved2 a q w v).x (moved2 b q w v).z ^^ dot (moved2 a q w v).z (moved2 b q w v).x) = _
    rw [moved_x2, moved_z2, moved_x2, moved_z2]
    cases q <;> simp only [dot_xor_left, dot_xor_right, dot_sh, dot_sh_left, testBit_sh, Nat.testBit_xor, hwv, hvw, decide_true, decide_false, Bool.and_true, Bool.and_false, Bool.xor_false] <;>
      generalize dot a.x b.z = p <;> generalize dot a.z b.x = q <;>
      generalize a.x.testBit w = ax <;> generalize a.z.testBit w = az <;> generalize b.x.testBit w = bx <;> generalize b.z.testBit w = bz <;>
      generalize a.x.testBit v = cx <;> generalize a.z.testBit v = cz <;> generalize b.x.testBit v = dx <;> generalize b.z.testBit v = dz <;>
      cases ax <;> cases az <;> cases bx <;> cases bz <;> cases cx <;> cases cz <;> cases dx <;> cases dz <;> cases p <;> cases q <;> rfl
/-! ### the fair copy -/
abbrev GS := List Row × List Mv
def takeS (s : GS) (m : Mv) : GS := (s.1.map fun r => moved r m, s.2 ++ [m])
def loopS (f : Nat → GS → GS) (lo : Nat) : Nat → GS → GS
  | 0, s => s
  | k + 1, s => f (lo + k) (loopS f lo k s)
def lowest (x : Nat) : Nat := if h : x = 0 then 0 else if x % 2 = 1 then 0 else lowest (x / 2) + 1
termination_by x
decreasing_by omega
theorem lowest_spec : ∀ (x : Nat), x ≠ 0 → x.testBit (lowest x) = true ∧ ∀ i, i < lowest x → x.testBit i = false := by
  intro x
  induction x using Nat.strongRecOn with
  | ind x ih =>
    intro h
    rw [lowest, dif_neg h]
    by_cases e : x % 2 = 1
    · rw [if_pos e]
      refine ⟨?_, fun i hi => absurd hi (by omega)⟩
      rw [Nat.testBit_zero]; simp [e]
    · rw [if_neg e]
      obtain ⟨h1, h2⟩ := ih (x / 2) (by omega) (by omega)
      refine ⟨by rw [Nat.testBit_succ]; exact h1, fun i hi => ?_⟩
      cases i with
      | zero => rw [Nat.testBit_zero]; simp [e]
      | succ i => rw [Nat.testBit_succ]; exact h2 i (by omega)
def gatherA (at_ other : Nat) (s : GS) : GS :=
  if (lk s.1 at_).z.testBit other then (if (lk s.1 at_).x.testBit other then takeS s (.one .quarter other) else takeS s (.one .mix other)) else s
def gatherB (at_ wire : Nat) (s : GS) : GS :=
  if (lk s.1 at_).x.testBit wire then s else takeS s (.two .swap wire (lowest (lk s.1 at_).x))
def gatherC (at_ wire other : Nat) (s : GS) : GS :=
  if (lk s.1 at_).x.testBit other then takeS s (.two .join wire other) else s
def gather (n at_ wire : Nat) (s : GS) : GS :=
  loopS (gatherC at_ wire) (wire + 1) (n - (wire + 1)) (gatherB at_ wire (loopS (gatherA at_) wire (n - wire) s))
def clearA (n w : Nat) (s : GS) : GS :=
  if (lk s.1 (2 * w + 1)).x = 0 ∧ (lk s.1 (2 * w + 1)).z = 1 <<< w then s
  else takeS (gather n (2 * w + 1) w (takeS s (.one .mix w))) (.one .mix w)
def clearB (w : Nat) (s : GS) : GS := if (lk s.1 (2 * w)).t = 2 then takeS s (.one .sign w) else s
def clearC (w : Nat) (s : GS) : GS := if (lk s.1 (2 * w + 1)).t = 2 then takeS s (.one .flip w) else s
def clearWire (n w : Nat) (s : GS) : GS := clearC w (clearB w (clearA n w (gather n (2 * w) w s)))
def fairS (n : Nat) (ms : List Mv) : GS := loopS (clearWire n) 0 n (doing n ms, [])
def fair (n : Nat) (ms : List Mv) : List Mv := (fairS n ms).2.reverse.map undone

/-- what holds while the steps are found: wires below w are done -/
structure Good (n : Nat) (ms : List Mv) (w : Nat) (s : GS) : Prop where
  len : s.1.length = 2 * n
  ok : ∀ j, j < 2 * n → (lk s.1 j).Ok n
  str : ∀ j, j < 2 * n → Straight (lk s.1 j)
  cr : ∀ i j, i < 2 * n → j < 2 * n → crosses (lk s.1 i) (lk s.1 j) = crosses (gen i) (gen j)
  dn : ∀ j, j < 2 * w → lk s.1 j = gen j
  st : MsOk n s.2
  ln : ∀ j, j < 2 * n → lk s.1 j = movs (gen j) (ms ++ s.2)
theorem lk_map {im : List Row} {j : Nat} (f : Row → Row) (h : j < im.length) : lk (im.map f) j = f (lk im j) := by
  unfold lk
  rw [List.getD_eq_getElem?_getD, List.getD_eq_getElem?_getD, List.getElem?_map, List.getElem?_eq_getElem h]
  rfl
theorem lk_take {s : GS} {m : Mv} {j : Nat} (h : j < s.1.length) : lk (takeS s m).1 j = moved (lk s.1 j) m := lk_map _ h
theorem gen_t (j : Nat) : (gen j).t < 4 := by unfold gen; split <;> exact Nat.zero_lt_succ 3
theorem Good.take {n : Nat} {ms : List Mv} {w : Nat} {s : GS} (h : Good n ms w s) {m : Mv} (hm : m.Ok n) (hw : ∀ v ∈ wiresOf m, w ≤ v) (hwn : w ≤ n) : Good n ms w (takeS s m) where
  len := by show (s.1.map _).length = _; rw [List.length_map]; exact h.len
  ok := fun j hj => by rw [lk_take (by rw [h.len]; exact hj)]; exact moved_ok (h.ok j hj) hm
  str := fun j hj => by rw [lk_take (by rw [h.len]; exact hj)]; exact moved_straight (h.str j hj) hm
  cr := fun i j hi hj => by rw [lk_take (by rw [h.len]; exact hi), lk_take (by rw [h.len]; exact hj), moved_crosses _ _ hm]; exact h.cr i j hi hj
  dn := fun j hj => by
    rw [lk_take (by rw [h.len]; omega), h.dn j hj]
    exact gen_away fun q => by have := hw _ q; omega
  st := fun x hx => by
    rcases List.mem_append.mp hx with q | q
    · exact h.st x q
    · rw [List.mem_singleton.mp q]; exact hm
  ln := fun j hj => by
    rw [lk_take (by rw [h.len]; exact hj), h.ln j hj]
    show _ = movs (gen j) (ms ++ (s.2 ++ [m]))
    rw [← List.append_assoc, movs_snoc]
theorem cross_gx (r : Row) (v : Nat) : crosses r (gen (2 * v)) = r.z.testBit v := by
  rw [gen_x, crosses_eq]; simp only [dot_zero_right, one_shl, dot_sh]; simp
theorem cross_gz (r : Row) (v : Nat) : crosses r (gen (2 * v + 1)) = r.x.testBit v := by
  rw [gen_z, crosses_eq]; simp only [dot_zero_right, one_shl, dot_sh]; simp
theorem gen_testBit_z (j v : Nat) : (gen j).z.testBit v = (decide (j % 2 = 1) && decide (v = j / 2)) := by
  unfold gen
  by_cases h : j % 2 = 0
  · rw [if_pos h, Nat.zero_testBit]; simp [h]
  · rw [if_neg h, one_shl, testBit_sh]; have : j % 2 = 1 := by omega
    simp [this]
theorem gen_testBit_x (j v : Nat) : (gen j).x.testBit v = (decide (j % 2 = 0) && decide (v = j / 2)) := by
  unfold gen
  by_cases h : j % 2 = 0
  · rw [if_pos h, one_shl, testBit_sh]; simp [h]
  · rw [if_neg h, Nat.zero_testBit]; simp [h]
theorem Good.low {n : Nat} {ms : List Mv} {w : Nat} {s : GS} (h : Good n ms w s) (hwn : w ≤ n) {j v : Nat} (hj : 2 * w ≤ j) (hj2 : j < 2 * n) (hv : v < w) : (lk s.1 j).x.testBit v = false ∧ (lk s.1 j).z.testBit v = false := by
  have e1 := h.cr j (2 * v) hj2 (by omega)
  have e2 := h.cr j (2 * v + 1) hj2 (by omega)
  rw [h.dn (2 * v) (by omega), cross_gx, cross_gx, gen_testBit_z] at e1
  rw [h.dn (2 * v + 1) (by omega), cross_gz, cross_gz, gen_testBit_x] at e2
  have q : ¬ v = j / 2 := by omega
  rw [e1, e2]; simp [q]
def mate (j : Nat) : Nat := if j % 2 = 0 then j + 1 else j - 1
theorem Good.some {n : Nat} {ms : List Mv} {w : Nat} {s : GS} (h : Good n ms w s) {j : Nat} (hj : j < 2 * n) : ¬ ((lk s.1 j).x = 0 ∧ (lk s.1 j).z = 0) := by
  rintro ⟨hx, hz⟩
  have e := h.cr j (mate j) hj (by unfold mate; split <;> omega)
  rw [crosses_eq, hx, hz, dot_zero_left, dot_zero_left] at e
  unfold mate at e
  split at e
  · rename_i q
    have : j = 2 * (j / 2) := by omega
    rw [this, cross_gz, gen_testBit_x] at e
    have q1 : 2 * (j / 2) % 2 = 0 := by omega
    have q2 : 2 * (j / 2) / 2 = j / 2 := by omega
    rw [q1, q2] at e
    simp at e
  · rename_i q
    have : j - 1 = 2 * (j / 2) := by omega
    rw [this, cross_gx, gen_testBit_z] at e
    have q1 : j % 2 = 1 := by omega
    rw [q1] at e
    simp at e
theorem zero_of_bits {n x : Nat} (hx : x < 2 ^ n) (h : ∀ i, i < n → x.testBit i = false) : x = 0 := by
  apply xor_eq_of_bits
  intro i
  rw [Nat.zero_testBit]
  by_cases q : i < n
  · exact h i q
  · exact Nat.testBit_lt_two_pow (Nat.lt_of_lt_of_le hx (Nat.pow_le_pow_right (by decide) (by omega)))
theorem bit_lt {n x i : Nat} (hx : x < 2 ^ n) (h : x.testBit i = true) : i < n := by
  by_cases q : i < n
  · exact q
  · rw [Nat.testBit_lt_two_pow (Nat.lt_of_lt_of_le hx (Nat.pow_le_pow_right (by decide) (by omega)))] at h; cases h

/-- the row of the X stands as a Z meanwhile -/
def Zf (w t0 : Nat) (s : GS) : Prop := lk s.1 (2 * w) = ⟨t0, 0, 1 <<< w⟩
theorem zf_x {n : Nat} {ms : List Mv} {w t0 : Nat} {s : GS} (h : Good n ms w s) (hw : w < n) (z : Zf w t0 s) : (lk s.1 (2 * w + 1)).x.testBit w = true := by
  have e := h.cr (2 * w + 1) (2 * w) (by omega) (by omega)
  rw [z, cross_gx, gen_testBit_z, crosses_eq, one_shl, dot_zero_right, dot_sh] at e
  have q1 : (2 * w + 1) % 2 = 1 := by omega
  have q2 : (2 * w + 1) / 2 = w := by omega
  rw [q1, q2] at e
  simpa using e
theorem moved_zf {w t0 other : Nat} (ht : t0 < 4) : moved ⟨t0, 0, 1 <<< w⟩ (.one .quarter other) = ⟨t0, 0, 1 <<< w⟩ := by
  simp [moved, moved1, bt, Nat.mod_eq_of_lt ht]
theorem moved_zf_mix {w t0 other : Nat} (ht : t0 < 4) (h : other ≠ w) : moved ⟨t0, 0, 1 <<< w⟩ (.one .mix other) = ⟨t0, 0, 1 <<< w⟩ := by
  simp [moved, moved1, bt, Nat.mod_eq_of_lt ht, testBit_one_shl _ _ h]
theorem moved_zf_join {w t0 other : Nat} (h : other ≠ w) : moved ⟨t0, 0, 1 <<< w⟩ (.two .join w other) = ⟨t0, 0, 1 <<< w⟩ := by
  simp [moved, moved2, bt, testBit_one_shl _ _ h]
structure GA (n : Nat) (ms : List Mv) (w at_ i : Nat) (P : Prop) (t0 : Nat) (s : GS) : Prop where
  g : Good n ms w s
  z : ∀ v, w ≤ v → v < w + i → (lk s.1 at_).z.testBit v = false
  f : P → Zf w t0 s
theorem gatherA_step {n : Nat} {ms : List Mv} {w at_ i t0 : Nat} {P : Prop} {s : GS} (h : GA n ms w at_ i P t0 s) (hp : P → at_ = 2 * w + 1 ∧ t0 < 4) (ha : at_ < 2 * n) (hi : w + i < n) : GA n ms w at_ (i + 1) P t0 (gatherA at_ (w + i) s) := by
  unfold gatherA
  have hl : at_ < s.1.length := by rw [h.g.len]; exact ha
  have hl2 : 2 * w < s.1.length := by rw [h.g.len]; omega
  by_cases h1 : (lk s.1 at_).z.testBit (w + i) = true
  · rw [if_pos h1]
    by_cases h2 : (lk s.1 at_).x.testBit (w + i) = true
    · rw [if_pos h2]
      refine ⟨h.g.take hi (by intro v hv; rw [wires_one] at hv; rw [List.mem_singleton.mp hv]; omega) (by omega), fun v hv hv2 => ?_, fun p => ?_⟩
      · rw [lk_take hl]
        show (moved1 _ .quarter (w + i)).z.testBit v = false
        rw [moved_z1, h2, Nat.testBit_xor, testBit_sh]
        by_cases q : v = w + i
        · subst q; rw [h1]; simp
        · rw [h.z v hv (by omega)]; simp [q]
      · unfold Zf
        rw [lk_take hl2, h.f p]
        exact moved_zf (hp p).2
    · rw [if_neg h2]
      have h2' : (lk s.1 at_).x.testBit (w + i) = false := by simpa using h2
      refine ⟨h.g.take hi (by intro v hv; rw [wires_one] at hv; rw [List.mem_singleton.mp hv]; omega) (by omega), fun v hv hv2 => ?_, fun p => ?_⟩
      · rw [lk_take hl]
        show (moved1 _ .mix (w + i)).z.testBit v = false
        rw [moved_z1, h2', h1, Nat.testBit_xor, testBit_sh]
        by_cases q : v = w + i
        · subst q; rw [h1]; simp
        · rw [h.z v hv (by omega)]; simp [q]
      · unfold Zf
        rw [lk_take hl2, h.f p]
        refine moved_zf_mix (hp p).2 fun e => ?_
        have := zf_x h.g (by omega) (h.f p)
        rw [(hp p).1, e, this] at h2'
        cases h2'
  · rw [if_neg h1]
    refine ⟨h.g, fun v hv hv2 => ?_, h.f⟩
    by_cases q : v = w + i
    · subst q; simpa using h1
    · exact h.z v hv (by omega)
theorem gatherA_loop {n : Nat} {ms : List Mv} {w at_ t0 : Nat} {P : Prop} {s : GS} (h : GA n ms w at_ 0 P t0 s) (hp : P → at_ = 2 * w + 1 ∧ t0 < 4) (ha : at_ < 2 * n) : ∀ i, w + i ≤ n → GA n ms w at_ i P t0 (loopS (gatherA at_) w i s)
  | 0, _ => h
  | i + 1, hi => gatherA_step (gatherA_loop h hp ha i (by omega)) hp ha (by omega)
/-- Xs alone -/
structure GB (n : Nat) (ms : List Mv) (w at_ i : Nat) (P : Prop) (t0 : Nat) (s : GS) : Prop where
  g : Good n ms w s
  z : (lk s.1 at_).z = 0
  wb : (lk s.1 at_).x.testBit w = true
  x : ∀ v, w < v → v < w + 1 + i → (lk s.1 at_).x.testBit v = false
  f : P → Zf w t0 s
theorem gatherB_ok {n : Nat} {ms : List Mv} {w at_ t0 : Nat} {P : Prop} {s : GS} (h : GA n ms w at_ (n - w) P t0 s) (hp : P → at_ = 2 * w + 1 ∧ t0 < 4) (ha : at_ < 2 * n) (ha2 : 2 * w ≤ at_) (hw : w < n) : GB n ms w at_ 0 P t0 (gatherB at_ w s) := by
  have hz : (lk s.1 at_).z = 0 := zero_of_bits (h.g.ok at_ ha).z fun i hi => by
    by_cases q : i < w
    · exact (h.g.low (by omega) ha2 ha q).2
    · exact h.z i (by omega) (by omega)
  unfold gatherB
  by_cases h1 : (lk s.1 at_).x.testBit w = true
  · rw [if_pos h1]
    exact ⟨h.g, hz, h1, fun v hv hv2 => absurd hv2 (by omega), h.f⟩
  · rw [if_neg h1]
    have h1' : (lk s.1 at_).x.testBit w = false := by simpa using h1
    have hx : (lk s.1 at_).x ≠ 0 := fun e => h.g.some ha ⟨e, hz⟩
    obtain ⟨l1, l2⟩ := lowest_spec _ hx
    have lw : w < lowest (lk s.1 at_).x := by
      rcases Nat.lt_trichotomy (lowest (lk s.1 at_).x) w with q | q | q
      · rw [(h.g.low (by omega) ha2 ha q).1] at l1; cases l1
      · rw [q, h1'] at l1; cases l1
      · exact q
    have ln := bit_lt (h.g.ok at_ ha).x l1
    have hl : at_ < s.1.length := by rw [h.g.len]; exact ha
    have hne : w ≠ lowest (lk s.1 at_).x := by omega
    refine ⟨h.g.take (m := .two .swap w (lowest (lk s.1 at_).x)) ⟨hw, ln, by omega⟩ (by intro v hv; rw [wires_lt _ lw] at hv; simp at hv; omega) (by omega), ?_, ?_, fun v hv hv2 => absurd hv2 (by omega), fun p => ?_⟩
    · rw [lk_take hl]
      show (moved2 _ .swap w _).z = 0
      rw [moved_z2, hz, Nat.zero_testBit, Nat.zero_testBit]
      simp [sh_false]
    · rw [lk_take hl]
      show (moved2 _ .swap w _).x.testBit w = true
      rw [moved_x2, h1', l1]
      simp [Nat.testBit_xor, testBit_sh, h1', hne]
    · have := zf_x h.g hw (h.f p)
      rw [(hp p).1, this] at h1'
      cases h1'
theorem gatherC_step {n : Nat} {ms : List Mv} {w at_ i t0 : Nat} {P : Prop} {s : GS} (h : GB n ms w at_ i P t0 s) (ha : at_ < 2 * n) (hw : w < n) (hi : w + 1 + i < n) : GB n ms w at_ (i + 1) P t0 (gatherC at_ w (w + 1 + i) s) := by
  unfold gatherC
  have hl : at_ < s.1.length := by rw [h.g.len]; exact ha
  have hl2 : 2 * w < s.1.length := by rw [h.g.len]; omega
  by_cases h1 : (lk s.1 at_).x.testBit (w + 1 + i) = true
  · rw [if_pos h1]
    have hlt : w < w + 1 + i := by omega
    refine ⟨h.g.take (m := .two .join w (w + 1 + i)) ⟨hw, hi, by omega⟩ (by intro v hv; rw [wires_lt _ hlt] at hv; simp at hv; omega) (by omega), ?_, ?_, fun v hv hv2 => ?_, fun p => ?_⟩
    · rw [lk_take hl]
      show (moved2 _ .join w _).z = 0
      rw [moved_z2, h.z, Nat.zero_testBit]
      simp [sh_false]
    · rw [lk_take hl]
      show (moved2 _ .join w _).x.testBit w = true
      rw [moved_x2, h.wb]
      have : w ≠ w + 1 + i := by omega
      simp [Nat.testBit_xor, testBit_sh, h.wb, this]
    · rw [lk_take hl]
      show (moved2 _ .join w _).x.testBit v = false
      rw [moved_x2, h.wb, Nat.testBit_xor, testBit_sh]
      by_cases q : v = w + 1 + i
      · subst q; rw [h1]; simp
      · rw [h.x v hv (by omega)]; simp [q]
    · unfold Zf
      rw [lk_take hl2, h.f p]
      exact moved_zf_join (by omega)
  · rw [if_neg h1]
    refine ⟨h.g, h.z, h.wb, fun v hv hv2 => ?_, h.f⟩
    by_cases q : v = w + 1 + i
    · subst q; simpa using h1
    · exact h.x v hv (by omega)
theorem gatherC_loop {n : Nat} {ms : List Mv} {w at_ t0 : Nat} {P : Prop} {s : GS} (h : GB n ms w at_ 0 P t0 s) (ha : at_ < 2 * n) (hw : w < n) : ∀ i, w + 1 + i ≤ n → GB n ms w at_ i P t0 (loopS (gatherC at_ w) (w + 1) i s)
  | 0, _ => h
  | i + 1, hi => gatherC_step (gatherC_loop h ha hw i (by omega)) ha hw (by omega)
theorem gather_ok {n : Nat} {ms : List Mv} {w at_ t0 : Nat} {P : Prop} {s : GS} (h : Good n ms w s) (f : P → Zf w t0 s) (hp : P → at_ = 2 * w + 1 ∧ t0 < 4) (ha : at_ < 2 * n) (ha2 : 2 * w ≤ at_) (hw : w < n) :
    Good n ms w (gather n at_ w s) ∧ (lk (gather n at_ w s).1 at_).x = 1 <<< w ∧ (lk (gather n at_ w s).1 at_).z = 0 ∧ (P → Zf w t0 (gather n at_ w s)) := by
  have hA := gatherA_loop (at_ := at_) (P := P) (t0 := t0) ⟨h, fun v hv hv2 => absurd hv2 (by omega), f⟩ hp ha (n - w) (by omega)
  have hB := gatherB_ok hA hp ha ha2 hw
  have hC := gatherC_loop hB ha hw (n - (w + 1)) (by omega)
  refine ⟨hC.g, ?_, hC.z, hC.f⟩
  show (lk (loopS (gatherC at_ w) (w + 1) (n - (w + 1)) (gatherB at_ w (loopS (gatherA at_) w (n - w) s))).1 at_).x = 1 <<< w
  generalize loopS (gatherC at_ w) (w + 1) (n - (w + 1)) (gatherB at_ w (loopS (gatherA at_) w (n - w) s)) = s' at *
  apply xor_eq_of_bits
  intro i
  rw [one_shl, testBit_sh, Bool.true_and]
  rcases Nat.lt_trichotomy i w with q | q | q
  · rw [(hC.g.low (by omega) ha2 ha q).1]; have : i ≠ w := by omega
    simp [this]
  · subst q; rw [hC.wb]; simp
  · have q2 : i ≠ w := by omega
    by_cases q3 : i < n
    · rw [hC.x i q (by omega)]; simp [q2]
    · rw [Nat.testBit_lt_two_pow (Nat.lt_of_lt_of_le (hC.g.ok at_ ha).x (Nat.pow_le_pow_right (by decide) (by omega)))]; simp [q2]
theorem straight_t {r : Row} (h : Straight r) (ht : r.t < 4) (h0 : r.x &&& r.z = 0) : r.t = 0 ∨ r.t = 2 := by
  unfold Straight at h
  rw [h0, pc_zero] at h
  omega
theorem row_ext {r : Row} {t x z : Nat} (h1 : r.t = t) (h2 : r.x = x) (h3 : r.z = z) : r = ⟨t, x, z⟩ := by
  cases r; simp at *; exact ⟨h1, h2, h3⟩
structure GC (n : Nat) (ms : List Mv) (w : Nat) (s : GS) : Prop where
  g : Good n ms w s
  x1 : (lk s.1 (2 * w)).x = 1 <<< w
  z1 : (lk s.1 (2 * w)).z = 0
  x2 : (lk s.1 (2 * w + 1)).x = 0
  z2 : (lk s.1 (2 * w + 1)).z = 1 <<< w
theorem shl_bit (w : Nat) : (1 <<< w : Nat).testBit w = true := by rw [one_shl, testBit_sh]; simp
theorem shl_self (w : Nat) : (1 <<< w : Nat) ^^^ 1 <<< w = 0 := Nat.xor_self _
theorem clearA_ok {n : Nat} {ms : List Mv} {w : Nat} {s : GS} (h : Good n ms w s) (hw : w < n) (hx : (lk s.1 (2 * w)).x = 1 <<< w) (hz : (lk s.1 (2 * w)).z = 0) : GC n ms w (clearA n w s) := by
  unfold clearA
  by_cases c : (lk s.1 (2 * w + 1)).x = 0 ∧ (lk s.1 (2 * w + 1)).z = 1 <<< w
  · rw [if_pos c]; exact ⟨h, hx, hz, c.1, c.2⟩
  · rw [if_neg c]
    have hl : 2 * w < s.1.length := by rw [h.len]; omega
    have mo : ∀ v ∈ wiresOf (.one .mix w), w ≤ v := fun v hv => by rw [wires_one] at hv; rw [List.mem_singleton.mp hv]; omega
    have g1 : Good n ms w (takeS s (.one .mix w)) := h.take hw mo (by omega)
    have f1 : Zf w (lk s.1 (2 * w)).t (takeS s (.one .mix w)) := by
      unfold Zf
      rw [lk_take hl]
      refine row_ext ?_ ?_ ?_
      · show ((lk s.1 (2 * w)).t + 2 * bt (lk s.1 (2 * w)).x w * bt (lk s.1 (2 * w)).z w) % 4 = _
        rw [hz]; simp [bt, Nat.mod_eq_of_lt (h.ok _ (by omega : 2 * w < 2 * n)).t]
      · show (moved1 _ .mix w).x = 0
        rw [moved_x1, hx, hz, shl_bit, Nat.zero_testBit]; simp [sh_true]
      · show (moved1 _ .mix w).z = 1 <<< w
        rw [moved_z1, hx, hz, shl_bit, Nat.zero_testBit]; simp [sh_true]
    obtain ⟨g2, a1, a2, f2⟩ := gather_ok (at_ := 2 * w + 1) (P := True) (t0 := (lk s.1 (2 * w)).t) g1 (fun _ => f1) (fun _ => ⟨rfl, (h.ok _ (by omega)).t⟩) (by omega) (by omega) hw
    have f2 := f2 trivial
    generalize gather n (2 * w + 1) w (takeS s (.one .mix w)) = s2 at *
    have hl2 : 2 * w < s2.1.length := by rw [g2.len]; omega
    have hl3 : 2 * w + 1 < s2.1.length := by rw [g2.len]; omega
    refine ⟨g2.take hw mo (by omega), ?_, ?_, ?_, ?_⟩
    · rw [lk_take hl2, f2]
      show (moved1 _ .mix w).x = _
      rw [moved_x1]; simp [shl_bit, sh_true]
    · rw [lk_take hl2, f2]
      show (moved1 _ .mix w).z = _
      rw [moved_z1]; simp [shl_bit, sh_true]
    · rw [lk_take hl3]
      show (moved1 _ .mix w).x = _
      rw [moved_x1, a1, a2]; simp [shl_bit, sh_true]
    · rw [lk_take hl3]
      show (moved1 _ .mix w).z = _
      rw [moved_z1, a1, a2]; simp [shl_bit, sh_true]
theorem clearB_ok {n : Nat} {ms : List Mv} {w : Nat} {s : GS} (h : GC n ms w s) (hw : w < n) : GC n ms w (clearB w s) ∧ (lk (clearB w s).1 (2 * w)).t = 0 := by
  have ht := straight_t (h.g.str (2 * w) (by omega)) (h.g.ok _ (by omega)).t (by rw [h.z1, Nat.and_zero])
  unfold clearB
  by_cases c : (lk s.1 (2 * w)).t = 2
  · rw [if_pos c]
    have hl : 2 * w < s.1.length := by rw [h.g.len]; omega
    have hl2 : 2 * w + 1 < s.1.length := by rw [h.g.len]; omega
    have mo : ∀ v ∈ wiresOf (.one .sign w), w ≤ v := fun v hv => by rw [wires_one] at hv; rw [List.mem_singleton.mp hv]; omega
    refine ⟨⟨h.g.take hw mo (by omega), ?_, ?_, ?_, ?_⟩, ?_⟩
    · rw [lk_take hl]; exact h.x1
    · rw [lk_take hl]; exact h.z1
    · rw [lk_take hl2]; exact h.x2
    · rw [lk_take hl2]; exact h.z2
    · rw [lk_take hl]
      show ((lk s.1 (2 * w)).t + 2 * bt (lk s.1 (2 * w)).x w) % 4 = 0
      rw [c, h.x1]; simp [bt, shl_bit]
  · rw [if_neg c]; exact ⟨h, by omega⟩
theorem clearC_ok {n : Nat} {ms : List Mv} {w : Nat} {s : GS} (h : GC n ms w s) (hw : w < n) (ht0 : (lk s.1 (2 * w)).t = 0) : Good n ms (w + 1) (clearC w s) := by
  have ht := straight_t (h.g.str (2 * w + 1) (by omega)) (h.g.ok _ (by omega)).t (by rw [h.x2, Nat.zero_and])
  have fin : ∀ s', GC n ms w s' → (lk s'.1 (2 * w)).t = 0 → (lk s'.1 (2 * w + 1)).t = 0 → Good n ms (w + 1) s' := fun s' q q1 q2 =>
    ⟨q.g.len, q.g.ok, q.g.str, q.g.cr, fun j hj => by
      by_cases c1 : j < 2 * w
      · exact q.g.dn j c1
      · by_cases c2 : j = 2 * w
        · rw [c2, gen_x]; exact row_ext q1 q.x1 q.z1
        · have c3 : j = 2 * w + 1 := by omega
          rw [c3, gen_z]; exact row_ext q2 q.x2 q.z2, q.g.st, q.g.ln⟩
  unfold clearC
  by_cases c : (lk s.1 (2 * w + 1)).t = 2
  · rw [if_pos c]
    have hl : 2 * w < s.1.length := by rw [h.g.len]; omega
    have hl2 : 2 * w + 1 < s.1.length := by rw [h.g.len]; omega
    have mo : ∀ v ∈ wiresOf (.one .flip w), w ≤ v := fun v hv => by rw [wires_one] at hv; rw [List.mem_singleton.mp hv]; omega
    refine fin _ ⟨h.g.take hw mo (by omega), ?_, ?_, ?_, ?_⟩ ?_ ?_
    · rw [lk_take hl]; exact h.x1
    · rw [lk_take hl]; exact h.z1
    · rw [lk_take hl2]; exact h.x2
    · rw [lk_take hl2]; exact h.z2
    · rw [lk_take hl]
      show ((lk s.1 (2 * w)).t + 2 * bt (lk s.1 (2 * w)).z w) % 4 = 0
      rw [ht0, h.z1]; simp [bt]
    · rw [lk_take hl2]
      show ((lk s.1 (2 * w + 1)).t + 2 * bt (lk s.1 (2 * w + 1)).z w) % 4 = 0
      rw [c, h.z2]; simp [bt, shl_bit]
  · rw [if_neg c]
    exact fin _ h ht0 (by omega)
theorem clearWire_ok {n : Nat} {ms : List Mv} {w : Nat} {s : GS} (h : Good n ms w s) (hw : w < n) : Good n ms (w + 1) (clearWire n w s) := by
  obtain ⟨g1, a1, a2, _⟩ := gather_ok (at_ := 2 * w) (P := False) (t0 := 0) h (fun q => q.elim) (fun q => q.elim) (by omega) (by omega) hw
  have g2 := clearA_ok g1 hw a1 a2
  obtain ⟨g3, t3⟩ := clearB_ok g2 hw
  exact clearC_ok g3 hw t3
theorem movs_ok {n : Nat} : ∀ (ms : List Mv), MsOk n ms → ∀ {r : Row}, r.Ok n → (movs r ms).Ok n
  | [], _, _, h => h
  | m :: ms, hm, _, h => movs_ok ms (fun x hx => hm x (List.mem_cons_of_mem _ hx)) (moved_ok h (hm m List.mem_cons_self))
theorem movs_straight {n : Nat} : ∀ (ms : List Mv), MsOk n ms → ∀ {r : Row}, Straight r → Straight (movs r ms)
  | [], _, _, h => h
  | m :: ms, hm, _, h => movs_straight ms (fun x hx => hm x (List.mem_cons_of_mem _ hx)) (moved_straight h (hm m List.mem_cons_self))
theorem movs_crosses {n : Nat} : ∀ (ms : List Mv), MsOk n ms → ∀ (a b : Row), crosses (movs a ms) (movs b ms) = crosses a b
  | [], _, _, _ => rfl
  | m :: ms, hm, a, b => (movs_crosses ms (fun x hx => hm x (List.mem_cons_of_mem _ hx)) _ _).trans (moved_crosses a b (hm m List.mem_cons_self))
theorem gen_straight (j : Nat) : Straight (gen j) := by
  unfold gen Straight
  split <;> simp [pc_zero]
theorem lk_doing {n j : Nat} (ms : List Mv) (h : j < 2 * n) : lk (doing n ms) j = movs (gen j) ms := by
  unfold lk
  rw [doing_eq, List.getD_eq_getElem?_getD, List.getElem?_map, List.getElem?_range h]
  rfl
theorem good0 {n : Nat} {ms : List Mv} (hm : MsOk n ms) : Good n ms 0 (doing n ms, []) where
  len := by show (doing n ms).length = _; rw [doing_eq]; simp
  ok := fun j hj => by show (lk (doing n ms) j).Ok n; rw [lk_doing ms hj]; exact movs_ok ms hm (gen_ok hj)
  str := fun j hj => by show Straight (lk (doing n ms) j); rw [lk_doing ms hj]; exact movs_straight ms hm (gen_straight j)
  cr := fun i j hi hj => by show crosses (lk (doing n ms) i) (lk (doing n ms) j) = _; rw [lk_doing ms hi, lk_doing ms hj]; exact movs_crosses ms hm _ _
  dn := fun j hj => absurd hj (by omega)
  st := fun x hx => by cases hx
  ln := fun j hj => by show lk (doing n ms) j = movs (gen j) (ms ++ []); rw [lk_doing ms hj, List.append_nil]
theorem fair_loop {n : Nat} {ms : List Mv} (hm : MsOk n ms) : ∀ w, w ≤ n → Good n ms w (loopS (clearWire n) 0 w (doing n ms, []))
  | 0, _ => good0 hm
  | w + 1, hw => by
    have := clearWire_ok (fair_loop hm w (by omega)) (show w < n by omega)
    show Good n ms (w + 1) (clearWire n (0 + w) _)
    rw [Nat.zero_add]
    exact this
theorem fairS_good {n : Nat} {ms : List Mv} (hm : MsOk n ms) : Good n ms n (fairS n ms) := fair_loop hm n (Nat.le_refl n)
theorem MsOk.append {n : Nat} {a b : List Mv} (h : MsOk n a) (h' : MsOk n b) : MsOk n (a ++ b) := fun x hx => (List.mem_append.mp hx).elim (h x) (h' x)
theorem fairS_id {n : Nat} {ms : List Mv} (hm : MsOk n ms) : IdOn n (ms ++ (fairS n ms).2) := fun j hj f => by
  have g := fairS_good hm
  rw [conjs (n := n) _ (hm.append g.st), ← g.ln j hj, g.dn j hj]
theorem fair_ok {n : Nat} {ms : List Mv} (hm : MsOk n ms) : MsOk n (fair n ms) := fun x hx => by
  unfold fair at hx
  obtain ⟨m, hm', e⟩ := List.mem_map.mp hx
  rw [← e]
  exact undone_ok ((fairS_good hm).st m (List.mem_reverse.mp hm'))
theorem undo_all {n : Nat} : ∀ (st : List Mv), MsOk n st → ∀ f, chgs (chgs f st) (st.reverse.map undone) = scale (scales st) f
  | [], _, f => by funext k; simp [chgs, scale, scales]
  | m :: r, h, f => by
    rw [List.reverse_cons, List.map_append, chgs_append]
    show chgs (chgs (chgs (chg f m) r) (r.reverse.map undone)) [undone m] = _
    rw [undo_all r (fun x hx => h x (List.mem_cons_of_mem _ hx))]
    show chg (scale (scales r) (chg f m)) (undone m) = _
    rw [scale_vmul, chg_vmul, chg_undone m (h m List.mem_cons_self), scale_vmul, scale_vmul]
    funext k
    unfold vmul gmul
    simp only [scales]
    simp
    constructor <;> grind
/-- the fair copy does what the moves do, but for a factor -/
theorem fair_does {n : Nat} {ms : List Mv} (hm : MsOk n ms) : ∃ c d : G, c ≠ (0, 0) ∧ d ≠ (0, 0) ∧ ∀ f k, k < 2 ^ n → gmul c (chgs f (fair n ms) k) = gmul d (chgs f ms k) := by
  have g := fairS_good hm
  obtain ⟨c, hc, h⟩ := factor (fairS_id hm) (hm.append g.st)
  refine ⟨c, (scales (fairS n ms).2, 0), hc, ?_, fun f k hk => ?_⟩
  · have := scales_pos (fairS n ms).2
    intro e
    have e1 := congrArg Prod.fst e
    simp at e1
    omega
  · have e1 : Agree n (chgs (chgs f ms) (fairS n ms).2) (vmul c f) := fun j hj => by
      rw [← chgs_append]; exact h f j hj
    have e2 := e1.chgs (fair n ms) (fair_ok hm) k hk
    unfold fair at e2
    rw [undo_all _ g.st, scale_vmul, chgs_vmul] at e2
    exact e2.symm
end Sg

namespace Sg
/-! ### words and great benches -/
inductive Deed where
  | mv (m : Mv)
  | look (w : Nat)
  | ask (r : Row) (ns : List Nat)
  | strk (k : Nat) (r : Row)
  deriving DecidableEq
structure BS where
  f : Vec
  ans : List Nat
  told : List (Nat × Nat)
def an (ans : List Nat) (k : Nat) : Nat := ans.getD k 0
def signed (ans : List Nat) (r : Row) (ns : List Nat) : Row := ns.foldl (fun r k => product r ⟨2 * an ans k, 0, 0⟩) r
def part (f : Vec) (r : Row) (a : Nat) : Vec := if a = 0 then vadd f (strike f r) else vsub f (strike f r)
def zeroW (n : Nat) (f : Vec) (r : Row) : Int := nrm n (vadd f (strike f r))
def oneW (n : Nat) (f : Vec) (r : Row) : Int := nrm n (vsub f (strike f r))
/-- kind (0 sure, 1 even, 2 lean) and answer -/
def kindAns (z o : Int) (c : Nat) : Nat × Nat := if o = 0 then (0, 0) else if z = 0 then (0, 1) else if z = o then (1, c) else (2, c)
def lookB (n : Nat) (c : Nat) (s : BS) (r : Row) : BS :=
  ⟨part s.f r (kindAns (zeroW n s.f r) (oneW n s.f r) c).2, s.ans ++ [(kindAns (zeroW n s.f r) (oneW n s.f r) c).2], s.told ++ [kindAns (zeroW n s.f r) (oneW n s.f r) c]⟩
def doB (n : Nat) (c : Nat) (s : BS) : Deed → BS
  | .mv m => ⟨chg s.f m, s.ans, s.told⟩
  | .look w => lookB n c s ⟨0, 0, 1 <<< w⟩
  | .ask r ns => lookB n c s (signed s.ans r ns)
  | .strk k r => if an s.ans k = 1 then ⟨strike s.f r, s.ans, s.told⟩ else s
def stepB (n : Nat) (cs : List Nat) (s : BS) (d : Deed) : BS := doB n (cs.getD s.told.length 0) s d
def ranB (n : Nat) (cs : List Nat) (s : BS) (w : List Deed) : BS := w.foldl (stepB n cs) s
theorem ranB_snoc (n : Nat) (cs : List Nat) (s : BS) (w : List Deed) (d : Deed) : ranB n cs s (w ++ [d]) = stepB n cs (ranB n cs s w) d := by unfold ranB; rw [List.foldl_append]; rfl
theorem ranB_append (n : Nat) (cs : List Nat) (s : BS) (w w' : List Deed) : ranB n cs s (w ++ w') = ranB n cs (ranB n cs s w) w' := List.foldl_append
/-- a deed on n wires behind L looks -/
def Deed.Ok (n L : Nat) : Deed → Prop
  | .mv m => m.Ok n
  | .look w => w < n
  | .ask r ns => r.Ok n ∧ ∀ k ∈ ns, k < L
  | .strk k r => k < L ∧ r.Ok n
def Deed.looks : Deed → Nat
  | .look _ => 1
  | .ask _ _ => 1
  | _ => 0
def WOk (n : Nat) : Nat → List Deed → Prop
  | _, [] => True
  | L, d :: r => d.Ok n L ∧ WOk n (L + d.looks) r

/-! ### the pulled word -/
structure PSt where
  im : List Row
  asks : List Deed
  strikes : List (Nat × Row)
  moves : List Mv
def maskA (ns : List Nat) : Nat := ns.foldl (fun m k => m ^^^ (1 <<< k)) 0
def maskB (strikes : List (Nat × Row)) (early : Row) (m : Nat) : Nat := strikes.foldl (fun m p => if crosses p.2 early then m ^^^ (1 <<< p.1) else m) m
def bitLen (m : Nat) : Nat := if m = 0 then 0 else m.log2 + 1
def bitsOf (m : Nat) : List Nat := (List.range (bitLen m)).filter fun k => m.testBit k
def pulledAsk (im : List Row) (r : Row) (ns : List Nat) (strikes : List (Nat × Row)) : Deed :=
  .ask (carried im r) (bitsOf (maskB strikes (carried im r) (maskA ns)))
def pullStep (p : PSt) : Deed → PSt
  | .mv m => ⟨further p.im m, p.asks, p.strikes, p.moves ++ [m]⟩
  | .look w => ⟨p.im, p.asks ++ [pulledAsk p.im ⟨0, 0, 1 <<< w⟩ [] p.strikes], p.strikes, p.moves⟩
  | .ask r ns => ⟨p.im, p.asks ++ [pulledAsk p.im r ns p.strikes], p.strikes, p.moves⟩
  | .strk k r => ⟨p.im, p.asks, p.strikes ++ [(k, carried p.im r)], p.moves⟩
def putA (d : List (Nat × Row)) (k : Nat) (r : Row) : List (Nat × Row) :=
  if (d.any fun kv => decide (kv.1 = k)) = true then d.map (fun kv => if kv.1 = k then (kv.1, r) else kv) else d ++ [(k, r)]
def getA (d : List (Nat × Row)) (k : Nat) : Row := ((d.find? fun kv => decide (kv.1 = k)).map (·.2)).getD ⟨0, 0, 0⟩
def joinD (strikes : List (Nat × Row)) : List (Nat × Row) := strikes.foldl (fun d p => putA d p.1 (product (getA d p.1) p.2)) []
def signedRow (x z : Nat) : Row := ⟨pc (x &&& z) % 4, x, z⟩
def whenOf (d : List (Nat × Row)) (k : Nat) : List Deed := if (getA d k).x ||| (getA d k).z = 0 then [] else [.strk k (signedRow (getA d k).x (getA d k).z)]
def whensOf (d : List (Nat × Row)) (ks : List Nat) : List Deed := ks.flatMap (whenOf d)
def pullAll (n : Nat) (w : List Deed) : PSt := w.foldl pullStep ⟨doing n [], [], [], []⟩
def pulledW (n : Nat) (w : List Deed) (ks : List Nat) : List Deed :=
  (pullAll n w).asks ++ whensOf (joinD (pullAll n w).strikes) ks ++ (fair n (pullAll n w).moves).map .mv

/-! ### answers as parities -/
def ab (ans : List Nat) (k : Nat) : Bool := decide (an ans k = 1)
def parl (ans : List Nat) (ns : List Nat) : Bool := ns.foldr (fun k b => ab ans k ^^ b) false
def Le1 (ans : List Nat) : Prop := ∀ a ∈ ans, a ≤ 1
theorem an_le {ans : List Nat} (h : Le1 ans) (k : Nat) : an ans k ≤ 1 := by
  unfold an
  rw [List.getD_eq_getElem?_getD]
  cases e : ans[k]? with
  | none => exact Nat.zero_le _
  | some a => exact h a (List.mem_of_getElem? e)
theorem an_ab {ans : List Nat} (h : Le1 ans) (k : Nat) : an ans k = (ab ans k).toNat := by
  have := an_le h k
  unfold ab
  rcases Nat.le_one_iff_eq_zero_or_eq_one.mp this with e | e <;> simp [e]
theorem turnBy_alk {a b : Row} (h : Alk a b) (c : Bool) : Alk (turnBy c a) (turnBy c b) := ⟨by have := h.t; show (a.t + _) % 4 = (b.t + _) % 4; omega, h.x, h.z⟩
theorem product_turn {ans : List Nat} (h : Le1 ans) (r : Row) (k : Nat) : Alk (product r ⟨2 * an ans k, 0, 0⟩) (turnBy (ab ans k) r) := by
  refine ⟨?_, ?_, ?_⟩
  · show (r.t + 2 * an ans k + 2 * pc (r.z &&& 0)) % 4 % 4 = (r.t + 2 * (ab ans k).toNat) % 4
    rw [an_ab h, Nat.and_zero, pc_zero]; omega
  · show r.x ^^^ 0 = r.x; simp
  · show r.z ^^^ 0 = r.z; simp
theorem turn_turn (a b : Bool) (r : Row) : Alk (turnBy a (turnBy b r)) (turnBy (a ^^ b) r) := by
  refine ⟨?_, rfl, rfl⟩
  show (r.t + 2 * b.toNat + 2 * a.toNat) % 4 = (r.t + 2 * (a ^^ b).toNat) % 4
  cases a <;> cases b <;> simp <;> omega
theorem signed_alk {ans : List Nat} (h : Le1 ans) : ∀ (ns : List Nat) (r : Row), Alk (signed ans r ns) (turnBy (parl ans ns) r)
  | [], r => ⟨by show r.t % 4 = (r.t + 2 * 0) % 4; omega, rfl, rfl⟩
  | k :: ns, r => by
    show Alk (signed ans (product r ⟨2 * an ans k, 0, 0⟩) ns) _
    refine (signed_alk h ns _).trans ((turnBy_alk (product_turn h r k) _).trans ((turn_turn _ _ r).trans ?_))
    show Alk _ (turnBy (ab ans k ^^ parl ans ns) r)
    rw [Bool.xor_comm]
    exact Alk.refl _
def pf (a : Nat → Bool) (m : Nat) : Nat → Bool
  | 0 => false
  | L + 1 => pf a m L ^^ (m.testBit L && a L)
theorem pf_xor (a : Nat → Bool) (m m' : Nat) : ∀ L, pf a (m ^^^ m') L = (pf a m L ^^ pf a m' L)
  | 0 => rfl
  | L + 1 => by
    simp only [pf]
    rw [pf_xor a m m' L, Nat.testBit_xor]
    generalize pf a m L = p
    generalize pf a m' L = q
    cases p <;> cases q <;> cases m.testBit L <;> cases m'.testBit L <;> cases a L <;> rfl
theorem pf_zero (a : Nat → Bool) : ∀ L, pf a 0 L = false
  | 0 => rfl
  | L + 1 => by simp only [pf]; rw [pf_zero a L, Nat.zero_testBit]; rfl
theorem pf_one (a : Nat → Bool) (k : Nat) : ∀ L, pf a (1 <<< k) L = (decide (k < L) && a k)
  | 0 => rfl
  | L + 1 => by
    simp only [pf]
    rw [pf_one a k L, one_shl, testBit_sh]
    by_cases h1 : k < L
    · have h2 : L ≠ k := by omega
      have h3 : k < L + 1 := by omega
      simp [h1, h2, h3]
    · by_cases h2 : L = k
      · subst h2; simp
      · have h3 : ¬ k < L + 1 := by omega
        simp [h1, h2, h3]
theorem pf_more (a : Nat → Bool) {m L : Nat} (h : m < 2 ^ L) : ∀ d, pf a m (L + d) = pf a m L
  | 0 => rfl
  | d + 1 => by
    show (pf a m (L + d) ^^ (m.testBit (L + d) && a (L + d))) = _
    rw [pf_more a h d, Nat.testBit_lt_two_pow (Nat.lt_of_lt_of_le h (Nat.pow_le_pow_right (by decide) (by omega)))]
    simp
theorem parl_append (ans : List Nat) : ∀ (a b : List Nat), parl ans (a ++ b) = (parl ans a ^^ parl ans b)
  | [], b => by simp [parl]
  | k :: a, b => by
    show (ab ans k ^^ parl ans (a ++ b)) = ((ab ans k ^^ parl ans a) ^^ parl ans b)
    rw [parl_append ans a b, Bool.xor_assoc]
theorem parl_range (ans : List Nat) (m : Nat) : ∀ L, parl ans ((List.range L).filter fun k => m.testBit k) = pf (ab ans) m L
  | 0 => rfl
  | L + 1 => by
    rw [List.range_succ, List.filter_append, parl_append, parl_range ans m L]
    simp only [pf]
    cases h : m.testBit L
    · simp [h, parl]
    · simp [h, parl]
theorem bitLen_lt (m : Nat) : m < 2 ^ bitLen m := by
  unfold bitLen
  by_cases h : m = 0
  · rw [if_pos h, h]; decide
  · rw [if_neg h]; exact Nat.lt_log2_self
theorem parl_bits (ans : List Nat) (m : Nat) {L : Nat} (h : bitLen m ≤ L) : parl ans (bitsOf m) = pf (ab ans) m L := by
  unfold bitsOf
  rw [parl_range]
  obtain ⟨d, rfl⟩ : ∃ d, L = bitLen m + d := ⟨L - bitLen m, by omega⟩
  exact (pf_more _ (bitLen_lt m) d).symm
theorem pf_maskA {a : Nat → Bool} {ans : List Nat} (ha : a = ab ans) {L : Nat} : ∀ (ns : List Nat), (∀ k ∈ ns, k < L) → ∀ m, pf a (ns.foldl (fun m k => m ^^^ (1 <<< k)) m) L = (pf a m L ^^ parl ans ns)
  | [], _, m => by simp [parl]
  | k :: ns, h, m => by
    show pf a (ns.foldl _ (m ^^^ (1 <<< k))) L = (pf a m L ^^ (ab ans k ^^ parl ans ns))
    rw [pf_maskA ha ns (fun x hx => h x (List.mem_cons_of_mem _ hx)), pf_xor, pf_one]
    have := h k List.mem_cons_self
    simp only [this, decide_true, Bool.true_and, ha]
    rw [Bool.xor_assoc]
def crossP (ans : List Nat) (early : Row) (strikes : List (Nat × Row)) : Bool := strikes.foldr (fun p b => (crosses p.2 early && ab ans p.1) ^^ b) false
theorem pf_maskB {ans : List Nat} {L : Nat} (early : Row) : ∀ (st : List (Nat × Row)), (∀ p ∈ st, p.1 < L) → ∀ m, pf (ab ans) (maskB st early m) L = (pf (ab ans) m L ^^ crossP ans early st)
  | [], _, m => by simp [maskB, crossP]
  | p :: st, h, m => by
    show pf (ab ans) (maskB st early (if crosses p.2 early then m ^^^ (1 <<< p.1) else m)) L = (_ ^^ ((crosses p.2 early && ab ans p.1) ^^ crossP ans early st))
    rw [pf_maskB early st (fun x hx => h x (List.mem_cons_of_mem _ hx))]
    have := h p List.mem_cons_self
    cases crosses p.2 early
    · simp
    · simp only [if_true]
      rw [pf_xor, pf_one]
      simp only [this, decide_true, Bool.true_and]
      rw [Bool.xor_assoc]
/-- all that is struck, as one row -/
def sofRow (ans : List Nat) (st : List (Nat × Row)) : Row := st.foldl (fun S p => if an ans p.1 = 1 then product p.2 S else S) ⟨0, 0, 0⟩
theorem crosses_product (a b c : Row) : crosses (product a b) c = (crosses a c ^^ crosses b c) := by
  rw [crosses_eq, crosses_eq, crosses_eq]
  show (dot (a.x ^^^ b.x) c.z ^^ dot (a.z ^^^ b.z) c.x) = _
  rw [dot_xor_left, dot_xor_left]
  generalize dot a.x c.z = p
  generalize dot b.x c.z = q
  generalize dot a.z c.x = p'
  generalize dot b.z c.x = q'
  cases p <;> cases q <;> cases p' <;> cases q' <;> rfl
theorem sof_crosses (ans : List Nat) (early : Row) : ∀ (st : List (Nat × Row)) (S : Row), crosses (st.foldl (fun S p => if an ans p.1 = 1 then product p.2 S else S) S) early = (crosses S early ^^ crossP ans early st)
  | [], S => by simp [crossP]
  | p :: st, S => by
    show crosses (st.foldl _ (if an ans p.1 = 1 then product p.2 S else S)) early = (_ ^^ ((crosses p.2 early && ab ans p.1) ^^ crossP ans early st))
    rw [sof_crosses ans early st]
    unfold ab
    by_cases h : an ans p.1 = 1
    · rw [if_pos h, crosses_product]
      generalize crosses p.2 early = u
      generalize crosses S early = v
      generalize crossP ans early st = w
      simp [h]
      cases u <;> cases v <;> cases w <;> rfl
    · rw [if_neg h]; simp [h]
theorem sofRow_crosses (ans : List Nat) (early : Row) (st : List (Nat × Row)) : crosses (sofRow ans st) early = crossP ans early st := by
  unfold sofRow
  rw [sof_crosses, crosses_eq]
  simp [dot_zero_left]
def xsum (ans : List Nat) (g : Row → Nat) (l : List (Nat × Row)) : Nat := l.foldr (fun p b => (if an ans p.1 = 1 then g p.2 else 0) ^^^ b) 0
theorem xsum_append (ans : List Nat) (g : Row → Nat) : ∀ (a b : List (Nat × Row)), xsum ans g (a ++ b) = xsum ans g a ^^^ xsum ans g b
  | [], b => by simp [xsum]
  | p :: a, b => by
    show _ ^^^ xsum ans g (a ++ b) = (_ ^^^ xsum ans g a) ^^^ xsum ans g b
    rw [xsum_append ans g a b, Nat.xor_assoc]
theorem xsum_perm (ans : List Nat) (g : Row → Nat) {a b : List (Nat × Row)} (h : a.Perm b) : xsum ans g a = xsum ans g b := by
  induction h with
  | nil => rfl
  | cons x _ ih => show _ ^^^ xsum ans g _ = _ ^^^ xsum ans g _; rw [ih]
  | swap x y l =>
    show _ ^^^ (_ ^^^ xsum ans g l) = _ ^^^ (_ ^^^ xsum ans g l)
    rw [← Nat.xor_assoc, ← Nat.xor_assoc]; congr 1; exact Nat.xor_comm _ _
  | trans _ _ h1 h2 => exact h1.trans h2
theorem sof_x (ans : List Nat) : ∀ (st : List (Nat × Row)) (S : Row), (st.foldl (fun S p => if an ans p.1 = 1 then product p.2 S else S) S).x = S.x ^^^ xsum ans (·.x) st ∧ (st.foldl (fun S p => if an ans p.1 = 1 then product p.2 S else S) S).z = S.z ^^^ xsum ans (·.z) st
  | [], S => by simp [xsum]
  | p :: st, S => by
    show (st.foldl _ (if an ans p.1 = 1 then product p.2 S else S)).x = S.x ^^^ ((if an ans p.1 = 1 then p.2.x else 0) ^^^ xsum ans (·.x) st) ∧ (st.foldl _ (if an ans p.1 = 1 then product p.2 S else S)).z = S.z ^^^ ((if an ans p.1 = 1 then p.2.z else 0) ^^^ xsum ans (·.z) st)
    obtain ⟨h1, h2⟩ := sof_x ans st (if an ans p.1 = 1 then product p.2 S else S)
    rw [h1, h2, ← Nat.xor_assoc, ← Nat.xor_assoc]
    split
    · exact ⟨by rw [show (product p.2 S).x = p.2.x ^^^ S.x from rfl, Nat.xor_comm p.2.x], by rw [show (product p.2 S).z = p.2.z ^^^ S.z from rfl, Nat.xor_comm p.2.z]⟩
    · simp
theorem sofRow_x (ans : List Nat) (st : List (Nat × Row)) : (sofRow ans st).x = xsum ans (·.x) st ∧ (sofRow ans st).z = xsum ans (·.z) st := by
  obtain ⟨h1, h2⟩ := sof_x ans st ⟨0, 0, 0⟩
  unfold sofRow
  rw [h1, h2]
  exact ⟨Nat.zero_xor _, Nat.zero_xor _⟩

/-! ### the joined whens -/
def putR : List (Nat × Row) → Nat → Row → List (Nat × Row)
  | [], k, r => [(k, r)]
  | p :: t, k, r => if p.1 = k then (p.1, r) :: t else p :: putR t k r
theorem any_keys {d : List (Nat × Row)} {k : Nat} : (d.any fun kv => decide (kv.1 = k)) = true ↔ k ∈ d.map (·.1) := by
  rw [List.any_eq_true, List.mem_map]
  constructor
  · rintro ⟨x, hx, e⟩; exact ⟨x, hx, of_decide_eq_true e⟩
  · rintro ⟨x, hx, e⟩; exact ⟨x, hx, decide_eq_true e⟩
theorem map_away {d : List (Nat × Row)} {k : Nat} {r : Row} (h : ¬ k ∈ d.map (·.1)) : d.map (fun kv => if kv.1 = k then (kv.1, r) else kv) = d := by
  induction d with
  | nil => rfl
  | cons p t ih =>
    rw [List.map_cons, List.mem_cons, not_or] at h
    rw [List.map_cons, ih h.2, if_neg fun e => h.1 e.symm]
theorem putA_eq : ∀ {d : List (Nat × Row)} {k : Nat} {r : Row}, (d.map (·.1)).Nodup → putA d k r = putR d k r
  | [], k, r, _ => rfl
  | p :: t, k, r, hn => by
    rw [List.map_cons] at hn
    obtain ⟨h1, h2⟩ := List.nodup_cons.mp hn
    have ih := putA_eq (d := t) (k := k) (r := r) h2
    unfold putA at ih ⊢
    simp only [putR]
    by_cases e : p.1 = k
    · rw [if_pos e, if_pos (any_keys.mpr (by rw [List.map_cons, e]; exact List.mem_cons_self)), List.map_cons, if_pos e, map_away (by rw [← e]; exact h1)]
    · rw [if_neg e]
      by_cases q : (t.any fun kv => decide (kv.1 = k)) = true
      · rw [if_pos q] at ih
        rw [if_pos (any_keys.mpr (by rw [List.map_cons]; exact List.mem_cons_of_mem _ (any_keys.mp q))), List.map_cons, if_neg e, ih]
      · rw [if_neg q] at ih
        rw [if_neg fun z => ?_, List.cons_append, ih]
        have z2 := any_keys.mp z
        rw [List.map_cons] at z2
        rcases List.mem_cons.mp z2 with z3 | z3
        · exact e z3.symm
        · exact q (any_keys.mpr z3)
theorem getA_cons (p : Nat × Row) (t : List (Nat × Row)) (k : Nat) : getA (p :: t) k = if p.1 = k then p.2 else getA t k := by
  unfold getA
  rw [List.find?_cons]
  by_cases e : p.1 = k
  · rw [decide_eq_true e, if_pos e]; rfl
  · rw [decide_eq_false e, if_neg e]
theorem putR_keys : ∀ (d : List (Nat × Row)) (k : Nat) (r : Row), (putR d k r).map (·.1) = if k ∈ d.map (·.1) then d.map (·.1) else d.map (·.1) ++ [k]
  | [], k, r => by simp [putR]
  | p :: t, k, r => by
    simp only [putR]
    by_cases e : p.1 = k
    · rw [if_pos e, if_pos (by rw [List.map_cons, e]; exact List.mem_cons_self)]; rfl
    · rw [if_neg e, List.map_cons, putR_keys t k r, List.map_cons]
      by_cases q : k ∈ t.map (·.1)
      · rw [if_pos q, if_pos (List.mem_cons_of_mem _ q)]
      · rw [if_neg q, if_neg]
        · rfl
        · intro z
          rcases List.mem_cons.mp z with z3 | z3
          · exact e z3.symm
          · exact q z3
theorem nodup_snoc {l : List Nat} {k : Nat} (h : l.Nodup) (hk : ¬ k ∈ l) : (l ++ [k]).Nodup := by
  rw [List.nodup_append]
  exact ⟨h, by simp, fun a ha b hb e => hk (by rw [List.mem_singleton] at hb; rw [← hb, ← e]; exact ha)⟩
theorem putR_nodup {d : List (Nat × Row)} (k : Nat) (r : Row) (h : (d.map (·.1)).Nodup) : ((putR d k r).map (·.1)).Nodup := by
  rw [putR_keys]
  split
  · exact h
  · rename_i q; exact nodup_snoc h q
theorem xsum_putR (ans : List Nat) (g : Row → Nat) (hg : ∀ a b, g (product a b) = g a ^^^ g b) (h0 : g ⟨0, 0, 0⟩ = 0) (k : Nat) (r : Row) : ∀ (d : List (Nat × Row)),
    xsum ans g (putR d k (product (getA d k) r)) = xsum ans g d ^^^ (if an ans k = 1 then g r else 0)
  | [] => by
    show (if an ans k = 1 then g (product (getA [] k) r) else 0) ^^^ 0 = 0 ^^^ _
    rw [hg, show getA [] k = ⟨0, 0, 0⟩ from rfl, h0]; simp
  | p :: t => by
    simp only [putR]
    rw [getA_cons]
    by_cases e : p.1 = k
    · rw [if_pos e, if_pos e]
      show (if an ans p.1 = 1 then g (product p.2 r) else 0) ^^^ xsum ans g t = ((if an ans p.1 = 1 then g p.2 else 0) ^^^ xsum ans g t) ^^^ _
      rw [hg, e]
      split
      · rw [xac]
      · simp
    · rw [if_neg e, if_neg e]
      show _ ^^^ xsum ans g (putR t k _) = (_ ^^^ xsum ans g t) ^^^ _
      rw [xsum_putR ans g hg h0 k r t, Nat.xor_assoc]
theorem joinD_loop (ans : List Nat) (g : Row → Nat) (hg : ∀ a b, g (product a b) = g a ^^^ g b) (h0 : g ⟨0, 0, 0⟩ = 0) : ∀ (st : List (Nat × Row)) (d : List (Nat × Row)), (d.map (·.1)).Nodup →
    ((st.foldl (fun d p => putA d p.1 (product (getA d p.1) p.2)) d).map (·.1)).Nodup ∧ xsum ans g (st.foldl (fun d p => putA d p.1 (product (getA d p.1) p.2)) d) = xsum ans g d ^^^ xsum ans g st
  | [], d, h => ⟨h, by simp [xsum]⟩
  | p :: st, d, h => by
    have h' : ((putA d p.1 (product (getA d p.1) p.2)).map (·.1)).Nodup := by rw [putA_eq h]; exact putR_nodup _ _ h
    obtain ⟨i1, i2⟩ := joinD_loop ans g hg h0 st _ h'
    refine ⟨i1, ?_⟩
    show xsum ans g (st.foldl _ (putA d p.1 (product (getA d p.1) p.2))) = _ ^^^ ((if an ans p.1 = 1 then g p.2 else 0) ^^^ xsum ans g st)
    rw [i2, putA_eq h, xsum_putR ans g hg h0, Nat.xor_assoc]
theorem joinD_nodup (st : List (Nat × Row)) : ((joinD st).map (·.1)).Nodup := (joinD_loop [] (·.x) (fun _ _ => rfl) rfl st [] List.nodup_nil).1
theorem xsum_joinD (ans : List Nat) (st : List (Nat × Row)) : xsum ans (·.x) (joinD st) = xsum ans (·.x) st ∧ xsum ans (·.z) (joinD st) = xsum ans (·.z) st := by
  have h1 := (joinD_loop ans (·.x) (fun _ _ => rfl) rfl st [] List.nodup_nil).2
  have h2 := (joinD_loop ans (·.z) (fun _ _ => rfl) rfl st [] List.nodup_nil).2
  exact ⟨h1.trans (Nat.zero_xor _), h2.trans (Nat.zero_xor _)⟩
theorem getA_mem : ∀ {d : List (Nat × Row)}, (d.map (·.1)).Nodup → ∀ p ∈ d, getA d p.1 = p.2
  | [], _, p, hp => by cases hp
  | q :: t, h, p, hp => by
    rw [List.map_cons] at h
    obtain ⟨h1, h2⟩ := List.nodup_cons.mp h
    rw [getA_cons]
    rcases List.mem_cons.mp hp with e | e
    · rw [← e, if_pos rfl]
    · rw [if_neg, getA_mem h2 p e]
      intro z
      exact h1 (by rw [z]; exact List.mem_map_of_mem e)
/-- the whens done: one row struck, whose marks are the sums -/
theorem whens_done (n : Nat) (cs : List Nat) (d : List (Nat × Row)) (ans : List Nat) (told : List (Nat × Nat)) : ∀ (ks : List Nat) (f : Vec) (S : Row), ∃ S' : Row,
    ranB n cs ⟨strike f S, ans, told⟩ (whensOf d ks) = ⟨strike f S', ans, told⟩ ∧
    S'.x = S.x ^^^ xsum ans (·.x) (ks.map fun k => (k, getA d k)) ∧ S'.z = S.z ^^^ xsum ans (·.z) (ks.map fun k => (k, getA d k))
  | [], f, S => ⟨S, rfl, by simp [xsum], by simp [xsum]⟩
  | k :: ks, f, S => by
    have hx : ∀ g : Row → Nat, xsum ans g ((k :: ks).map fun k => (k, getA d k)) = (if an ans k = 1 then g (getA d k) else 0) ^^^ xsum ans g (ks.map fun k => (k, getA d k)) := fun g => rfl
    rw [hx, hx]
    have e0 : whensOf d (k :: ks) = whenOf d k ++ whensOf d ks := by unfold whensOf; rw [List.flatMap_cons]
    rw [e0, ranB_append]
    unfold whenOf
    by_cases h : (getA d k).x ||| (getA d k).z = 0
    · rw [if_pos h]
      obtain ⟨hx0, hz0⟩ := Nat.or_eq_zero_iff.mp h
      obtain ⟨S', e1, e2, e3⟩ := whens_done n cs d ans told ks f S
      refine ⟨S', e1, ?_, ?_⟩
      · rw [e2, hx0]; simp
      · rw [e3, hz0]; simp
    · rw [if_neg h]
      by_cases h2 : an ans k = 1
      · obtain ⟨S', e1, e2, e3⟩ := whens_done n cs d ans told ks f (product (signedRow (getA d k).x (getA d k).z) S)
        refine ⟨S', ?_, ?_, ?_⟩
        · rw [← e1]
          show ranB n cs (if an ans k = 1 then ⟨strike (strike f S) (signedRow (getA d k).x (getA d k).z), ans, told⟩ else _) _ = _
          rw [if_pos h2, strike_strike]
        · rw [e2, if_pos h2, ← Nat.xor_assoc]
          congr 1
          exact Nat.xor_comm _ _
        · rw [e3, if_pos h2, ← Nat.xor_assoc]
          congr 1
          exact Nat.xor_comm _ _
      · obtain ⟨S', e1, e2, e3⟩ := whens_done n cs d ans told ks f S
        refine ⟨S', ?_, ?_, ?_⟩
        · rw [← e1]
          show ranB n cs (if an ans k = 1 then _ else ⟨strike f S, ans, told⟩) _ = _
          rw [if_neg h2]
        · rw [e2, if_neg h2]; simp
        · rw [e3, if_neg h2]; simp
theorem moves_done (n : Nat) (cs : List Nat) (ans : List Nat) (told : List (Nat × Nat)) : ∀ (ms : List Mv) (f : Vec), ranB n cs ⟨f, ans, told⟩ (ms.map .mv) = ⟨chgs f ms, ans, told⟩
  | [], _ => rfl
  | m :: ms, f => moves_done n cs ans told ms (chg f m)
end Sg

namespace Sg
theorem kindAns_scale {c z o : Int} (hc : 0 < c) (k : Nat) : kindAns (c * z) (c * o) k = kindAns z o k := by
  unfold kindAns
  have e1 : (c * o = 0) = (o = 0) := propext ⟨fun h => (Int.mul_eq_zero.mp h).resolve_left (by omega), fun h => by rw [h, Int.mul_zero]⟩
  have e2 : (c * z = 0) = (z = 0) := propext ⟨fun h => (Int.mul_eq_zero.mp h).resolve_left (by omega), fun h => by rw [h, Int.mul_zero]⟩
  have e3 : (c * z = c * o) = (z = o) := propext ⟨fun h => Int.eq_of_mul_eq_mul_left (by omega) h, fun h => by rw [h]⟩
  simp only [e1, e2, e3]
theorem kindAns_le {z o : Int} {k : Nat} (hk : k ≤ 1) : (kindAns z o k).2 ≤ 1 := by
  unfold kindAns
  split
  · exact Nat.zero_le _
  · split
    · exact Nat.le_refl _
    · split <;> exact hk
theorem part_vec (ms : List Mv) (S : Row) (g h : Vec) (a : Nat) (r r' : Row) (u : Vec)
    (e : strike (chgs (strike u S) ms) r = chgs (strike (strike u r') S) ms) : part (chgs (strike u S) ms) r a = chgs (strike (part u r' a) S) ms := by
  unfold part
  rw [e]
  split
  · rw [strike_vadd, chgs_vadd]
  · rw [strike_vsub, chgs_vsub]
theorem weights_vec {n : Nat} {ms : List Mv} (hm : MsOk n ms) {S : Row} (hS : S.x < 2 ^ n) (r r' : Row) (u : Vec)
    (e : strike (chgs (strike u S) ms) r = chgs (strike (strike u r') S) ms) :
    zeroW n (chgs (strike u S) ms) r = scales ms * zeroW n u r' ∧ oneW n (chgs (strike u S) ms) r = scales ms * oneW n u r' := by
  unfold zeroW oneW
  rw [e, ← chgs_vadd, ← chgs_vsub, ← strike_vadd, ← strike_vsub, nrm_chgs ms hm, nrm_chgs ms hm, nrm_strike _ hS, nrm_strike _ hS]
  exact ⟨rfl, rfl⟩
/-- a look, and the look pulled: struck at the beginning -/
theorem pull_strike {n : Nat} {ms : List Mv} {im : List Row} (hi : Img n ms im) {r : Row} (hr : r.Ok n) (S : Row) (u : Vec) (q : Bool) :
    strike (chgs (strike u S) ms) (turnBy q r) = chgs (strike (strike u (turnBy (q ^^ crosses S (carried im r)) (carried im r))) S) ms := by
  have hrel : Rel ms (turnBy q (carried im r)) (turnBy q r) := fun f => by
    have h := carried_rel hi hr.x hr.z f
    have e : ∀ (g : Vec) (r' : Row), strike g (turnBy q r') = vmul (iu (2 * q.toNat)) (strike g r') := fun g r' => by
      funext k
      show _ = gmul _ _
      rw [← spun_iu]
      unfold strike
      rw [spun_spun]
      apply spun_congr
      show (r'.t + 2 * q.toNat + _) % 4 = _
      show _ = (r'.t + 2 * pc (r'.z &&& (k ^^^ r'.x)) + 2 * q.toNat) % 4
      show (r'.t + 2 * q.toNat + 2 * pc (r'.z &&& (k ^^^ r'.x))) % 4 = _
      omega
    rw [e, e, chgs_vmul, h]
  rw [← hrel]
  congr 1
  rw [strike_strike, strike_strike]
  apply strike_alk
  refine (product_comm (turnBy q (carried im r)) S).trans ?_
  have ec : crosses (turnBy q (carried im r)) S = crosses S (carried im r) := by
    rw [crosses_eq, crosses_eq, Bool.xor_comm]
    show (dot (carried im r).z S.x ^^ dot (carried im r).x S.z) = _
    rw [dot_comm, dot_comm (carried im r).x]
  rw [ec]
  refine ⟨?_, rfl, rfl⟩
  show ((S.t + ((carried im r).t + 2 * q.toNat) + 2 * pc (S.z &&& (carried im r).x)) % 4 + 2 * (crosses S (carried im r)).toNat) % 4 = (S.t + ((carried im r).t + 2 * (q ^^ crosses S (carried im r)).toNat) + 2 * pc (S.z &&& (carried im r).x)) % 4 % 4
  cases q <;> cases crosses S (carried im r) <;> simp <;> omega

/-- the word and its pulled asks, in step -/
structure Step (n : Nat) (cs : List Nat) (s0 s u : BS) (p : PSt) : Prop where
  run : u = ranB n cs s0 p.asks
  ans : u.ans = s.ans
  told : u.told = s.told
  f : s.f = chgs (strike u.f (sofRow s.ans p.strikes)) p.moves
  img : Img n p.moves p.im
  imok : ImOk n p.im
  ms : MsOk n p.moves
  st : ∀ q ∈ p.strikes, q.1 < s.ans.length ∧ q.2.Ok n
  le : Le1 s.ans
  tl : s.told.length = s.ans.length
  nz : nrm n u.f ≠ 0
  aok : WOk n 0 p.asks
  al : p.asks.length = s.ans.length
theorem sofRow_ok {n : Nat} {ans : List Nat} {st : List (Nat × Row)} (h : ∀ q ∈ st, q.2.Ok n) : (sofRow ans st).Ok n := by
  have : ∀ (st : List (Nat × Row)) (S : Row), (∀ q ∈ st, q.2.Ok n) → S.Ok n → (st.foldl (fun S p => if an ans p.1 = 1 then product p.2 S else S) S).Ok n := by
    intro st
    induction st with
    | nil => intro S _ h; exact h
    | cons p st ih =>
      intro S hs h
      refine ih _ (fun q hq => hs q (List.mem_cons_of_mem _ hq)) ?_
      show (if an ans p.1 = 1 then product p.2 S else S).Ok n
      split
      · exact product_ok (hs p List.mem_cons_self) h
      · exact h
  exact this st _ h ⟨Nat.zero_lt_succ 3, Nat.two_pow_pos n, Nat.two_pow_pos n⟩
theorem an_append {ans : List Nat} {a k : Nat} (h : k < ans.length) : an (ans ++ [a]) k = an ans k := by
  unfold an
  rw [List.getD_eq_getElem?_getD, List.getD_eq_getElem?_getD, List.getElem?_append_left h]
theorem sofRow_append {ans : List Nat} {a : Nat} {st : List (Nat × Row)} (h : ∀ q ∈ st, q.1 < ans.length) : sofRow (ans ++ [a]) st = sofRow ans st := by
  have : ∀ (st : List (Nat × Row)) (S : Row), (∀ q ∈ st, q.1 < ans.length) → st.foldl (fun S p => if an (ans ++ [a]) p.1 = 1 then product p.2 S else S) S = st.foldl (fun S p => if an ans p.1 = 1 then product p.2 S else S) S := by
    intro st
    induction st with
    | nil => intro S _; rfl
    | cons p st ih =>
      intro S hs
      show st.foldl _ (if an (ans ++ [a]) p.1 = 1 then product p.2 S else S) = st.foldl _ (if an ans p.1 = 1 then product p.2 S else S)
      rw [an_append (hs p List.mem_cons_self), ih _ fun q hq => hs q (List.mem_cons_of_mem _ hq)]
  exact this st _ h
theorem nrm_vadd_vsub {n : Nat} (f g : Vec) : nrm n (vadd f g) + nrm n (vsub f g) = 2 * (nrm n f + nrm n g) := by
  unfold nrm
  rw [← sumN_add, ← sumN_add, ← sumN_mul]
  refine sumN_congr fun k _ => ?_
  unfold vadd vsub gnorm gadd gsub
  simp only
  grind
theorem part_nz {n : Nat} {f : Vec} {r : Row} (hr : r.x < 2 ^ n) (h : nrm n f ≠ 0) (c : Nat) (hc : c ≤ 1) : nrm n (part f r (kindAns (zeroW n f r) (oneW n f r) c).2) ≠ 0 := by
  have hs : zeroW n f r + oneW n f r = 2 * (nrm n f + nrm n f) := by
    unfold zeroW oneW
    rw [nrm_vadd_vsub, nrm_strike _ hr]
  have h1 := nrm_nonneg n f
  have h2 : 0 ≤ zeroW n f r := nrm_nonneg _ _
  have h3 : 0 ≤ oneW n f r := nrm_nonneg _ _
  have p0 : nrm n (part f r 0) = zeroW n f r := rfl
  have p1 : nrm n (part f r 1) = oneW n f r := rfl
  unfold kindAns
  by_cases ho : oneW n f r = 0
  · rw [if_pos ho]
    show nrm n (part f r 0) ≠ 0
    rw [p0]; omega
  · rw [if_neg ho]
    by_cases hz : zeroW n f r = 0
    · rw [if_pos hz]
      show nrm n (part f r 1) ≠ 0
      rw [p1]; exact ho
    · rw [if_neg hz]
      have fin : nrm n (part f r c) ≠ 0 := by
        rcases Nat.le_one_iff_eq_zero_or_eq_one.mp hc with e | e
        · rw [e, p0]; exact hz
        · rw [e, p1]; exact ho
      split <;> exact fin
theorem wok_append {n : Nat} : ∀ {a : List Deed} {L : Nat} {b : List Deed}, WOk n L a → WOk n (L + (a.map Deed.looks).sum) b → WOk n L (a ++ b)
  | [], L, b, _, h => by simpa using h
  | d :: a, L, b, h1, h2 => ⟨h1.1, wok_append h1.2 (by rw [List.map_cons, List.sum_cons, ← Nat.add_assoc] at h2; exact h2)⟩
theorem look_step {n : Nat} {cs : List Nat} (hcs : Le1 cs) {s0 s u : BS} {p : PSt} (h : Step n cs s0 s u p) (hasks : (p.asks.map Deed.looks).sum = s.ans.length) {r : Row} (hr : r.Ok n) {ns : List Nat} (hns : ∀ k ∈ ns, k < s.ans.length)
    {R : Row} (hR : Alk R (turnBy (parl s.ans ns) r)) :
    ∃ u', Step n cs s0 (lookB n (cs.getD s.told.length 0) s R) u' ⟨p.im, p.asks ++ [pulledAsk p.im r ns p.strikes], p.strikes, p.moves⟩ ∧
      ((p.asks ++ [pulledAsk p.im r ns p.strikes]).map Deed.looks).sum = (lookB n (cs.getD s.told.length 0) s R).ans.length := by
  have hc : cs.getD s.told.length 0 ≤ 1 := an_le hcs _
  generalize hcd : cs.getD s.told.length 0 = c at *
  have cok := carried_ok h.imok hr
  -- the pulled ask's row
  have hmask : ∀ L, (∀ k ∈ ns, k < L) → (∀ q ∈ p.strikes, q.1 < L) → pf (ab s.ans) (maskB p.strikes (carried p.im r) (maskA ns)) L = (parl s.ans ns ^^ crosses (sofRow s.ans p.strikes) (carried p.im r)) := fun L h1 h2 => by
    rw [pf_maskB _ _ h2, sofRow_crosses]
    unfold maskA
    rw [pf_maskA rfl ns h1, pf_zero]
    simp
  have hbits : parl s.ans (bitsOf (maskB p.strikes (carried p.im r) (maskA ns))) = (parl s.ans ns ^^ crosses (sofRow s.ans p.strikes) (carried p.im r)) := by
    rw [parl_bits s.ans _ (L := bitLen (maskB p.strikes (carried p.im r) (maskA ns)) + s.ans.length) (by omega)]
    exact hmask _ (fun k hk => by have := hns k hk; omega) (fun q hq => by have := (h.st q hq).1; omega)
  have hsg := signed_alk h.le (bitsOf (maskB p.strikes (carried p.im r) (maskA ns))) (carried p.im r)
  rw [hbits] at hsg
  generalize hR' : signed s.ans (carried p.im r) (bitsOf (maskB p.strikes (carried p.im r) (maskA ns))) = R' at hsg
  have sok := sofRow_ok (ans := s.ans) fun q hq => (h.st q hq).2
  have e : strike (chgs (strike u.f (sofRow s.ans p.strikes)) p.moves) R = chgs (strike (strike u.f R') (sofRow s.ans p.strikes)) p.moves := by
    rw [strike_alk hR, pull_strike h.img hr, strike_alk hsg]
  have hw := weights_vec h.ms sok.x R R' u.f e
  have hk : kindAns (zeroW n s.f R) (oneW n s.f R) c = kindAns (zeroW n u.f R') (oneW n u.f R') c := by
    rw [h.f, hw.1, hw.2, kindAns_scale (scales_pos _)]
  have hR'x : R'.x < 2 ^ n := by rw [hsg.x]; exact cok.x
  refine ⟨lookB n c u R', ⟨?_, ?_, ?_, ?_, h.img, h.imok, h.ms, fun q hq => ?_, ?_, ?_, part_nz hR'x h.nz c hc, ?_, ?_⟩, ?_⟩
  · rw [ranB_snoc, ← h.run]
    show _ = doB n (cs.getD u.told.length 0) u (.ask (carried p.im r) _)
    rw [h.told, hcd]
    show _ = lookB n c u (signed u.ans (carried p.im r) _)
    rw [h.ans, hR']
  · show u.ans ++ [_] = s.ans ++ [_]
    rw [h.ans, hk]
  · show u.told ++ [_] = s.told ++ [_]
    rw [h.told, hk]
  · show part s.f R _ = chgs (strike (part u.f R' _) (sofRow (s.ans ++ [_]) p.strikes)) p.moves
    rw [sofRow_append fun q hq => (h.st q hq).1, hk, h.f]
    exact part_vec p.moves _ u.f u.f _ R R' u.f e
  · obtain ⟨h1, h2⟩ := h.st q hq
    refine ⟨?_, h2⟩
    show q.1 < (s.ans ++ [_]).length
    rw [List.length_append]; omega
  · intro a ha
    rcases List.mem_append.mp ha with q | q
    · exact h.le a q
    · rw [List.mem_singleton.mp q]; exact kindAns_le hc
  · show (s.told ++ [_]).length = (s.ans ++ [_]).length
    rw [List.length_append, List.length_append, h.tl]; rfl
  · refine wok_append h.aok ?_
    rw [hasks, Nat.zero_add]
    refine ⟨⟨cok, fun k hk => ?_⟩, trivial⟩
    -- a bit of the mask is below the looks
    have hm2 : ∀ L, (∀ k ∈ ns, k < L) → (∀ q ∈ p.strikes, q.1 < L) → maskB p.strikes (carried p.im r) (maskA ns) < 2 ^ L := fun L h1 h2 => by
      have ha : ∀ (ns : List Nat) (m : Nat), (∀ k ∈ ns, k < L) → m < 2 ^ L → ns.foldl (fun m k => m ^^^ (1 <<< k)) m < 2 ^ L := by
        intro ns
        induction ns with
        | nil => intro m _ h; exact h
        | cons k ns ih => intro m hk h; exact ih _ (fun x hx => hk x (List.mem_cons_of_mem _ hx)) (Nat.xor_lt_two_pow h (by rw [one_shl]; exact sh_lt (hk k List.mem_cons_self)))
      have hb : ∀ (st : List (Nat × Row)) (m : Nat), (∀ q ∈ st, q.1 < L) → m < 2 ^ L → maskB st (carried p.im r) m < 2 ^ L := by
        intro st
        induction st with
        | nil => intro m _ h; exact h
        | cons q st ih =>
          intro m hk h
          refine ih _ (fun x hx => hk x (List.mem_cons_of_mem _ hx)) ?_
          show (if crosses q.2 (carried p.im r) then m ^^^ (1 <<< q.1) else m) < 2 ^ L
          split
          · exact Nat.xor_lt_two_pow h (by rw [one_shl]; exact sh_lt (hk q List.mem_cons_self))
          · exact h
      exact hb _ _ h2 (ha ns 0 h1 (Nat.two_pow_pos L))
    have hk2 : (maskB p.strikes (carried p.im r) (maskA ns)).testBit k = true := by
      unfold bitsOf at hk
      exact (List.mem_filter.mp hk).2
    exact bit_lt (hm2 s.ans.length hns fun q hq => (h.st q hq).1) hk2
  · show (p.asks ++ [_]).length = (s.ans ++ [_]).length
    rw [List.length_append, List.length_append, h.al]; rfl
  · rw [List.map_append, List.sum_append, hasks]
    show _ = (s.ans ++ [_]).length
    rw [List.length_append]
    rfl
theorem step_ok {n : Nat} {cs : List Nat} (hcs : Le1 cs) {s0 s u : BS} {p : PSt} (h : Step n cs s0 s u p) (hasks : (p.asks.map Deed.looks).sum = s.ans.length) {d : Deed} (hd : d.Ok n s.ans.length) :
    ∃ u', Step n cs s0 (stepB n cs s d) u' (pullStep p d) ∧ ((pullStep p d).asks.map Deed.looks).sum = (stepB n cs s d).ans.length ∧ (stepB n cs s d).ans.length = s.ans.length + d.looks := by
  cases d with
  | mv m =>
    have hm : m.Ok n := hd
    refine ⟨u, ⟨h.run, h.ans, h.told, ?_, further_img h.img hm, further_ok h.imok hm, ?_, h.st, h.le, h.tl, h.nz, h.aok, h.al⟩, hasks, rfl⟩
    · show chg s.f m = chgs (strike u.f (sofRow s.ans p.strikes)) (p.moves ++ [m])
      rw [chgs_snoc, ← h.f]
    · exact h.ms.append fun x hx => by rw [List.mem_singleton.mp hx]; exact hm
  | look w =>
    have hw : w < n := hd
    have hr : Row.Ok n ⟨0, 0, 1 <<< w⟩ := ⟨Nat.zero_lt_succ 3, Nat.two_pow_pos n, by rw [one_shl]; exact sh_lt hw⟩
    obtain ⟨u', a, b⟩ := look_step hcs h hasks hr (ns := []) (fun k hk => by cases hk) (R := ⟨0, 0, 1 <<< w⟩) ⟨rfl, rfl, rfl⟩
    refine ⟨u', a, b, ?_⟩
    show (s.ans ++ [_]).length = _
    rw [List.length_append]; rfl
  | ask r ns =>
    obtain ⟨u', a, b⟩ := look_step hcs h hasks hd.1 hd.2 (signed_alk h.le ns r)
    refine ⟨u', a, b, ?_⟩
    show (s.ans ++ [_]).length = _
    rw [List.length_append]; rfl
  | strk k r =>
    have hk : k < s.ans.length := hd.1
    have cok := carried_ok h.imok hd.2
    have hS : sofRow s.ans (p.strikes ++ [(k, carried p.im r)]) = if an s.ans k = 1 then product (carried p.im r) (sofRow s.ans p.strikes) else sofRow s.ans p.strikes := by
      unfold sofRow; rw [List.foldl_append]; rfl
    have hst : ∀ q ∈ p.strikes ++ [(k, carried p.im r)], q.1 < s.ans.length ∧ q.2.Ok n := fun q hq => by
      rcases List.mem_append.mp hq with z | z
      · exact h.st q z
      · rw [List.mem_singleton.mp z]; exact ⟨hk, cok⟩
    by_cases c : an s.ans k = 1
    · have e : stepB n cs s (.strk k r) = ⟨strike s.f r, s.ans, s.told⟩ := if_pos c
      rw [e]
      refine ⟨u, ⟨h.run, h.ans, h.told, ?_, h.img, h.imok, h.ms, hst, h.le, h.tl, h.nz, h.aok, h.al⟩, hasks, rfl⟩
      show strike s.f r = chgs (strike u.f (sofRow s.ans (p.strikes ++ [(k, carried p.im r)]))) p.moves
      rw [hS, if_pos c, h.f, ← strike_strike]
      exact (carried_rel h.img hd.2.x hd.2.z _).symm
    · have e : stepB n cs s (.strk k r) = s := if_neg c
      rw [e]
      refine ⟨u, ⟨h.run, h.ans, h.told, ?_, h.img, h.imok, h.ms, hst, h.le, h.tl, h.nz, h.aok, h.al⟩, hasks, rfl⟩
      show s.f = chgs (strike u.f (sofRow s.ans (p.strikes ++ [(k, carried p.im r)]))) p.moves
      rw [hS, if_neg c]
      exact h.f
theorem steps_ok {n : Nat} {cs : List Nat} (hcs : Le1 cs) {s0 : BS} : ∀ (w : List Deed) {s u : BS} {p : PSt}, Step n cs s0 s u p → (p.asks.map Deed.looks).sum = s.ans.length → WOk n s.ans.length w →
    ∃ u', Step n cs s0 (ranB n cs s w) u' (w.foldl pullStep p)
  | [], s, u, p, h, _, _ => ⟨u, h⟩
  | d :: w, s, u, p, h, ha, hw => by
    obtain ⟨u', h1, h2, h3⟩ := step_ok hcs h ha hw.1
    exact steps_ok hcs w h1 h2 (by rw [h3]; exact hw.2)
theorem step0 {n : Nat} {cs : List Nat} {f : Vec} (hf : nrm n f ≠ 0) : Step n cs ⟨f, [], []⟩ ⟨f, [], []⟩ ⟨f, [], []⟩ ⟨doing n [], [], [], []⟩ where
  run := rfl
  ans := rfl
  told := rfl
  f := by
    show f = strike f ⟨0, 0, 0⟩
    funext k
    rw [strike_eq]
    show _ = spun (f (k ^^^ 0)) (0 + 2 * (dot 0 (k ^^^ 0)).toNat)
    rw [dot_zero_left, Nat.xor_zero]; rfl
  img := gens_img n
  imok := gens_ok n
  ms := fun x hx => by cases hx
  st := fun q hq => by cases hq
  le := fun q hq => by cases hq
  tl := rfl
  nz := hf
  aok := trivial
  al := rfl
/-- THE LAW, without the program: the same is told, and the vectors left are one another by a factor -/
theorem pulled_same {n : Nat} {cs : List Nat} (hcs : Le1 cs) {f : Vec} (hf : nrm n f ≠ 0) {w : List Deed} (hw : WOk n 0 w) {ks : List Nat} (hk : ks.Perm ((joinD (pullAll n w).strikes).map (·.1))) :
    (ranB n cs ⟨f, [], []⟩ (pulledW n w ks)).told = (ranB n cs ⟨f, [], []⟩ w).told ∧
    ∃ c d : G, c ≠ (0, 0) ∧ d ≠ (0, 0) ∧ (∀ k, k < 2 ^ n → gmul c ((ranB n cs ⟨f, [], []⟩ (pulledW n w ks)).f k) = gmul d ((ranB n cs ⟨f, [], []⟩ w).f k)) ∧
    nrm n (ranB n cs ⟨f, [], []⟩ w).f ≠ 0 := by
  obtain ⟨u, h⟩ := steps_ok (n := n) (s0 := ⟨f, [], []⟩) hcs w (step0 hf) rfl hw
  have hp : w.foldl pullStep ⟨doing n [], [], [], []⟩ = pullAll n w := rfl
  rw [hp] at h
  generalize hs : ranB n cs ⟨f, [], []⟩ w = s at h
  generalize hP : pullAll n w = p at h hk
  have hS0 : u = ⟨strike u.f ⟨0, 0, 0⟩, s.ans, s.told⟩ := by
    have e : strike u.f ⟨0, 0, 0⟩ = u.f := by
      funext k
      rw [strike_eq]
      show spun (u.f (k ^^^ 0)) (0 + 2 * (dot 0 (k ^^^ 0)).toNat) = _
      rw [dot_zero_left, Nat.xor_zero]; rfl
    rw [e, ← h.ans, ← h.told]
  obtain ⟨S', e1, e2, e3⟩ := whens_done n cs (joinD p.strikes) s.ans s.told ks u.f ⟨0, 0, 0⟩
  have eo : ranB n cs ⟨f, [], []⟩ (pulledW n w ks) = ⟨chgs (strike u.f S') (fair n p.moves), s.ans, s.told⟩ := by
    unfold pulledW
    rw [hP, ranB_append, ranB_append, ← h.run]
    have e9 : ranB n cs u (whensOf (joinD p.strikes) ks) = ⟨strike u.f S', s.ans, s.told⟩ := (congrArg (fun z => ranB n cs z (whensOf (joinD p.strikes) ks)) hS0).trans e1
    rw [e9]
    exact moves_done _ _ _ _ _ _
  have sok := sofRow_ok (ans := s.ans) fun q hq => (h.st q hq).2
  -- the marks are the same
  have hsum : ∀ g : Row → Nat, xsum s.ans g (ks.map fun k => (k, getA (joinD p.strikes) k)) = xsum s.ans g (joinD p.strikes) := fun g => by
    rw [xsum_perm s.ans g (hk.map fun k => (k, getA (joinD p.strikes) k)), List.map_map]
    congr 1
    have : ∀ q ∈ joinD p.strikes, ((fun k => (k, getA (joinD p.strikes) k)) ∘ fun q => q.1) q = q := fun q hq => by
      show (q.1, getA (joinD p.strikes) q.1) = q
      rw [getA_mem (joinD_nodup _) q hq]
    rw [List.map_congr_left this]
    simp
  have hx : S'.x = (sofRow s.ans p.strikes).x := by
    rw [e2, hsum, (xsum_joinD s.ans p.strikes).1, (sofRow_x s.ans p.strikes).1]; exact Nat.zero_xor _
  have hz : S'.z = (sofRow s.ans p.strikes).z := by
    rw [e3, hsum, (xsum_joinD s.ans p.strikes).2, (sofRow_x s.ans p.strikes).2]; exact Nat.zero_xor _
  rw [eo]
  refine ⟨rfl, ?_⟩
  obtain ⟨c, d, hc, hd, hfd⟩ := fair_does h.ms
  refine ⟨c, gmul (iu (S'.t + 3 * (sofRow s.ans p.strikes).t)) d, hc, gmul_ne (iu_ne _) hd, fun k hk => ?_, ?_⟩
  · show gmul c (chgs (strike u.f S') (fair n p.moves) k) = gmul _ (s.f k)
    rw [strike_marks hx hz, chgs_vmul]
    show gmul c (gmul _ _) = _
    rw [← gmul_assoc, gmul_comm c, gmul_assoc, hfd _ k hk, ← gmul_assoc, h.f]
  · rw [h.f, nrm_chgs _ h.ms, nrm_strike _ sok.x]
    intro e
    rcases Int.mul_eq_zero.mp e with q | q
    · have := scales_pos p.moves; omega
    · exact h.nz q
/-- the law's own likeness -/
theorem alike_of {n : Nat} {v o : Vec} {c d : G} (hc : c ≠ (0, 0)) (hd : d ≠ (0, 0)) (h : ∀ k, k < 2 ^ n → gmul c (o k) = gmul d (v k)) {at_ : Nat} (hat : at_ < 2 ^ n) (hv : v at_ ≠ (0, 0)) :
    o at_ ≠ (0, 0) ∧ ∀ k, k < 2 ^ n → gmul (v k) (o at_) = gmul (o k) (v at_) := by
  refine ⟨fun e => ?_, fun k hk => gmul_cancel hc ?_⟩
  · have := h at_ hat
    rw [e, gmul_zero_right] at this
    exact gmul_ne hd hv this.symm
  · rw [← gmul_assoc, gmul_comm c, gmul_assoc, h at_ hat, ← gmul_assoc, gmul_comm (v k), ← gmul_assoc, h k hk]
theorem nz_place {n : Nat} {f : Vec} (h : nrm n f ≠ 0) : ∃ k, k < 2 ^ n ∧ f k ≠ (0, 0) := by
  apply Classical.byContradiction
  intro q
  apply h
  have z : ∀ k, k < 2 ^ n → f k = (0, 0) := fun k hk => by
    apply Classical.byContradiction
    intro e
    exact q ⟨k, hk, e⟩
  have : nrm n f = sumN (fun _ => 0) (2 ^ n) := sumN_congr fun k hk => by rw [z k hk]; rfl
  rw [this]
  generalize 2 ^ n = m
  induction m with
  | zero => rfl
  | succ m ih => simp only [sumN]; rw [ih]; rfl
theorem nrm_of_place {n k : Nat} {f : Vec} (hk : k < 2 ^ n) (h : f k ≠ (0, 0)) : nrm n f ≠ 0 := fun e => h (nrm_zero e k hk)
end Sg

namespace Sg
open PySem L2
/-! ### the text by places -/
def top (i : Nat) : Stmt := PySem.Challenge.pw_signtable_k63_whole_pulled_does_the_same.main.body.getD i (.Pass ⟨0, 0, 0, 0⟩)

/-! ### a def that others call -/
structure Df (P : Program) (w : World) (K : PySem.W.Frag) (mg : Str → Option Value) (base : Heap) (k : Nat) (x : Str) (ps : List Str) (sp : Sp) : Prop where
  ex : ∃ f fd, FnOk P w K mg base CX0 k f fd ps sp ∧ mg x = some (.ref f) ∧ PySem.W.keepIn K (.ref f) = true ∧ Binds K fd ps []
section
variable {X : Cx} {k : Nat} {x : Str} {ps : List Str} {sp : Sp} {p pos : Pos} {e : Expr} {es : List Expr} {t : TA}
theorem pe_fn (D : Df X.prog X.w X.K X.mg X.base k x ps sp) (hr : Room k X.A) (ha : PA X (e :: es) t) (hg : Gl X x := by rfl) (hdb : (x == ("__debug__" : Str)) = false := by decide)
    (he : starEach (e :: es) X.env = (false, eval e X.env) :: starEach es X.env := by rfl) (hpl : (backTo pos (starEach es X.env)).any (·.1) = false := by rfl) :
    PE X (.Call (.Name x p) (e :: es) [] pos) (tCall sp [] E0 t) := by
  obtain ⟨f, fd, F, m, kp, b⟩ := D.ex
  exact pe_call F hr hg m kp b .nil pass0 ha hdb he hpl
end

/-- a value handed on -/
def Ap (Q : VK) (v : V) (H : Hp) : Prop := Q v H
/-! ### readings, one step -/
section
variable {σ : L2.St} {H : Hp} {Q : VK} {ta tb te : TE} {t : TA} {tt tu : TT} {r : R2} {K : PySem.W.Frag} {D : Ends} {s1 s2 : TS} {g : TG} {i j : Nat} {v x y : V} {p : Addr} {xs : List V} {a b : Int} {B : Bool → Hp → Prop} {q : Bool}
theorem rd_var (h : σ[i]? = some (some v)) (k : Q v H) : tVar i σ H Q := ⟨v, h, k⟩
theorem rd_c (k : Q v H) : tC v σ H Q := k
theorem rd_op (k : ta σ H fun x H1 => tb σ H1 fun y H2 => r x y H2 Q) : tOp r ta tb σ H Q := k
theorem rd_un {u : V → Hp → VK → Prop} (k : ta σ H fun x H1 => u x H1 Q) : tUn u ta σ H Q := k
theorem rd_I0 {f : Int → Int → V} (k : Q (f a b) H) : rI0 f (.int a) (.int b) H Q := ⟨a, b, rfl, rfl, k⟩
theorem rd_I {C : Int → Int → Prop} {f : Int → Int → V} (c : C a b) (k : Q (f a b) H) : rI C f (.int a) (.int b) H Q := ⟨a, b, rfl, rfl, c, k⟩
theorem rd_U {f : Int → V} (k : Q (f a) H) : rU f (.int a) H Q := ⟨a, rfl, k⟩
theorem rd_ixT (h : H p = some (.tup xs)) (ha : atI xs a = some v) (k : Q v H) : rIxT K (.ref p) (.int a) H Q := ⟨p, xs, a, v, rfl, rfl, SqT.of h, ha, k⟩
theorem rd_ixL (h : H p = some (.lst xs)) (ha : atI xs a = some v) (k : Q v H) : rIxL K (.ref p) (.int a) H Q := ⟨p, xs, a, v, rfl, rfl, SqL.of h, ha, k⟩
theorem rd_tup (k : t σ H fun xs H1 => xs.length ≤ sizeLine ∧ ∀ p, H1 p = none → Q (.ref p) (upd H1 p (.tup xs))) : tTup t σ H Q := k
theorem rd_tupH (k : t σ H fun xs H1 => xs.length ≤ sizeLine ∧ ∀ p, H1 p = none → Ap Q (.ref p) (upd H1 p (.tup xs))) : tTup t σ H Q := k
theorem rd_lstH (k : t σ H fun xs H1 => xs.length ≤ sizeLine ∧ ∀ p, H1 p = none → Ap Q (.ref p) (upd H1 p (.lst xs))) : tLst t σ H Q := k
theorem rd_ap (k : Q v H) : Ap Q v H := k
theorem rd_lst (k : t σ H fun xs H1 => xs.length ≤ sizeLine ∧ ∀ p, H1 p = none → Q (.ref p) (upd H1 p (.lst xs))) : tLst t σ H Q := k
theorem rd_cons {tr : TA} {R : List V → Hp → Prop} (k : ta σ H fun x H1 => tr σ H1 fun xs H2 => R (x :: xs) H2) : tCons ta tr σ H R := k
theorem rd_nil {R : List V → Hp → Prop} (k : R [] H) : tNil σ H R := k
theorem rd_call {sp : Sp} {dvs : List V} {E : XK} (k : t σ H fun vs H1 => sp (vs ++ dvs) H1 Q E) : tCall sp dvs E t σ H Q := k
theorem rd_cb {r : List V → Hp → VK → Prop} (k : t σ H fun vs H1 => r vs H1 Q) : tCB r t σ H Q := k
theorem rd_sT {s u : Str} {A B : Prop} (h : s = u) (k : A) : if decide (s = u) = true then A else B := by rw [decide_eq_true h]; exact iteT k
theorem rd_sF {s u : Str} {A B : Prop} (h : ¬ s = u) (k : B) : if decide (s = u) = true then A else B := by rw [decide_eq_false h]; exact iteF k
theorem rd_orV (k : ta σ H fun x H1 => ∃ c, x = .bl c ∧ if c = true then Q (.bl true) H1 else tb σ H1 Q) : tOrV ta tb σ H Q := k
theorem rd_andV (k : ta σ H fun x H1 => ∃ c, x = .bl c ∧ if c = true then tb σ H1 Q else Q (.bl false) H1) : tAndV ta tb σ H Q := k
theorem rd_asg (k : te σ H fun x H1 => g x σ H1 D.nx) : tAsg te g D σ H := k
theorem rd_gname {R : L2.St → Hp → Prop} (k : R (σ.set i (some v)) H) : gName i v σ H R := k
theorem rd_gnameE {R : L2.St → Hp → Prop} {σ' : L2.St} (e : σ.set i (some v) = σ') (k : R σ' H) : gName i v σ H R := by subst e; exact k
theorem st_norm {ts : TS} {σ' : L2.St} (e : σ = σ') (k : ts D σ' H) : ts D σ H := by subst e; exact k
theorem rd_augE {ti : TIp} {F : V → L2.St} (h : σ[i]? = some (some x)) (e : ∀ z, σ.set i (some z) = F z) (k : te σ H fun y H1 => ti x y H1 fun z H2 => D.nx (F z) H2) : tAug i te ti D σ H := by
  have e' : F = fun z => σ.set i (some z) := funext fun z => (e z).symm
  subst e'
  exact ⟨x, h, k⟩
theorem rd_seq (k : s1 { D with nx := s2 D } σ H) : tSeq s1 s2 D σ H := k
theorem rd_ret (k : te σ H D.rt) : tRet te D σ H := k
theorem rd_drop (k : te σ H fun _ H1 => D.nx σ H1) : tDrop te D σ H := k
theorem rd_next (k : D.nx σ H) : tNext D σ H := k
theorem rd_test (k : te σ H fun x H' => ∃ k, x = .bl k ∧ B k H') : tTest te σ H B := k
theorem rd_B (k : te σ H fun x H' => ∃ k, x = .bl k ∧ B k H') : tB te σ H B := k
theorem rd_bl {R : Bool → Prop} (k : R q) : ∃ k, V.bl q = .bl k ∧ R k := ⟨q, rfl, k⟩
theorem rd_eqI (k : Q (.bl (decide (a = b))) H) : rEq (.int a) (.int b) H Q := ⟨rfl, by
  have e : decide (V.int a = V.int b) = decide (a = b) := by rw [dec_int]; by_cases h : a = b <;> simp [h]
  rw [e]; exact k⟩
theorem rd_neI (k : Q (.bl (!decide (a = b))) H) : rNe (.int a) (.int b) H Q := ⟨rfl, by
  have e : decide (V.int a = V.int b) = decide (a = b) := by rw [dec_int]; by_cases h : a = b <;> simp [h]
  rw [e]; exact k⟩
theorem rd_eqS {s u : Str} (k : Q (.bl (decide (s = u))) H) : rEq (.str s) (.str u) H Q := ⟨rfl, by
  have e : decide (V.str s = V.str u) = decide (s = u) := by by_cases h : s = u <;> simp [h]
  rw [e]; exact k⟩
theorem rd_ifS (k : tt σ H fun b H1 => if b = true then s1 D σ H1 else s2 D σ H1) : tIfS tt s1 s2 D σ H := k
theorem rd_ifE (k : tt σ H fun b H1 => if b = true then ta σ H1 Q else tb σ H1 Q) : tIf tt ta tb σ H Q := k
theorem rd_not {B : Bool → Hp → Prop} (k : tt σ H fun c H1 => B (!c) H1) : tNot tt σ H B := k
theorem rd_and (k : tt σ H fun c H1 => if c = true then tu σ H1 B else B false H1) : tAnd tt tu σ H B := k
theorem rd_or (k : tt σ H fun c H1 => if c = true then B true H1 else tu σ H1 B) : tOr tt tu σ H B := k
theorem rd_gtup {n : Nat} {u : TGs} {R : L2.St → Hp → Prop} (h : H p = some (.tup xs)) (hl : xs.length = n) (k : u xs σ H R) : gTup K n u (.ref p) σ H R := ⟨p, xs, rfl, SqT.of h, hl, k⟩
theorem rd_gcons {g : TG} {u : TGs} {R : L2.St → Hp → Prop} (k : g v σ H fun σ' H' => u xs σ' H' R) : gCons g u (v :: xs) σ H R := ⟨v, xs, rfl, k⟩
theorem rd_gnil {R : L2.St → Hp → Prop} (k : R σ H) : gNil [] σ H R := ⟨rfl, k⟩
theorem rd_aug {ti : TIp} (h : σ[i]? = some (some x)) (k : te σ H fun y H1 => ti x y H1 fun z H2 => D.nx (σ.set i (some z)) H2) : tAug i te ti D σ H := ⟨x, h, k⟩
theorem rd_ipI {f : Int → Int → Int} (k : Q (.int (f a b)) H) : ipI f (.int a) (.int b) H Q := ⟨a, b, rfl, rfl, k⟩
end

/-! ### operators on whole numbers from 0 on -/
def rAndN : R2 := fun x y H Q => ∃ a b : Nat, x = .int (a : Int) ∧ y = .int (b : Int) ∧ Q (.int ((a &&& b : Nat) : Int)) H
def rOrN : R2 := fun x y H Q => ∃ a b : Nat, x = .int (a : Int) ∧ y = .int (b : Int) ∧ Q (.int ((a ||| b : Nat) : Int)) H
def rXorN : R2 := fun x y H Q => ∃ a b : Nat, x = .int (a : Int) ∧ y = .int (b : Int) ∧ Q (.int ((a ^^^ b : Nat) : Int)) H
def rAddN : R2 := fun x y H Q => ∃ a b : Nat, x = .int (a : Int) ∧ y = .int (b : Int) ∧ Q (.int ((a + b : Nat) : Int)) H
def rSubN : R2 := fun x y H Q => ∃ a b : Nat, x = .int (a : Int) ∧ y = .int (b : Int) ∧ b ≤ a ∧ Q (.int ((a - b : Nat) : Int)) H
def rMulN : R2 := fun x y H Q => ∃ a b : Nat, x = .int (a : Int) ∧ y = .int (b : Int) ∧ (a < 2 ^ 64 ∨ b < 2 ^ 64) ∧ Q (.int ((a * b : Nat) : Int)) H
def rModN : R2 := fun x y H Q => ∃ a b : Nat, x = .int (a : Int) ∧ y = .int (b : Int) ∧ 0 < b ∧ Q (.int ((a % b : Nat) : Int)) H
def rDivN : R2 := fun x y H Q => ∃ a b : Nat, x = .int (a : Int) ∧ y = .int (b : Int) ∧ (0 < b ∧ b < 1073741824) ∧ Q (.int ((a / b : Nat) : Int)) H
def rShlN : R2 := fun x y H Q => ∃ a b : Nat, x = .int (a : Int) ∧ y = .int (b : Int) ∧ (b ≤ 1000000 ∧ a < 2 ^ 64) ∧ Q (.int ((a <<< b : Nat) : Int)) H
def rShrN : R2 := fun x y H Q => ∃ a b : Nat, x = .int (a : Int) ∧ y = .int (b : Int) ∧ Q (.int ((a >>> b : Nat) : Int)) H
def rEqN : R2 := fun x y H Q => ∃ a b : Nat, x = .int (a : Int) ∧ y = .int (b : Int) ∧ Q (.bl (decide (a = b))) H
def rNeN : R2 := fun x y H Q => ∃ a b : Nat, x = .int (a : Int) ∧ y = .int (b : Int) ∧ Q (.bl (!decide (a = b))) H
def rLtN : R2 := fun x y H Q => ∃ a b : Nat, x = .int (a : Int) ∧ y = .int (b : Int) ∧ Q (.bl (decide (a < b))) H
def rGtN : R2 := fun x y H Q => ∃ a b : Nat, x = .int (a : Int) ∧ y = .int (b : Int) ∧ Q (.bl (decide (b < a))) H
section
variable {X : Cx}
theorem of_op {f : Value → Value → Sem Value} {r r' : R2} (h : OpR X f r) (i : ∀ x y H Q, r' x y H Q → r x y H Q) : OpR X f r' := fun pins s σ H x y v u Q I rx ry q => h pins s σ H x y v u Q I rx ry (i _ _ _ _ q)
theorem op_andN : OpR X (binaryOp .BitAnd) rAndN := of_op op_and fun x y H Q ⟨a, b, e1, e2, q⟩ => ⟨a, b, e1, e2, by
  show Q (V.int (Builtin.bitAnd a b)) H
  rw [PyProof.Rows.bitAnd_pp (Int.natCast_nonneg a) (Int.natCast_nonneg b)]; exact q⟩
theorem op_orN : OpR X (binaryOp .BitOr) rOrN := of_op op_or fun x y H Q ⟨a, b, e1, e2, q⟩ => ⟨a, b, e1, e2, by
  show Q (V.int (Builtin.bitOr a b)) H
  rw [Bits.bitOr_pp (Int.natCast_nonneg a) (Int.natCast_nonneg b)]; exact q⟩
theorem op_xorN : OpR X (binaryOp .BitXor) rXorN := of_op op_xor fun x y H Q ⟨a, b, e1, e2, q⟩ => ⟨a, b, e1, e2, by
  show Q (V.int (Builtin.bitXor a b)) H
  rw [Bits.bitXor_pp (Int.natCast_nonneg a) (Int.natCast_nonneg b)]; exact q⟩
theorem op_addN : OpR X (binaryOp .Add) rAddN := of_op op_add fun x y H Q ⟨a, b, e1, e2, q⟩ => ⟨a, b, e1, e2, q⟩
theorem op_subN : OpR X (binaryOp .Sub) rSubN := of_op op_sub fun x y H Q ⟨a, b, e1, e2, c, q⟩ => ⟨a, b, e1, e2, by
  show Q (V.int ((a : Int) - b)) H
  rw [← Int.ofNat_sub c]; exact q⟩
theorem op_mulN : OpR X (binaryOp .Mult) rMulN := of_op op_mul fun x y H Q ⟨a, b, e1, e2, c, q⟩ => ⟨a, b, e1, e2, by
  rcases c with c | c
  · exact .inl ⟨by omega, by omega⟩
  · exact .inr ⟨by omega, by omega⟩, q⟩
theorem op_modN' : OpR X (binaryOp .Mod) rModN := of_op op_mod fun x y H Q ⟨a, b, e1, e2, c, q⟩ => ⟨a, b, e1, e2, by show (0 : Int) < b; omega, q⟩
theorem op_divN : OpR X (binaryOp .FloorDiv) rDivN := of_op op_fdiv fun x y H Q ⟨a, b, e1, e2, c, q⟩ => ⟨a, b, e1, e2, ⟨by omega, by omega⟩, q⟩
theorem op_shlN : OpR X (binaryOp .LShift) rShlN := of_op op_shl fun x y H Q ⟨a, b, e1, e2, c, q⟩ => ⟨a, b, e1, e2, ⟨by omega, by omega, by omega⟩, by
  show Q (V.int ((a : Int) * 2 ^ ((b : Int)).toNat)) H
  have e : (a : Int) * 2 ^ ((b : Int)).toNat = ((a <<< b : Nat) : Int) := by
    rw [Int.toNat_natCast, PyProof.Rows.two_pow_cast, ← Int.natCast_mul, Nat.shiftLeft_eq]
  rw [e]; exact q⟩
theorem op_shrN : OpR X (binaryOp .RShift) rShrN := of_op op_shr fun x y H Q ⟨a, b, e1, e2, q⟩ => ⟨a, b, e1, e2, (by show (0 : Int) ≤ b; omega), by
  show Q (V.int ((a : Int) / 2 ^ ((b : Int)).toNat)) H
  have e : (a : Int) / 2 ^ ((b : Int)).toNat = ((a >>> b : Nat) : Int) := by
    rw [Int.toNat_natCast, PyProof.Rows.two_pow_cast, ← Int.natCast_ediv, Nat.shiftRight_eq_div_pow]
  rw [e]; exact q⟩
theorem dec_nat {a b : Nat} : decide (V.int (a : Int) = V.int (b : Int)) = decide (a = b) := by
  rw [dec_int]
  by_cases h : a = b
  · simp [h]
  · have : ¬ (a : Int) = b := by omega
    simp [h, this]
theorem op_eqN : OpR X (compareOp .Eq) rEqN := of_op op_eq fun x y H Q ⟨a, b, e1, e2, q⟩ => by
  subst e1; subst e2
  exact ⟨rfl, by rw [dec_nat]; exact q⟩
theorem op_neN : OpR X (compareOp .NotEq) rNeN := of_op op_ne fun x y H Q ⟨a, b, e1, e2, q⟩ => by
  subst e1; subst e2
  exact ⟨rfl, by rw [dec_nat]; exact q⟩
theorem op_ltN : OpR X (compareOp .Lt) rLtN := of_op op_lt fun x y H Q ⟨a, b, e1, e2, q⟩ => ⟨a, b, e1, e2, by
  have e : decide ((a : Int) < b) = decide (a < b) := by by_cases h : a < b <;> simp [h] <;> omega
  show Q (V.bl (decide ((a : Int) < b))) H
  rw [e]; exact q⟩
theorem op_gtN : OpR X (compareOp .Gt) rGtN := of_op op_gt fun x y H Q ⟨a, b, e1, e2, q⟩ => ⟨a, b, e1, e2, by
  have e : decide ((b : Int) < a) = decide (b < a) := by by_cases h : b < a <;> simp [h] <;> omega
  show Q (V.bl (decide ((b : Int) < a))) H
  rw [e]; exact q⟩
theorem pe_nat (n : Nat) {j pos} : PE X (.Constant (.int (n : Int)) j pos) (tC (.int (n : Int))) := pe_int
end
def ipN (f : Nat → Nat → Nat) : TIp := fun x y H Q => ∃ a b : Nat, x = .int (a : Int) ∧ y = .int (b : Int) ∧ Q (.int ((f a b : Nat) : Int)) H
theorem ip_addN {X : Cx} : PIp X .Add (ipN fun a b => a + b) := fun pins s σ H x y v u Q I rx ry ⟨a, b, e1, e2, q⟩ => ip_add pins s σ H x y v u Q I rx ry ⟨a, b, e1, e2, q⟩

/-! ### heaps -/
theorem upd_old {H : Hp} {p a : Addr} {o u : HO} (hp : H p = none) (h : H a = some u) : upd H p o a = some u := by rw [upd_ne (ne_of_none h hp)]; exact h
theorem same_at {H H' : Hp} {a : Addr} {o : HO} (s : Same H H') (h : H a = some o) : H' a = some o := s _ _ h
theorem rd_new {H : Hp} {o : HO} {Q : VK} (k : ∀ p H', H p = none → Same H H' → H' p = some o → Ap Q (.ref p) H') : ∀ p, H p = none → Ap Q (.ref p) (upd H p o) := fun p hp => k p _ hp (fun _ _ h => upd_old hp h) upd_same
theorem same_new {H : Hp} {p : Addr} {o : HO} (hp : H p = none) : Same H (upd H p o) := fun _ _ h => upd_old hp h

/-! ### what stands in the heap -/
def IRow (H : Hp) (v : V) (r : Row) : Prop := ∃ a, v = .ref a ∧ H a = some (.tup [.int (r.t : Int), .int (r.x : Int), .int (r.z : Int)])
def INum (H : Hp) (v : V) (g : G) : Prop := ∃ a, v = .ref a ∧ H a = some (.tup [.int g.1, .int g.2])
def K1.name : K1 → Str
  | .mix => "mix" | .quarter => "quarter" | .back => "back" | .flip => "flip" | .sign => "sign"
def K2.name : K2 → Str
  | .join => "join" | .both => "both" | .swap => "swap"
def IMv (H : Hp) (v : V) : Mv → Prop
  | .one k w => ∃ a, v = .ref a ∧ H a = some (.tup [.str k.name, .int (w : Int)])
  | .two k w u => ∃ a, v = .ref a ∧ H a = some (.tup [.str k.name, .int (w : Int), .int (u : Int)])
def ITup (H : Hp) (v : V) (ns : List Nat) : Prop := ∃ a, v = .ref a ∧ H a = some (.tup (ns.map fun (k : Nat) => V.int (k : Int)))
def IDeed (H : Hp) (v : V) : Deed → Prop
  | .mv m => IMv H v m
  | .look w => ∃ a, v = .ref a ∧ H a = some (.tup [.str "look", .int (w : Int)])
  | .ask r ns => ∃ a x y, v = .ref a ∧ H a = some (.tup [.str "ask", x, y]) ∧ IRow H x r ∧ ITup H y ns
  | .strk k r => ∃ a x, v = .ref a ∧ H a = some (.tup [.str "when", .int (k : Int), x]) ∧ IRow H x r
/-- all tuples stay -/
def Tp (H H' : Hp) : Prop := ∀ b xs, H b = some (.tup xs) → H' b = some (.tup xs)
theorem Tp.refl (H : Hp) : Tp H H := fun _ _ h => h
theorem Tp.trans {H H1 H2 : Hp} (a : Tp H H1) (b : Tp H1 H2) : Tp H H2 := fun c o h => b c o (a c o h)
theorem tp_of {H H' : Hp} (s : Same H H') : Tp H H' := fun b xs h => s b _ h
theorem IRow.mono {H H' : Hp} {v : V} {r : Row} (s : Tp H H') (h : IRow H v r) : IRow H' v r := let ⟨a, e, q⟩ := h; ⟨a, e, s _ _ q⟩
theorem INum.mono {H H' : Hp} {v : V} {r : G} (s : Tp H H') (h : INum H v r) : INum H' v r := let ⟨a, e, q⟩ := h; ⟨a, e, s _ _ q⟩
theorem ITup.mono {H H' : Hp} {v : V} {r : List Nat} (s : Tp H H') (h : ITup H v r) : ITup H' v r := let ⟨a, e, q⟩ := h; ⟨a, e, s _ _ q⟩
theorem IMv.mono {H H' : Hp} {v : V} {m : Mv} (s : Tp H H') (h : IMv H v m) : IMv H' v m := by
  cases m with
  | one k w => obtain ⟨a, e, q⟩ := h; exact ⟨a, e, s _ _ q⟩
  | two k w u => obtain ⟨a, e, q⟩ := h; exact ⟨a, e, s _ _ q⟩
theorem IDeed.mono {H H' : Hp} {v : V} {d : Deed} (s : Tp H H') (h : IDeed H v d) : IDeed H' v d := by
  cases d with
  | mv m => exact IMv.mono s h
  | look w => obtain ⟨a, e, q⟩ := h; exact ⟨a, e, s _ _ q⟩
  | ask r ns => obtain ⟨a, x, y, e, q, h1, h2⟩ := h; exact ⟨a, x, y, e, s _ _ q, h1.mono s, h2.mono s⟩
  | strk k r => obtain ⟨a, x, e, q, h1⟩ := h; exact ⟨a, x, e, s _ _ q, h1.mono s⟩
/-- lists, item by item -/
def All2 {β α : Type} (R : β → α → Prop) : List β → List α → Prop
  | [], [] => True
  | v :: vs, d :: ds => R v d ∧ All2 R vs ds
  | _, _ => False
section
variable {β α : Type} {R S : β → α → Prop}
theorem All2.len : ∀ {vs : List β} {ds : List α}, All2 R vs ds → vs.length = ds.length
  | [], [], _ => rfl
  | _ :: _, _ :: _, h => by rw [List.length_cons, List.length_cons, All2.len h.2]
theorem All2.mono (m : ∀ v d, R v d → S v d) : ∀ {vs : List β} {ds : List α}, All2 R vs ds → All2 S vs ds
  | [], [], _ => True.intro
  | _ :: _, _ :: _, h => ⟨m _ _ h.1, All2.mono m h.2⟩
theorem All2.get : ∀ {vs : List β} {ds : List α} {i : Nat} {v : β}, All2 R vs ds → vs[i]? = some v → ∃ d, ds[i]? = some d ∧ R v d
  | v :: _, d :: _, 0, u, h, e => by
    simp only [List.getElem?_cons_zero, Option.some.injEq] at e
    subst e
    exact ⟨d, rfl, h.1⟩
  | _ :: vs, _ :: ds, i + 1, u, h, e => by
    simp only [List.getElem?_cons_succ] at e ⊢
    exact All2.get h.2 e
  | [], [], _, _, _, e => by simp at e
theorem All2.get' : ∀ {vs : List β} {ds : List α} {i : Nat} {d : α}, All2 R vs ds → ds[i]? = some d → ∃ v, vs[i]? = some v ∧ R v d
  | v :: _, d :: _, 0, u, h, e => by
    simp only [List.getElem?_cons_zero, Option.some.injEq] at e
    subst e
    exact ⟨v, rfl, h.1⟩
  | _ :: vs, _ :: ds, i + 1, u, h, e => by
    simp only [List.getElem?_cons_succ] at e ⊢
    exact All2.get' h.2 e
  | [], [], _, _, _, e => by simp at e
theorem All2.append : ∀ {vs us : List β} {ds es : List α}, All2 R vs ds → All2 R us es → All2 R (vs ++ us) (ds ++ es)
  | [], _, [], _, _, h => h
  | _ :: _, _, _ :: _, _, h, h' => ⟨h.1, All2.append h.2 h'⟩
theorem All2.snoc {vs : List β} {ds : List α} {v : β} {d : α} (h : All2 R vs ds) (h' : R v d) : All2 R (vs ++ [v]) (ds ++ [d]) := h.append ⟨h', True.intro⟩
theorem All2.set : ∀ {vs : List β} {ds : List α} {i : Nat} {v : β} {d : α}, All2 R vs ds → R v d → All2 R (vs.set i v) (ds.set i d)
  | [], [], _, _, _, _, _ => True.intro
  | _ :: _, _ :: _, 0, _, _, h, h' => ⟨h', h.2⟩
  | _ :: _, _ :: _, i + 1, _, _, h, h' => ⟨h.1, All2.set h.2 h'⟩
theorem All2.take : ∀ {vs : List β} {ds : List α} (n : Nat), All2 R vs ds → All2 R (vs.take n) (ds.take n)
  | _, _, 0, _ => True.intro
  | [], [], _ + 1, _ => True.intro
  | _ :: _, _ :: _, n + 1, h => ⟨h.1, All2.take n h.2⟩
theorem All2.reverse : ∀ {vs : List β} {ds : List α}, All2 R vs ds → All2 R vs.reverse ds.reverse
  | [], [], _ => True.intro
  | _ :: _, _ :: _, h => by rw [List.reverse_cons, List.reverse_cons]; exact (All2.reverse h.2).snoc h.1
end
/-- a row's list -/
def IRows (H : Hp) (l : Addr) (rs : List Row) : Prop := ∃ vs, H l = some (.lst vs) ∧ All2 (IRow H) vs rs
def IMvs (H : Hp) (l : Addr) (ms : List Mv) : Prop := ∃ vs, H l = some (.lst vs) ∧ All2 (IMv H) vs ms
def IDeeds (H : Hp) (l : Addr) (ds : List Deed) : Prop := ∃ vs, H l = some (.lst vs) ∧ All2 (IDeed H) vs ds
def tab (N : Nat) (f : Vec) : List G := (List.range N).map f
def IVec (H : Hp) (l : Addr) (N : Nat) (f : Vec) : Prop := ∃ vs, H l = some (.lst vs) ∧ All2 (INum H) vs (tab N f)
theorem IRows.mono {H H' : Hp} {l : Addr} {rs : List Row} (s : Same H H') (h : IRows H l rs) : IRows H' l rs := let ⟨vs, e, q⟩ := h; ⟨vs, s _ _ e, q.mono fun _ _ => IRow.mono (tp_of s)⟩
theorem IMvs.mono {H H' : Hp} {l : Addr} {rs : List Mv} (s : Same H H') (h : IMvs H l rs) : IMvs H' l rs := let ⟨vs, e, q⟩ := h; ⟨vs, s _ _ e, q.mono fun _ _ => IMv.mono (tp_of s)⟩
theorem IDeeds.mono {H H' : Hp} {l : Addr} {rs : List Deed} (s : Same H H') (h : IDeeds H l rs) : IDeeds H' l rs := let ⟨vs, e, q⟩ := h; ⟨vs, s _ _ e, q.mono fun _ _ => IDeed.mono (tp_of s)⟩
theorem IVec.mono {H H' : Hp} {l : Addr} {N : Nat} {f : Vec} (s : Same H H') (h : IVec H l N f) : IVec H' l N f := let ⟨vs, e, q⟩ := h; ⟨vs, s _ _ e, q.mono fun _ _ => INum.mono (tp_of s)⟩

end Sg

namespace Sg
open PySem L2
/-! ### more of what stands in the heap -/
def Deed.isMv : Deed → Bool | .mv _ => true | _ => false
def Deed.isLk : Deed → Bool | .look _ => true | .ask _ _ => true | _ => false
def nI (ns : List Nat) : List V := ns.map fun (k : Nat) => V.int (k : Int)
def IStrike (H : Hp) (v : V) (p : Nat × Row) : Prop := ∃ a x, v = .ref a ∧ H a = some (.tup [.int (p.1 : Int), x]) ∧ IRow H x p.2
theorem IStrike.mono {H H' : Hp} {v : V} {p : Nat × Row} (s : Tp H H') (h : IStrike H v p) : IStrike H' v p := let ⟨a, x, e, q, r⟩ := h; ⟨a, x, e, s _ _ q, r.mono s⟩
def IStr (H : Hp) (l : Addr) (st : List (Nat × Row)) : Prop := ∃ vs, H l = some (.lst vs) ∧ All2 (IStrike H) vs st
theorem IStr.mono {H H' : Hp} {l : Addr} {rs : List (Nat × Row)} (s : Same H H') (h : IStr H l rs) : IStr H' l rs := let ⟨vs, e, q⟩ := h; ⟨vs, s _ _ e, q.mono fun _ _ => IStrike.mono (tp_of s)⟩
def kname : Nat → Str | 0 => "sure" | 1 => "even" | _ => "lean"
def ITold (H : Hp) (v : V) (p : Nat × Nat) : Prop := ∃ a y, v = .ref a ∧ H a = some (.tup [.str (kname p.1), .int (p.2 : Int), y])
theorem ITold.mono {H H' : Hp} {v : V} {p : Nat × Nat} (s : Tp H H') (h : ITold H v p) : ITold H' v p := let ⟨a, y, e, q⟩ := h; ⟨a, y, e, s _ _ q⟩
def IToldL (H : Hp) (l : Addr) (ts : List (Nat × Nat)) : Prop := ∃ vs, H l = some (.lst vs) ∧ All2 (ITold H) vs ts
theorem IToldL.mono {H H' : Hp} {l : Addr} {ts : List (Nat × Nat)} (s : Same H H') (h : IToldL H l ts) : IToldL H' l ts := let ⟨vs, e, q⟩ := h; ⟨vs, s _ _ e, q.mono fun _ _ => ITold.mono (tp_of s)⟩
/-- the images and the steps, two lists that change -/
structure GsAt (H : Hp) (a s : Addr) (g : GS) : Prop where
  ne : a ≠ s
  im : IRows H a g.1
  st : IMvs H s g.2
def Keep2 (a s : Addr) (H H' : Hp) : Prop := ∀ b o, H b = some o → b ≠ a → b ≠ s → H' b = some o
/-- a great bench -/
def gf (n : Nat) (l sl : Addr) : List (Str × V) := [("wires", .int (n : Int)), ("answers", .ref l), ("state", .ref sl)]
structure GAt (C : Addr) (H : Hp) (p l : Addr) (n : Nat) (f : Vec) (ans : List Nat) : Prop where
  ob : ∃ dx sl, H p = some (.ins C dx (gf n l sl)) ∧ IVec H sl (2 ^ n) f ∧ sl ≠ l
  an : H l = some (.lst (nI ans))
/-- bounds -/
def Bd (n b : Nat) (f : Vec) : Prop := ∀ k, k < 2 ^ n → (f k).1.natAbs < 2 ^ b ∧ (f k).2.natAbs < 2 ^ b

/-! ### the promises -/
def spBit : Sp := fun vs H Q _ => ∃ n w : Nat, vs = [.int (n : Int), .int (w : Int)] ∧ Q (.int ((bt n w : Nat) : Int)) H
def spOnes : Sp := fun vs H Q _ => ∃ n : Nat, vs = [.int (n : Int)] ∧ Q (.int ((pc n : Nat) : Int)) H
def spLowest : Sp := fun vs H Q _ => ∃ n : Nat, vs = [.int (n : Int)] ∧ n ≠ 0 ∧ Q (.int ((lowest n : Nat) : Int)) H
def spProduct : Sp := fun vs H Q _ => ∃ (v u : V) (a b : Row), vs = [v, u] ∧ IRow H v a ∧ IRow H u b ∧ ∀ (p : V) (H' : Hp), Same H H' → IRow H' p (product a b) → Q p H'
def spCrosses : Sp := fun vs H Q _ => ∃ (v u : V) (a b : Row), vs = [v, u] ∧ IRow H v a ∧ IRow H u b ∧ Q (.bl (crosses a b)) H
def spSigned : Sp := fun vs H Q _ => ∃ (x z : Nat), vs = [.bl false, .int (x : Int), .int (z : Int)] ∧ ∀ (p : V) (H' : Hp), Same H H' → IRow H' p (signedRow x z) → Q p H'
def spIsMove : Sp := fun vs H Q _ => ∃ (v : V) (d : Deed), vs = [v] ∧ IDeed H v d ∧ Q (.bl d.isMv) H
def spIsLook : Sp := fun vs H Q _ => ∃ (v : V) (d : Deed), vs = [v] ∧ IDeed H v d ∧ Q (.bl d.isLk) H
def spWires : Sp := fun vs H Q _ => ∃ (v : V) (m : Mv), vs = [v] ∧ IMv H v m ∧ ∀ (l : Addr) (H' : Hp), Same H H' → H l = none → H' l = some (.lst (nI (wiresOf m))) → Q (.ref l) H'
def spUndone : Sp := fun vs H Q _ => ∃ (v : V) (m : Mv), vs = [v] ∧ IMv H v m ∧ ∀ (p : V) (H' : Hp), Same H H' → IMv H' p (undone m) → Q p H'
def spMoved1 : Sp := fun vs H Q _ => ∃ (v : V) (r : Row) (k : K1) (w : Nat), vs = [v, .str k.name, .int (w : Int)] ∧ IRow H v r ∧ w ≤ 1000 ∧ ∀ (p : V) (H' : Hp), Same H H' → IRow H' p (moved1 r k w) → Q p H'
def spMoved2 : Sp := fun vs H Q _ => ∃ (v : V) (r : Row) (k : K2) (w u : Nat), vs = [v, .str k.name, .int (w : Int), .int (u : Int)] ∧ IRow H v r ∧ w ≤ 1000 ∧ u ≤ 1000 ∧ ∀ (p : V) (H' : Hp), Same H H' → IRow H' p (moved2 r k w u) → Q p H'
def spMoved : Sp := fun vs H Q _ => ∃ (v u : V) (r : Row) (m : Mv), vs = [v, u] ∧ IRow H v r ∧ IMv H u m ∧ m.Ok 1000 ∧ ∀ (p : V) (H' : Hp), Same H H' → IRow H' p (moved r m) → Q p H'
def spDoing : Sp := fun vs H Q _ => ∃ (n : Nat) (l : Addr) (ms : List Mv), vs = [.int (n : Int), .ref l] ∧ n ≤ 40 ∧ IMvs H l ms ∧ MsOk n ms ∧ ∀ (p : Addr) (H' : Hp), Same H H' → H p = none → IRows H' p (doing n ms) → Q (.ref p) H'
def spCarried : Sp := fun vs H Q _ => ∃ (l : Addr) (im : List Row) (v : V) (r : Row), vs = [.ref l, v] ∧ IRows H l im ∧ im.length ≤ 80 ∧ IRow H v r ∧ ∀ (p : V) (H' : Hp), Same H H' → IRow H' p (carried im r) → Q p H'
def spTake : Sp := fun vs H Q _ => ∃ (a s : Addr) (v : V) (g : GS) (m : Mv), vs = [.ref a, .ref s, v] ∧ GsAt H a s g ∧ g.1.length ≤ 80 ∧ g.2.length ≤ 100000 ∧ IMv H v m ∧ m.Ok 1000 ∧
  ∀ H' : Hp, Keep2 a s H H' → GsAt H' a s (takeS g m) → Q .non H'
def spGather : Sp := fun vs H Q _ => ∃ (a s : Addr) (g : GS) (n w at_ t0 : Nat) (ms : List Mv) (P : Prop), vs = [.ref a, .ref s, .int (at_ : Int), .int (w : Int)] ∧ GsAt H a s g ∧ Good n ms w g ∧ (P → Zf w t0 g) ∧ (P → at_ = 2 * w + 1 ∧ t0 < 4) ∧ at_ < 2 * n ∧ 2 * w ≤ at_ ∧ w < n ∧
  n ≤ 40 ∧ g.2.length + 2 * n + 1 ≤ 90000 ∧ ∀ H' : Hp, Keep2 a s H H' → GsAt H' a s (gather n at_ w g) → (gather n at_ w g).2.length ≤ g.2.length + 2 * n + 1 → Q .non H'
def spClear : Sp := fun vs H Q _ => ∃ (a s : Addr) (g : GS) (n w : Nat) (ms : List Mv), vs = [.ref a, .ref s, .int (w : Int)] ∧ GsAt H a s g ∧ Good n ms w g ∧ w < n ∧ n ≤ 40 ∧ g.2.length + 4 * n + 6 ≤ 80000 ∧
  ∀ H' : Hp, Keep2 a s H H' → GsAt H' a s (clearWire n w g) → (clearWire n w g).2.length ≤ g.2.length + 4 * n + 6 → Q .non H'
def spFair : Sp := fun vs H Q _ => ∃ (n : Nat) (l : Addr) (ms : List Mv), vs = [.int (n : Int), .ref l] ∧ n ≤ 40 ∧ IMvs H l ms ∧ MsOk n ms ∧ ∀ (p : Addr) (H' : Hp), Same H H' → H p = none → IMvs H' p (fair n ms) → (fair n ms).length ≤ n * (4 * n + 6) → Q (.ref p) H'
def spFurther : Sp := fun vs H Q _ => ∃ (l : Addr) (im : List Row) (v : V) (m : Mv) (n : Nat), vs = [.ref l, v] ∧ IRows H l im ∧ ImOk n im ∧ n ≤ 40 ∧ IMv H v m ∧ m.Ok n ∧ ∀ (p : Addr) (H' : Hp), Same H H' → H p = none → IRows H' p (further im m) → Q (.ref p) H'
def askOf : Deed → Row × List Nat
  | .look w => (⟨0, 0, 1 <<< w⟩, [])
  | .ask r ns => (r, ns)
  | _ => (⟨0, 0, 0⟩, [])
def spAsk : Sp := fun vs H Q _ => ∃ (l st : Addr) (im : List Row) (v : V) (d : Deed) (n L : Nat) (ss : List (Nat × Row)), vs = [.ref l, v, .ref st] ∧ IRows H l im ∧ ImOk n im ∧ n ≤ 40 ∧ IDeed H v d ∧ d.isLk = true ∧ d.Ok n L ∧ L ≤ 1000 ∧
  IStr H st ss ∧ (∀ q ∈ ss, q.1 < L) ∧ ∀ (p : V) (H' : Hp), Same H H' → IDeed H' p (pulledAsk im (askOf d).1 (askOf d).2 ss) → Q p H'
def spJoined : Sp := fun vs H Q _ => ∃ (st : Addr) (ss : List (Nat × Row)), vs = [.ref st] ∧ IStr H st ss ∧ ss.length < 64 ∧ ∀ (ks : List Nat) (p : Addr) (H' : Hp), Same H H' → H p = none → ks.Perm ((joinD ss).map (·.1)) → IDeeds H' p (whensOf (joinD ss) ks) → Q (.ref p) H'
def spPulled : Sp := fun vs H Q _ => ∃ (n : Nat) (l : Addr) (w : List Deed), vs = [.int (n : Int), .ref l] ∧ n ≤ 4 ∧ IDeeds H l w ∧ WOk n 0 w ∧ w.length ≤ 40 ∧
  ∀ (ks : List Nat) (p : Addr) (H' : Hp), Same H H' → H p = none → ks.Perm ((joinD (pullAll n w).strikes).map (·.1)) → IDeeds H' p (pulledW n w ks) → WOk n 0 (pulledW n w ks) → (pulledW n w ks).length ≤ 200 → Q (.ref p) H'
def spPlus : Sp := fun vs H Q _ => ∃ (v u : V) (a b : G), vs = [v, u] ∧ INum H v a ∧ INum H u b ∧ ∀ (p : V) (H' : Hp), Same H H' → INum H' p (gadd a b) → Q p H'
def spMinus : Sp := fun vs H Q _ => ∃ (v u : V) (a b : G), vs = [v, u] ∧ INum H v a ∧ INum H u b ∧ ∀ (p : V) (H' : Hp), Same H H' → INum H' p (gsub a b) → Q p H'
def spSpun : Sp := fun vs H Q _ => ∃ (v : V) (g : G) (t : Nat), vs = [v, .int (t : Int)] ∧ INum H v g ∧ ∀ (p : V) (H' : Hp), Same H H' → INum H' p (spun g t) → Q p H'
def spNorm : Sp := fun vs H Q _ => ∃ (v : V) (g : G), vs = [v] ∧ INum H v g ∧ g.1.natAbs < 2 ^ 400000 ∧ g.2.natAbs < 2 ^ 400000 ∧ Q (.int (gnorm g)) H
def spStart : Sp := fun vs H Q _ => ∃ n : Nat, vs = [.int (n : Int)] ∧ 1 ≤ n ∧ n ≤ 6 ∧ ∀ (p : Addr) (H' : Hp), Same H H' → H p = none → IVec H' p (2 ^ n) (unit 0) → Q (.ref p) H'
def spAfterMix : Sp := fun vs H Q _ => ∃ (l : Addr) (n w : Nat) (f : Vec), vs = [.ref l, .int ((1 <<< w : Nat) : Int)] ∧ n ≤ 6 ∧ w < n ∧ IVec H l (2 ^ n) f ∧ ∀ (p : Addr) (H' : Hp), Same H H' → H p = none → IVec H' p (2 ^ n) (chg f (.one .mix w)) → Q (.ref p) H'
def spinM (f : Vec) (mask t : Nat) : Vec := fun k => if k &&& mask = mask then spun (f k) t else f k
def spAfterSpin : Sp := fun vs H Q _ => ∃ (l : Addr) (n mask t : Nat) (f : Vec), vs = [.ref l, .int (mask : Int), .int (t : Int)] ∧ n ≤ 6 ∧ IVec H l (2 ^ n) f ∧ ∀ (p : Addr) (H' : Hp), Same H H' → H p = none → IVec H' p (2 ^ n) (spinM f mask t) → Q (.ref p) H'
def src (k : Nat) : Mv → Nat
  | .one _ w => k ^^^ (1 <<< w)
  | .two .join w v => k ^^^ (bt k w <<< v)
  | .two _ w v => if bt k w = bt k v then k else k ^^^ (1 <<< w) ^^^ (1 <<< v)
def isPerm : Mv → Bool
  | .one .flip _ => true
  | .two .join _ _ => true
  | .two .swap _ _ => true
  | _ => false
def spSource : Sp := fun vs H Q _ => ∃ (k : Nat) (v : V) (m : Mv), vs = [.int (k : Int), v] ∧ IMv H v m ∧ isPerm m = true ∧ m.Ok 1000 ∧ Q (.int ((src k m : Nat) : Int)) H
def spChanged : Sp := fun vs H Q _ => ∃ (l : Addr) (n : Nat) (f : Vec) (v : V) (m : Mv), vs = [.ref l, v] ∧ n ≤ 6 ∧ IVec H l (2 ^ n) f ∧ IMv H v m ∧ m.Ok n ∧ ∀ (p : Addr) (H' : Hp), Same H H' → H p = none → IVec H' p (2 ^ n) (chg f m) → Q (.ref p) H'
def spStruck : Sp := fun vs H Q _ => ∃ (l : Addr) (n : Nat) (f : Vec) (v : V) (r : Row), vs = [.ref l, v] ∧ n ≤ 6 ∧ IVec H l (2 ^ n) f ∧ IRow H v r ∧ r.x < 2 ^ n ∧ ∀ (p : Addr) (H' : Hp), Same H H' → H p = none → IVec H' p (2 ^ n) (strike f r) → Q (.ref p) H'
def spParted : Sp := fun vs H Q _ => ∃ (l : Addr) (n : Nat) (f : Vec) (v : V) (r : Row) (c : Nat), vs = [.ref l, v, .int (c : Int)] ∧ n ≤ 6 ∧ IVec H l (2 ^ n) f ∧ IRow H v r ∧ r.x < 2 ^ n ∧ ∀ (p : Addr) (H' : Hp), Same H H' → H p = none → IVec H' p (2 ^ n) (part f r c) → Q (.ref p) H'
def spWeights : Sp := fun vs H Q _ => ∃ (l : Addr) (n b : Nat) (f : Vec) (v : V) (r : Row), vs = [.ref l, v] ∧ n ≤ 6 ∧ IVec H l (2 ^ n) f ∧ Bd n b f ∧ b ≤ 5000 ∧ IRow H v r ∧ r.x < 2 ^ n ∧
  ∀ (p : Addr) (H' : Hp), Same H H' → H' p = some (.tup [.int (zeroW n f r), .int (oneW n f r)]) → Q (.ref p) H'
def spSignOf (C : Addr) : Sp := fun vs H Q _ => ∃ (p l : Addr) (n k : Nat) (f : Vec) (ans : List Nat), vs = [.ref p, .int (k : Int)] ∧ GAt C H p l n f ans ∧ k < ans.length ∧ ∀ (q : V) (H' : Hp), Same H H' → IRow H' q ⟨2 * an ans k, 0, 0⟩ → Q q H'
def spSignedG (C : Addr) : Sp := fun vs H Q _ => ∃ (p l : Addr) (n : Nat) (f : Vec) (ans : List Nat) (v u : V) (r : Row) (ns : List Nat), vs = [.ref p, v, u] ∧ GAt C H p l n f ans ∧ IRow H v r ∧ ITup H u ns ∧ (∀ k ∈ ns, k < ans.length) ∧
  ∀ (q : V) (H' : Hp), Same H H' → IRow H' q (signed ans r ns) → Q q H'
def spBInit (C : Addr) : Sp := fun vs H Q _ => ∃ (p dx : Addr) (n : Nat), vs = [.ref p, .int (n : Int)] ∧ H p = some (.ins C dx []) ∧ ∀ (l : Addr) (H' : Hp), H l = none → H' l = some (.lst []) → H' p = some (.ins C dx [("wires", .int (n : Int)), ("answers", .ref l)]) → (∀ b o, H b = some o → b ≠ p → H' b = some o) → Q .non H'
def spGInit (C : Addr) : Sp := fun vs H Q _ => ∃ (p dx : Addr) (n : Nat) (f : Vec) (v : V), vs = [.ref p, .int (n : Int), v] ∧ 1 ≤ n ∧ n ≤ 6 ∧ H p = some (.ins C dx []) ∧ ((v = .non ∧ f = unit 0) ∨ ∃ lv, v = .ref lv ∧ IVec H lv (2 ^ n) f) ∧
  ∀ (l : Addr) (H' : Hp), H l = none → GAt C H' p l n f [] → (∀ b o, H b = some o → b ≠ p → H' b = some o) → Q .non H'
def spVector (C : Addr) : Sp := fun vs H Q _ => ∃ (p l : Addr) (n : Nat) (f : Vec) (ans : List Nat), vs = [.ref p] ∧ GAt C H p l n f ans ∧ ∀ (q : Addr) (H' : Hp), Same H H' → H q = none → IVec H' q (2 ^ n) f → Q (.ref q) H'
def spMoveG (C : Addr) : Sp := fun vs H Q _ => ∃ (p l : Addr) (n : Nat) (f : Vec) (ans : List Nat) (v : V) (m : Mv), vs = [.ref p, v] ∧ n ≤ 6 ∧ GAt C H p l n f ans ∧ IMv H v m ∧ m.Ok n ∧ ∀ H' : Hp, Keep2 p l H H' → GAt C H' p l n (chg f m) ans → Q .non H'
def spStrikeG (C : Addr) : Sp := fun vs H Q _ => ∃ (p l : Addr) (n : Nat) (f : Vec) (ans : List Nat) (v : V) (k : Nat) (r : Row), vs = [.ref p, .int (k : Int), v] ∧ n ≤ 6 ∧ GAt C H p l n f ans ∧ IRow H v r ∧ r.x < 2 ^ n ∧ k < ans.length ∧
  ∀ H' : Hp, Keep2 p l H H' → GAt C H' p l n (if an ans k = 1 then strike f r else f) ans → Q .non H'
def spLookG (C : Addr) : Sp := fun vs H Q _ => ∃ (p l : Addr) (n b : Nat) (s : BS) (v : V) (c : Nat) (r : Row), vs = [.ref p, v, .int (c : Int)] ∧ 1 ≤ n ∧ n ≤ 6 ∧ GAt C H p l n s.f s.ans ∧ s.ans.length ≤ 10000 ∧ IRow H v r ∧ r.x < 2 ^ n ∧ Bd n b s.f ∧ b ≤ 5000 ∧
  ∀ (q : V) (H' : Hp), Keep2 p l H H' → GAt C H' p l n (lookB n c s r).f (lookB n c s r).ans → ITold H' q (kindAns (zeroW n s.f r) (oneW n s.f r) c) → Q q H'
def spDo (C : Addr) : Sp := fun vs H Q _ => ∃ (p l : Addr) (n b : Nat) (s : BS) (v : V) (c : Nat) (d : Deed), vs = [.ref p, v, .int (c : Int)] ∧ 1 ≤ n ∧ n ≤ 6 ∧ GAt C H p l n s.f s.ans ∧ s.ans.length ≤ 10000 ∧ IDeed H v d ∧ d.Ok n s.ans.length ∧ Bd n b s.f ∧ b ≤ 5000 ∧
  (∀ H' : Hp, Keep2 p l H H' → GAt C H' p l n (doB n c s d).f (doB n c s d).ans → (doB n c s d).told = s.told → Q .non H') ∧
  (∀ (t : Addr) (ka : Nat × Nat) (H' : Hp), Keep2 p l H H' → GAt C H' p l n (doB n c s d).f (doB n c s d).ans → (doB n c s d).told = s.told ++ [ka] → ITold H' (.ref t) ka → Q (.ref t) H')
def spRan (C : Addr) : Sp := fun vs H Q _ => ∃ (p l lw lc : Addr) (n b : Nat) (f : Vec) (w : List Deed) (cs : List Nat), vs = [.ref p, .ref lw, .ref lc] ∧ 1 ≤ n ∧ n ≤ 6 ∧ GAt C H p l n f [] ∧ IDeeds H lw w ∧ WOk n 0 w ∧ w.length ≤ 1000 ∧ H lc = some (.lst (nI cs)) ∧ lw ≠ l ∧ lc ≠ l ∧
  Bd n b f ∧ b + w.length ≤ 5000 ∧ ∀ (q : Addr) (H' : Hp), Keep2 p l H H' → H q = none → GAt C H' p l n (ranB n cs ⟨f, [], []⟩ w).f (ranB n cs ⟨f, [], []⟩ w).ans → IToldL H' q (ranB n cs ⟨f, [], []⟩ w).told → Bd n (b + w.length) (ranB n cs ⟨f, [], []⟩ w).f → Q (.ref q) H'
/-! the law's own defs: any word, any vector -/
def spCellAt (K : PySem.W.Frag) : Sp := fun vs H Q _ => ∃ (a : Addr) (ns : List Int) (k : Nat), vs = [.ref a, .int (k : Int)] ∧ SqL K H a (ns.map V.int) ∧ ∀ z : Int, Q (.int z) H
def spLawRow : Sp := fun vs H Q _ => ∃ (c : Int) (n : Nat), vs = [.int c, .int (n : Int)] ∧ n ≤ 6 ∧ ∀ (r : Row) (p : V) (H' : Hp), Same H H' → r.Ok n → IRow H' p r → Q p H'
def spLawDeed : Sp := fun vs H Q _ => ∃ (c : Int) (n L : Nat), vs = [.int c, .int (n : Int), .int (L : Int)] ∧ 1 ≤ n ∧ n ≤ 6 ∧ L ≤ 1000 ∧ ∀ (d : Deed) (p : V) (H' : Hp), Same H H' → d.Ok n L → IDeed H' p d → Q p H'
def spLawWord (K : PySem.W.Frag) : Sp := fun vs H Q _ => ∃ (a : Addr) (ns : List Int) (n : Nat), vs = [.ref a, .int (n : Int)] ∧ SqL K H a (ns.map V.int) ∧ ns.length ≤ 40 ∧ 1 ≤ n ∧ n ≤ 6 ∧ ∀ (w : List Deed) (p : Addr) (H' : Hp), Same H H' → H p = none → IDeeds H' p w → WOk n 0 w → w.length ≤ 40 → Q (.ref p) H'
def spLawVector : Sp := fun vs H Q _ => ∃ (c : Int) (k n : Nat), vs = [.int c, .int (k : Int), .int (n : Int)] ∧ 1 ≤ n ∧ n ≤ 6 ∧ ∀ (f : Vec) (p : Addr) (H' : Hp), Same H H' → H p = none → IVec H' p (2 ^ n) f → Bd n 100 f → nrm n f ≠ 0 → Q (.ref p) H'
def spLawTimes : Sp := fun vs H Q _ => ∃ (v u : V) (a b : G), vs = [v, u] ∧ INum H v a ∧ INum H u b ∧ a.1.natAbs < 2 ^ 400000 ∧ a.2.natAbs < 2 ^ 400000 ∧ b.1.natAbs < 2 ^ 400000 ∧ b.2.natAbs < 2 ^ 400000 ∧ ∀ (p : V) (H' : Hp), Same H H' → INum H' p (gmul a b) → Q p H'
def spLawAlike : Sp := fun vs H Q _ => ∃ (l m : Addr) (n b : Nat) (v o : Vec), vs = [.ref l, .ref m] ∧ n ≤ 6 ∧ IVec H l (2 ^ n) v ∧ IVec H m (2 ^ n) o ∧ Bd n b v ∧ Bd n b o ∧ b ≤ 10000 ∧ nrm n v ≠ 0 ∧
  (∀ at_, at_ < 2 ^ n → v at_ ≠ (0, 0) → o at_ ≠ (0, 0) ∧ ∀ k, k < 2 ^ n → gmul (v k) (o at_) = gmul (o k) (v at_)) ∧ ∀ H' : Hp, Same H H' → Q (.bl true) H'
def spLaw (K : PySem.W.Frag) : Sp := fun vs H Q _ => ∃ (a : Addr) (ns : List Int), vs = [.ref a] ∧ SqL K H a (ns.map V.int) ∧ ns.length ≤ 63 ∧ ∀ H', Q (.bl true) H'

/-! ### small steps -/
theorem rd_dec {c : Prop} [Decidable c] {A B : Prop} (h1 : c → A) (h2 : ¬ c → B) : if decide c = true then A else B := by
  by_cases h : c
  · rw [decide_eq_true h]; exact iteT (h1 h)
  · rw [decide_eq_false h]; exact iteF (h2 h)
theorem rd_ite {b : Bool} {A B : Prop} (h1 : b = true → A) (h2 : b = false → B) : if b = true then A else B := by
  cases b
  · exact iteF (h2 rfl)
  · exact iteT (h1 rfl)
theorem rd_decT {c : Prop} [Decidable c] (hc : c) {A B : Prop} (h1 : A) : if decide c = true then A else B := by rw [decide_eq_true hc]; exact iteT h1
theorem rd_decF {c : Prop} [Decidable c] (hc : ¬ c) {A B : Prop} (h1 : B) : if decide c = true then A else B := by rw [decide_eq_false hc]; exact iteF h1
theorem bt_eq (n w : Nat) : n >>> w &&& 1 = bt n w := by
  unfold bt
  rw [Nat.and_one_is_mod]
  have := Nat.testBit_eq_decide_div_mod_eq (x := n) (i := w)
  rw [Nat.shiftRight_eq_div_pow]
  cases h : n.testBit w <;> rw [h] at this <;> simp at this <;> simp <;> omega
theorem bt_le (n w : Nat) : bt n w ≤ 1 := by unfold bt; cases n.testBit w <;> decide
theorem bt_zero {n w : Nat} : bt n w = 0 ↔ n.testBit w = false := by unfold bt; cases n.testBit w <;> simp
theorem bt_one {n w : Nat} : bt n w = 1 ↔ n.testBit w = true := by unfold bt; cases n.testBit w <;> simp
end Sg

/-! ### two rules of our own: sorted of a tuple of whole numbers; C.m(self, ..), m a def of the class C -/
namespace L2
open PySem PySem.Spec PyProof.Rows
section
variable {X : Cx}
def rSortedTup (K : PySem.W.Frag) : List V → Hp → VK → Prop := fun vs H Q => ∃ (a : Addr) (ns : List Int), vs = [V.ref a] ∧ SqT K H a (ns.map V.int) ∧ ns.length < 64 ∧
  ∀ (ns' : List Int) (p : Addr), ns'.Perm ns → ns'.Pairwise (· ≤ ·) → H p = none → Q (.ref p) (upd H p (.lst (ns'.map V.int)))
theorem cr_sortedTup : CallR X (.builtin "sorted") (rSortedTup X.K) := by
  intro pins s σ H vs us Q I r h
  obtain ⟨a, ns, rfl, hs, h64, q⟩ := h
  obtain ⟨its, rv, ⟨o, ho, hc, n, hd⟩, hz⟩ := I.tuple hs
  rw [Vals.ref1 r]
  have hi := rv.ints
  have hil : its.length = ns.length := hi.length
  refine Calls.call_function_entry PyProof.Rows.kind_sorted PyProof.Rows.plain_sorted PyProof.Rows.entry_sorted (PyProof.Rows.args_sorted1 _) ?_
  unfold Builtin.«sorted»
  refine wpAny_bind (m := checkCount "sorted" 1 1 _) (wpAny_pure ?_)
  refine wpAny_bind (wpAny_collect_seq a (.inr rfl) ho hc hd (fun h' hk => ?_) (by rw [List.size_toArray, hil]; exact small64 h64))
  have I1 : Inv X pins σ H { s with heap := h' } := I.kept (t' := s.toks) hk
  refine wpAny_bind (wpAny_newList ?_ (by show its.length ≤ sizeLine; rw [hil]; exact small64 h64))
  have e0 : its.toArray.toList = its := by simp
  rw [e0]
  have hoL : (h'.push (seqObj "list" its.toArray 0)).get? h'.objs.size = some (seqObj "list" its.toArray 0) := Heap.get?_push_size _ rfl
  show wpAny _ _ _ _ _ { s with heap := h'.push (seqObj "list" its.toArray 0) }
  refine wpAny_bind (wpAny_holding (wpAny_call_entry PyProof.Rows.slot_list_sort ⟨_, hoL, rfl⟩ PyProof.Rows.entry_list_sort
    (PyProof.Rows.list_sort_tree (s := { s with heap := h'.push (seqObj "list" its.toArray 0) }) hoL hi (by rw [hil]; exact h64) fun out ys g1 g2 g3 => ⟨_, rfl, ?_⟩) (PyProof.Rows.args_list_sort _)))
  obtain ⟨e', he'⟩ := PyProof.Rows.sortedHeap_at (vs := its) (out := out) hoL
  have hlen : (ys.map V.int).length ≤ sizeLine := by
    rw [List.length_map, g2.length_eq]
    exact small64 h64
  refine wpAny_pure ⟨_, rfl, .ref h'.objs.size, upd H h'.objs.size (.lst (ys.map V.int)), I1.laid (t' := s.toks) (fun b u e => ?_) (Nat.le_refl _)
    (show ObjOk X.prog X.w _ _ _ (.lst (ys.map V.int)) from ⟨hlen, out.toList, e', vals_of_ints g1, by rw [Array.toArray_toList]; exact he'⟩), rfl, q ys _ g2 g3 (I1.hok.fresh (Nat.le_refl _))⟩
  have hb : b < h'.objs.size := Heap.lt_size e
  rw [PyProof.Rows.sortedHeap_old (Nat.ne_of_lt hb) (by rw [size_push']; exact Nat.lt_succ_of_lt hb)]
  exact Heap.get?_push_of_some _ e
/-- C.m(self, ..): m a def of the class at C -/
structure CFn (K : PySem.W.Frag) (C : Addr) (mc : Value) (m : Str) (f : Addr) : Prop where
  rd : PySem.W.readsIn K C mc = true
  ga : PySem.W.specialIn K (.ref C) "__getattribute__" = some (some (.builtin "type.__getattribute__"))
  at_ : PySem.W.findCls K (.ref C) mc m = some (.val (.ref f))
variable {CX : CXT} {k : Nat} {f C : Addr} {fd : FuncData} {ps : List Str} {sp : Sp} {dvs : List V} {ds : List Value} {E : XK} {m : Str} {apos pos : Pos} {e o : Expr} {es : List Expr} {t : TA} {mc : Value}
theorem pe_cfn {pl : Sem Bool} (he : PE X o (tC (.ref C))) (c : CFn X.K C mc m f) (kp : PySem.W.keepIn X.K (.ref f) = true) (F : FnOk X.prog X.w X.K X.mg X.base CX k f fd ps sp) (hr : Room k X.A) (hb : Binds X.K fd ps ds) (hd : Vals dvs ds) (hx : Passes CX X E) (ha : PA X (e :: es) t)
    (hst : starEach (e :: es) X.env = (false, eval e X.env) :: starEach es X.env := by rfl) (hpl : (backTo pos (starEach es X.env)).any (·.1) = false := by rfl)
    (ht : eval (.Call (.Attribute o m apos) (e :: es) [] pos) X.env = (do
      let ov ← eval o X.env
      standAt apos.atName
      let (f, first) ← holding [ov] (getMethod ov m pl)
      callWith pos f first (backTo pos (starEach (e :: es) X.env)) (backToKw pos (keywordEach [] X.env))) := by rfl) :
    PE X (.Call (.Attribute o m apos) (e :: es) [] pos) (tCall sp dvs E t) := by
  refine ⟨fun pins s σ H Q I h => ?_⟩
  refine PySem.W.methodCall_KW (pl := pl) (thn (he.run pins s σ H (fun v H' => v = .ref C ∧ H' = H) I ⟨rfl, rfl⟩) fun u s1 ⟨x, H1, I1, rx, ex, eH⟩ => ?_) ht
  subst ex; subst eH
  obtain rfl : u = Value.ref C := rx
  refine PySem.W.method_cls I1.kIn c.ga (PySem.W.cls_value I1.kIn c.rd c.at_ (handed_of (v := V.ref f) rfl) ?_)
  have I1' := I1.tok (s1.toks + 1)
  refine PySem.W.callWith_K (first := []) (h₀ := X.base) I1.ok.mod.kin kp (thn (ha.run pos pins _ σ H1 _ I1' h) fun us s2 ⟨vs, H2, I2, r, q2⟩ => ⟨I2.kIn, ?_⟩) hst hpl
  exact run_fn F hr hb hd hx I2 r q2
/-- x in d, d a dict of the module with text keys -/
def KHasD (K : PySem.W.Frag) (w : World) (a : Addr) (x : Str) (r : Option Value) : Prop :=
  ∃ es n, K.lookup a = some ⟨.type "dict", none, .dict es n, #[]⟩ ∧ PySem.W.KeysLit w.params es.toList ∧ (a == sysModules) = false ∧ PySem.W.nsIn K a x = some r
def rInD (K : PySem.W.Frag) (w : World) : R2 := fun x y H Q => ∃ p z r, x = .str z ∧ y = .ref p ∧ KHasD K w p z r ∧ Q (.bl r.isSome) H
theorem op_inKd : OpR X (compareOp .In) (rInD X.K X.w) := by
  intro pins s σ H x y v u Q I rx ry h
  obtain ⟨p, z, r, rfl, rfl, ⟨es, n, hl, hk, lo, e⟩, q⟩ := h
  obtain ⟨t, rfl⟩ := rx
  obtain rfl : u = Value.ref p := ry
  exact wpAny_in_of (strKind_is X.prog X.w z t) lo (PySem.W.mapOf_K (prog := X.prog) (w := X.w) I.kIn hl hk) (by rw [PySem.W.find_K hl e]; exact ⟨.bl r.isSome, H, I.tok _, rfl, q⟩)
theorem KHasD.get {K : PySem.W.Frag} {w : World} {a : Addr} {x : Str} {u : Value} {v : V} (h : KHasD K w a x (some u)) (r : RelV v u) : KDct K w a x v := by
  obtain ⟨es, n, hl, hk, _, e⟩ := h
  exact ⟨es, n, u, hl, hk, e, r⟩
theorem call_lenS : CallR X (.builtin "len") (Evl.rLenS X.K) := call_len_seq
end
end L2
namespace Sg
open PySem L2
/-! ### what the walk asks of the module -/
def moveNames : List V := [.str "mix", .str "quarter", .str "back", .str "flip", .str "sign", .str "join", .str "both", .str "swap"]
structure Tx (K : PySem.W.Frag) (mg : Str → Option Value) (w : World) : Prop where
  b_len : mg "len" = none
  b_range : mg "range" = none
  b_list : mg "list" = none
  b_tuple : mg "tuple" = none
  b_sorted : mg "sorted" = none
  b_isinstance : mg "isinstance" = none
  b_enumerate : mg "enumerate" = none
  b_zip : mg "zip" = none
  b_reversed : mg "reversed" = none
  mv : ∃ a, mg "MOVES" = some (.ref a) ∧ ∀ H, SqT K H a moveNames
  most : ∃ t, mg "MOST" = some (.int 6 t)
  spins : ∃ a, mg "SPINS" = some (.ref a) ∧ (∃ t, KHasD K w a "quarter" (some (.int 1 t))) ∧ (∃ t, KHasD K w a "sign" (some (.int 2 t))) ∧ (∃ t, KHasD K w a "back" (some (.int 3 t))) ∧
    KHasD K w a "flip" none ∧ KHasD K w a "join" none ∧ KHasD K w a "both" none ∧ KHasD K w a "swap" none
end Sg

namespace Sg
open PySem L2
/-! ### loops, comprehensions, lists that grow: one step -/
section
variable {σ : L2.St} {H H1 : Hp} {Q : VK} {ta tb te tl : TE} {t : TA} {tt : TT} {K : PySem.W.Frag} {D : Ends} {ts : TS} {g : TG} {wi : TI} {l p : Addr} {xs : List V} {y : V} {j : Nat} {vs : List Nat} {n : Nat} {R : It → Hp → Prop}
theorem rd_for (k : wi σ H fun J H1 => ∃ W : Nat → Nat → L2.St → Hp → Prop, (∃ m, W 0 m σ H1) ∧ ∀ i m σ H, W i m σ H →
  (J.stop i H ∧ D.nx σ H) ∨ (J.go i H ∧ ∃ N : L2.St → Hp → Prop, (∀ σ' H', N σ' H' → ∃ m', m' < m ∧ W (i + 1) m' σ' H') ∧ ∀ x H', J.yld i H x H' → g x σ H' fun σ2 H2 => ts { D with nx := N, ct := N, bk := D.nx } σ2 H2)) : tFor wi g ts D σ H := k
theorem rd_iList (k : tl σ H fun x H1 => ∃ a, x = .ref a ∧ (∃ xs, SqL K H1 a xs) ∧ R (Itl K a) H1) : iList K tl σ H R := k
theorem rd_iTup (k : tl σ H fun x H1 => ∃ a, x = .ref a ∧ (∃ xs, SqT K H1 a xs) ∧ R (Itt K a) H1) : iTup K tl σ H R := k
theorem rd_iRng1 (k : t σ H fun vs H1 => ∃ j : Int, vs = [.int j] ∧ -(2 ^ 62) ≤ j ∧ j < 2 ^ 62 ∧ R (Itr 0 j.toNat) H1) : iRng1 t σ H R := k
theorem rd_iRng2 (k : t σ H fun vs H1 => ∃ i j : Int, vs = [.int i, .int j] ∧ (-(2 ^ 62) ≤ i ∧ i < 2 ^ 62 ∧ -(2 ^ 62) ≤ j ∧ j < 2 ^ 62) ∧ R (Itr i (j - i).toNat) H1) : iRng2 t σ H R := k
theorem rd_iRev (k : t σ H fun vs H1 => ∃ (a : Addr) (xs : List V), vs = [.ref a] ∧ SqL K H1 a xs ∧ R (Itv K a xs.length) H1) : iRev K t σ H R := k
theorem rd_iEnum (k : t σ H fun vs H1 => ∃ a xs, vs = [.ref a] ∧ SqL K H1 a xs ∧ R (Ite K a) H1) : iEnum K t σ H R := k
theorem rd_iZip (k : t σ H fun vs H1 => ∃ a b xs ys, vs = [.ref a, .ref b] ∧ SqL K H1 a xs ∧ SqL K H1 b ys ∧ R (Itz K a b) H1) : iZip K t σ H R := k
theorem rd_lc (k : wi σ H fun J H1 => ∀ D, H1 D = none → ∃ W : Nat → Nat → Hp → Prop, (∃ m, W 0 m (upd H1 D (.lst []))) ∧ ∀ i m H, W i m H →
  (J.stop i H ∧ Q (.ref D) H) ∨ (J.go i H ∧ ∃ Nx : Hp → Prop, (∀ H', Nx H' → ∃ m', m' < m ∧ W (i + 1) m' H') ∧ ∀ x H', J.yld i H x H' → g x (wipe σ vs) H' fun σ2 H2 => wipe σ2 vs = wipe σ vs ∧ tt σ2 H2 fun b H3 =>
    if b = true then te σ2 H3 fun y H4 => ∃ acc, H4 D = some (.lst acc) ∧ acc.length < sizeLine ∧ Nx (upd H4 D (.lst (acc ++ [y]))) else Nx H3)) : tLc wi g tt te vs σ H Q := k
theorem rd_bm {T : String} {r : V → List V → Hp → VK → Prop} (k : ta σ H fun x H1 => tyV K T x H1 ∧ t σ H1 fun xs H2 => r x xs H2 Q) : tBM K T r ta t σ H Q := k
theorem rd_tyL {A : Prop} (h : H l = some (.lst xs)) (k : A) : tyV K "list" (.ref l) H ∧ A := ⟨.inl ⟨rfl, _, SqL.of h⟩, k⟩
theorem rd_app (h : H l = some (.lst xs)) (hz : xs.length < 1000000) (k : Q .non (upd H l (.lst (xs ++ [y])))) : rAppend (.ref l) [y] H Q := ⟨l, xs, y, rfl, rfl, h, Nat.lt_trans hz (by decide), k⟩
theorem rd_gsub {s : TSet} {v : V} {R : L2.St → Hp → Prop} (k : ta σ H fun o H1 => tb σ H1 fun i H2 => s o i v H2 fun H3 => R σ H3) : gSub ta tb s v σ H R := k
theorem rd_setL {i : Nat} {v : V} {R : Hp → Prop} (h : H l = some (.lst xs)) (hi : i < xs.length) (k : R (upd H l (.lst (xs.set i v)))) : rSetL (.ref l) (.int (i : Int)) v H R := ⟨l, xs, i, i, rfl, rfl, h, Evl.ixN_nat hi, k⟩
theorem rd_sl {r : V → Option Int → Option Int → Hp → VK → Prop} {lo hi : TO} (k : te σ H fun x H1 => lo σ H1 fun l H2 => hi σ H2 fun u H3 => r x l u H3 Q) : tSl r te lo hi σ H Q := k
theorem rd_part {R : Option Int → Hp → Prop} (k : te σ H fun x H1 => ∃ i, x = .int i ∧ R (some i) H1) : tPart te σ H R := k
theorem rd_fld {C dx : Addr} {fs : List (Str × V)} {f : Str} {v : V} (k : ta σ H fun x H1 => ∃ a C dx fs v, x = .ref a ∧ H1 a = some (.ins C dx fs) ∧ Cls K C ∧ NoAttr K C f ∧ fs.lookup f = some v ∧ Q v H1) : tFld K ta f σ H Q := k
end
theorem rd_yes {σ : L2.St} {H : Hp} {te : TE} {Q : VK} {B : Hp → Prop} (k : te σ H Q) : tYes σ H fun b H3 => if b = true then te σ H3 Q else B H3 := by
  show (if true = true then te σ H Q else B H)
  rw [if_pos rfl]
  exact k
theorem rd_cut {σ : L2.St} {H : Hp} {t u : TS} {D : Ends} (Mid : L2.St → Hp → Prop) (h1 : t { D with nx := Mid } σ H) (h2 : ∀ σ' H', Mid σ' H' → u D σ' H') : Evl.tCut t u D σ H := ⟨Mid, h1, h2⟩
/-- what stands in a list that one walks -/
theorem sql_same {K : PySem.W.Frag} {H H' : Hp} {a : Addr} {xs : List V} (s : Same H H') (h : SqL K H a xs) : SqL K H' a xs := s.seq h

/-- a list that a loop builds: new at H0, all that stood stands -/
structure Bld (H0 H : Hp) (a : Addr) (vs : List V) : Prop where
  new : H0 a = none
  same : Same H0 H
  at_ : H a = some (.lst vs)
theorem Bld.mk0 {H0 : Hp} {a : Addr} {vs : List V} (h : H0 a = none) : Bld H0 (upd H0 a (.lst vs)) a vs := ⟨h, same_new h, upd_same⟩
theorem Bld.more {H0 H H' : Hp} {a : Addr} {vs : List V} (b : Bld H0 H a vs) (s : Same H H') : Bld H0 H' a vs := ⟨b.new, b.same.trans s, s _ _ b.at_⟩
theorem Bld.put {H0 H : Hp} {a : Addr} {vs us : List V} (b : Bld H0 H a vs) : Bld H0 (upd H a (.lst us)) a us :=
  ⟨b.new, fun c o h => by rw [upd_ne (ne_of_none h b.new)]; exact b.same c o h, upd_same⟩
/-- tuples stay where a list is written -/
theorem tp_put {H : Hp} {a : Addr} {vs us : List V} (h : H a = some (.lst vs)) : Tp H (upd H a (.lst us)) := fun b xs e => by
  rw [upd_ne]
  · exact e
  · intro q; subst q; rw [h] at e; cases e
/-- a comprehension that maps -/
theorem lc_map {α : Type} {J : It} {n : Nat} {G : Hp → Prop} {Y : Nat → Hp → V → Hp → Prop} (w : Walk J n G Y) {R : Hp → V → α → Prop} (mono : ∀ H H' v d, Tp H H' → R H v d → R H' v d) (out : List α) (hlen : out.length = n)
    {σ : L2.St} {j : Nat} {te : TE} {vs : List Nat} {H1 : Hp} {D : Addr} {Qd : Hp → Prop} (hD : H1 D = none) (hn : n ≤ 1000000) (hw : ∀ x, wipe ((wipe σ vs).set j (some x)) vs = wipe σ vs) (hG : ∀ H', Same H1 H' → G H')
    (turn : ∀ i x H H' d, i < n → Same H1 H → Y i H x H' → out[i]? = some d → ∀ QQ : VK, (∀ y H4, Same H H4 → R H4 y d → QQ y H4) → te ((wipe σ vs).set j (some x)) H' QQ)
    (hd : ∀ H' us, Same H1 H' → H' D = some (.lst us) → All2 (R H') us out → Qd H') :
    ∃ W : Nat → Nat → Hp → Prop, (∃ m, W 0 m (upd H1 D (.lst []))) ∧ ∀ i m H, W i m H →
      (J.stop i H ∧ Qd H) ∨ (J.go i H ∧ ∃ Nx : Hp → Prop, (∀ H', Nx H' → ∃ m', m' < m ∧ W (i + 1) m' H') ∧ ∀ x H', J.yld i H x H' → gName j x (wipe σ vs) H' fun σ2 H2 => wipe σ2 vs = wipe σ vs ∧ tYes σ2 H2 fun b H3 =>
        if b = true then te σ2 H3 fun y H4 => ∃ acc, H4 D = some (.lst acc) ∧ acc.length < sizeLine ∧ Nx (upd H4 D (.lst (acc ++ [y]))) else Nx H3) := by
  refine lc_it w (fun i H => ∃ us, Bld H1 H D us ∧ All2 (R H) us (out.take i)) ⟨[], Bld.mk0 hD, by rw [List.take_zero]; trivial⟩ (fun i H _ ⟨us, b, _⟩ => hG H b.same) ?_ ?_
  · rintro i x H H' hi ⟨us, b, hu⟩ hy
    obtain ⟨d, hd'⟩ : ∃ d, out[i]? = some d := ⟨out[i]'(by omega), List.getElem?_eq_getElem (by omega)⟩
    refine ⟨hw x, ?_⟩
    refine (rd_yes ?_)
    refine turn i x H H' d hi b.same hy hd' _ fun y H4 s4 r4 => ?_
    have b4 := b.more s4
    refine ⟨us, b4.at_, ?_, us ++ [y], b4.put, ?_⟩
    · have := hu.len
      rw [List.length_take] at this
      exact Nat.lt_of_lt_of_le (show us.length < 1000001 by omega) (by decide)
    · have tp := tp_put (us := us ++ [y]) b4.at_
      have e : out.take (i + 1) = out.take i ++ [d] := by
        rw [List.take_add_one, hd']; rfl
      rw [e]
      exact ((hu.mono fun v d r => mono _ _ v d ((tp_of s4).trans tp) r).snoc (mono _ _ y d tp r4))
  · rintro H' ⟨us, b, hu⟩
    refine hd H' us b.same b.at_ ?_
    rw [List.take_of_length_le (by omega)] at hu
    exact hu
/-- [k for k in range(n) if p(k)] -/
theorem lc_filter {n : Nat} (p : Nat → Bool) {σ : L2.St} {j : Nat} {tt : TT} {te : TE} {vs : List Nat} {H1 : Hp} {D : Addr} {Qd : Hp → Prop} (hD : H1 D = none) (hn : n ≤ 1000000) (hw : ∀ x, wipe ((wipe σ vs).set j (some x)) vs = wipe σ vs)
    (test : ∀ (i : Nat) H, i < n → ∀ B : Bool → Hp → Prop, B (p i) H → tt ((wipe σ vs).set j (some (.int (i : Int)))) H B) (elt : ∀ (i : Nat) H, i < n → ∀ QQ : VK, QQ (.int (i : Int)) H → te ((wipe σ vs).set j (some (.int (i : Int)))) H QQ)
    (hd : ∀ H', Same H1 H' → H' D = some (.lst (nI ((List.range n).filter p))) → Qd H') :
    ∃ W : Nat → Nat → Hp → Prop, (∃ m, W 0 m (upd H1 D (.lst []))) ∧ ∀ i m H, W i m H →
      ((Itr 0 n).stop i H ∧ Qd H) ∨ ((Itr 0 n).go i H ∧ ∃ Nx : Hp → Prop, (∀ H', Nx H' → ∃ m', m' < m ∧ W (i + 1) m' H') ∧ ∀ x H', (Itr 0 n).yld i H x H' → gName j x (wipe σ vs) H' fun σ2 H2 => wipe σ2 vs = wipe σ vs ∧ tt σ2 H2 fun b H3 =>
        if b = true then te σ2 H3 fun y H4 => ∃ acc, H4 D = some (.lst acc) ∧ acc.length < sizeLine ∧ Nx (upd H4 D (.lst (acc ++ [y]))) else Nx H3) := by
  refine lc_range (lo := 0) (n := n) (fun i H => Bld H1 H D (nI ((List.range i).filter p))) (Bld.mk0 hD) (fun i H hi b => ?_) fun H b => hd H b.same b.at_
  have e0 : (0 : Int) + (i : Int) = (i : Int) := Int.zero_add _
  rw [e0]
  refine ⟨hw _, test i H hi _ ?_⟩
  have er : (List.range (i + 1)).filter p = (List.range i).filter p ++ (if p i then [i] else []) := by
    rw [List.range_succ, List.filter_append]
    cases h : p i <;> simp [h]
  refine rd_ite (fun hp => elt i H hi _ ?_) (fun hp => ?_)
  · refine ⟨_, b.at_, ?_, ?_⟩
    · have := List.length_filter_le p (List.range i)
      rw [List.length_range] at this
      unfold nI
      rw [List.length_map]
      exact Nat.lt_of_lt_of_le (show _ < 1000001 by omega) (by decide)
    · rw [er, hp]
      have e : nI ((List.range i).filter p ++ (if true = true then [i] else [])) = nI ((List.range i).filter p) ++ [V.int (i : Int)] := by
        unfold nI; rw [List.map_append]; rfl
      rw [e]
      exact b.put
  · rw [er, hp]
    have e : (List.range i).filter p ++ (if false = true then [i] else []) = (List.range i).filter p := by simp
    rw [e]
    exact b
theorem rd_bT {b : Bool} (h : b = true) {A B : Prop} (k : A) : if b = true then A else B := by rw [if_pos h]; exact k
theorem rd_bF {b : Bool} (h : b = false) {A B : Prop} (k : B) : if b = true then A else B := by rw [if_neg (by rw [h]; exact Bool.false_ne_true)]; exact k
/-- one item more on a list that a loop builds -/
theorem Bld.push {α : Type} {R : Hp → V → α → Prop} (mono : ∀ H H' v d, Tp H H' → R H v d → R H' v d) {H0 H H1 : Hp} {a : Addr} {vs : List V} {ds : List α} {y : V} {d : α} (b : Bld H0 H a vs) (hv : All2 (R H) vs ds) (s : Same H H1) (r : R H1 y d) :
    Bld H0 (upd H1 a (.lst (vs ++ [y]))) a (vs ++ [y]) ∧ All2 (R (upd H1 a (.lst (vs ++ [y])))) (vs ++ [y]) (ds ++ [d]) := by
  have b1 := b.more s
  have tp := tp_put (us := vs ++ [y]) b1.at_
  exact ⟨b1.put, (hv.mono fun v d q => mono _ _ v d ((tp_of s).trans tp) q).snoc (mono _ _ y d tp r)⟩
theorem mRow : ∀ (H H' : Hp) (v : V) (d : Row), Tp H H' → IRow H v d → IRow H' v d := fun _ _ _ _ s h => h.mono s
theorem mNum : ∀ (H H' : Hp) (v : V) (d : G), Tp H H' → INum H v d → INum H' v d := fun _ _ _ _ s h => h.mono s
theorem mMv : ∀ (H H' : Hp) (v : V) (d : Mv), Tp H H' → IMv H v d → IMv H' v d := fun _ _ _ _ s h => h.mono s
theorem mDeed : ∀ (H H' : Hp) (v : V) (d : Deed), Tp H H' → IDeed H v d → IDeed H' v d := fun _ _ _ _ s h => h.mono s
theorem mStrike : ∀ (H H' : Hp) (v : V) (d : Nat × Row), Tp H H' → IStrike H v d → IStrike H' v d := fun _ _ _ _ s h => h.mono s
theorem mTold : ∀ (H H' : Hp) (v : V) (d : Nat × Nat), Tp H H' → ITold H v d → ITold H' v d := fun _ _ _ _ s h => h.mono s
theorem line80 {n : Nat} (h : n ≤ 1000000) : n ≤ sizeLine := Nat.le_trans h (by decide)
/-! ### calls that make: what is made, handed on -/
def rListA (K : PySem.W.Frag) : List V → Hp → VK → Prop := fun xs H Q => ∃ p ys, xs = [.ref p] ∧ (SqL K H p ys ∨ SqT K H p ys) ∧ ∀ l, H l = none → Ap Q (.ref l) (upd H l (.lst ys))
def rTupleA (K : PySem.W.Frag) : List V → Hp → VK → Prop := fun xs H Q => ∃ p ys, xs = [.ref p] ∧ SqL K H p ys ∧ ∀ l, H l = none → Ap Q (.ref l) (upd H l (.tup ys))
def rCatA : R2 := fun x y H Q => ∃ l b xs zs, x = .ref l ∧ y = .ref b ∧ H l = some (.lst xs) ∧ H b = some (.lst zs) ∧ xs.length + zs.length ≤ sizeLine ∧ ∀ p, H p = none → Ap Q (.ref p) (upd H p (.lst (xs ++ zs)))
def rRepA : R2 := fun x y H Q => ∃ (l : Addr) (k : Nat) (v : V), x = .ref l ∧ y = .int (k : Int) ∧ H l = some (.lst [v]) ∧ k ≤ 1000000 ∧ ∀ p, H p = none → Ap Q (.ref p) (upd H p (.lst (List.replicate k v)))
def tDNewA : TE := fun _ H Q => ∀ p, H p = none → Ap Q (.ref p) (upd H p (.dK []))
def tBitsN (to : TE) : TE := fun σ H Q => to σ H fun x H1 => ∃ m : Nat, x = .int (m : Int) ∧ Q (.int ((bitLen m : Nat) : Int)) H1
theorem intBits_nat (m : Nat) : Builtin.Int.intBits (m : Int) = bitLen m := by
  unfold Builtin.Int.intBits bitLen
  by_cases h : m = 0
  · subst h; rfl
  · have : ¬ ((m : Int) == 0) = true := by simp [h]
    rw [if_neg this, if_neg h, Int.natAbs_natCast]
section
variable {X : Cx} {o : Expr} {to : TE}
theorem call_listA : CallR X (.type "list") (rListA X.K) := call_list_of
theorem call_tupleA : CallR X (.type "tuple") (rTupleA X.K) := fun pins s σ H xs us Q I r ⟨p, ys, e, h, q⟩ => call_tuple_of pins s σ H xs us Q I r ⟨p, ys, e, .inl ⟨h, q⟩⟩
theorem op_catA : OpR X (binaryOp .Add) rCatA := op_cat
theorem op_repA : OpR X (binaryOp .Mult) rRepA := of_op op_rep fun x y H Q ⟨l, k, v, e1, e2, h, hk, q⟩ => ⟨l, k, [v], e1, e2, h, by omega, by omega, by rw [Int.toNat_natCast, List.length_singleton, Nat.one_mul]; exact Nat.le_trans hk (by decide), by
  have e : (List.replicate ((k : Int)).toNat [v]).flatten = List.replicate k v := by
    rw [Int.toNat_natCast]
    clear q hk e2
    induction k with
    | zero => rfl
    | succ k ih => rw [List.replicate_succ, List.flatten_cons, ih]; rfl
  rw [e]; exact q⟩
theorem pe_dnewA {pos : Pos} : PE X (.Dict [] [] pos) tDNewA := pe_dnewK
theorem pe_bitsN {apos pos : Pos} (ho : PE X o to) (hbase : attributeBase o "bit_length" X.env (eval o X.env) = eval o X.env := by rfl) (hline : (apos.endLine == pos.line) = true := by rfl) : PE X (.Call (.Attribute o "bit_length" apos) [] [] pos) (tBitsN to) := by
  refine ⟨fun pins s σ H Q I h => ?_⟩
  refine PySem.Call_method0 hbase hline (thn (ho.run pins s σ H _ I h) fun v s1 ⟨x, H1, I1, r1, q1⟩ => ?_)
  obtain ⟨m, rfl, q1⟩ := q1
  obtain ⟨t, rfl⟩ := _root_.id r1
  rw [← intBits_nat] at q1
  exact ⟨"int", _, PySem.F.plainAttrs_int, PyProof.Rows.slot_int_bit_length, PyProof.Rows.type_int_bit_length, PySem.typeIs_int _ _ _, (fun _ e => nomatch e), PySem.Calls.callWith_builtin rfl (PySem.evalArgs_none (PyProof.Rows.call_int_bit_length ⟨.int _, H1, I1.tok _, ⟨_, rfl⟩, q1⟩))⟩
end
section
variable {σ : L2.St} {H : Hp} {Q : VK} {te td ty tx tv : TE} {D : Ends}
theorem rd_dnew (k : ∀ p, H p = none → Ap Q (.ref p) (upd H p (.dK []))) : tDNewA σ H Q := k
theorem rd_bits (k : te σ H fun x H1 => ∃ m : Nat, x = .int (m : Int) ∧ Q (.int ((bitLen m : Nat) : Int)) H1) : tBitsN te σ H Q := k
theorem rd_dget2 (k : td σ H fun x H1 => ∃ a, x = .ref a ∧ IsD H1 a ∧ ty σ H1 fun y H2 => tx σ H2 fun z H3 => ∃ o, DGet H3 a y o ∧ Q (o.getD z) H3) : tDGet2 td ty tx σ H Q := k
theorem rd_dget (k : td σ H fun x H1 => ty σ H1 fun y H2 => ∃ a v, x = .ref a ∧ DGet H2 a y (some v) ∧ Q v H2) : tDGet td ty σ H Q := k
theorem rd_dput (k : tv σ H fun v H1 => td σ H1 fun x H2 => ty σ H2 fun y H3 => ∃ a H4, x = .ref a ∧ DPut H3 a y v H4 ∧ D.nx σ H4) : sDPut td ty tv D σ H := k
end
end Sg

namespace Sg
open PySem L2

local macro_rules | `(tactic| walk_at "rdA") => `(tactic| first
  | (with_reducible refine rd_cons ?_) | ((with_reducible refine' rd_var ?hv ?_); (case hv => exact rfl)) | (with_reducible refine rd_c ?_) | (with_reducible refine rd_nil ?_) | (with_reducible refine rd_op ?_) | (with_reducible refine rd_call ?_)
  | (with_reducible refine rd_ap ?_) | (with_reducible refine rd_seq ?_) | (with_reducible refine rd_asg ?_) | ((with_reducible refine' rd_gnameE ?e ?_); (case e => (simp only [List.set_cons_succ, List.set_cons_zero, L2.wipe, List.map_cons, List.map_nil]; exact rfl))) | (with_reducible refine rd_gcons ?_) | (with_reducible refine rd_gnil ?_) | (with_reducible refine rd_ret ?_) | (with_reducible refine rd_test ?_) | (with_reducible refine rd_bl ?_) | (with_reducible refine rd_ifS ?_))
local macro_rules | `(tactic| walk_at "rdB") => `(tactic| first
  | ((with_reducible refine' rd_ixT ?hh ?ha ?_); (case hh => walk_at "hp"); (case ha => exact rfl))
  | ((with_reducible refine' rd_ixL ?hh ?ha ?_); (case hh => walk_at "hp"); (case ha => exact rfl))
  | ((with_reducible refine' rd_gtup ?hh ?hl ?_); (case hh => walk_at "hp"); (case hl => exact rfl))
  | ((with_reducible show spBit _ _ _ _); refine ⟨_, _, rfl, ?_⟩) | ((with_reducible show spOnes _ _ _ _); refine ⟨_, rfl, ?_⟩)
  | (with_reducible refine rd_eqS ?_) | (with_reducible refine rd_sT ?hs ?_; (case hs => first | rfl | decide +kernel)) | (with_reducible refine rd_sF ?hs ?_; (case hs => decide +kernel))
  | (with_reducible refine rd_tupH ?_) | (with_reducible refine rd_lstH ?_) | (with_reducible refine rd_next ?_) | (with_reducible refine rd_drop ?_)
  | ((with_reducible refine' rd_augE ?hv ?e ?_); (case hv => exact rfl); (case e => (intro z; simp only [List.set_cons_succ, List.set_cons_zero]; exact rfl))) | ((with_reducible show ipN _ _ _ _ _); refine ⟨_, _, rfl, rfl, ?_⟩))
local macro_rules | `(tactic| walk_at "rdC") => `(tactic| first
  | ((with_reducible show rAndN _ _ _ _); refine ⟨_, _, rfl, rfl, ?_⟩) | ((with_reducible show rXorN _ _ _ _); refine ⟨_, _, rfl, rfl, ?_⟩)
  | ((with_reducible show rAddN _ _ _ _); refine ⟨_, _, rfl, rfl, ?_⟩) | ((with_reducible show rShrN _ _ _ _); refine ⟨_, _, rfl, rfl, ?_⟩)
  | ((with_reducible show rShlN _ _ _ _); refine ⟨_, _, rfl, rfl, ?sd, ?_⟩; (case sd => omega))
  | ((with_reducible show rMulN _ _ _ _); refine ⟨_, _, rfl, rfl, ?sd, ?_⟩; (case sd => first | (left; omega) | (right; omega)))
  | ((with_reducible show rModN _ _ _ _); refine ⟨_, _, rfl, rfl, ?sd, ?_⟩; (case sd => first | omega | exact Nat.two_pow_pos _))
  | ((with_reducible show rEqN _ _ _ _); refine ⟨_, _, rfl, rfl, ?_⟩) | ((with_reducible show rNeN _ _ _ _); refine ⟨_, _, rfl, rfl, ?_⟩) | ((with_reducible show rLtN _ _ _ _); refine ⟨_, _, rfl, rfl, ?_⟩) | ((with_reducible show rGtN _ _ _ _); refine ⟨_, _, rfl, rfl, ?_⟩)
  | ((with_reducible show rSubN _ _ _ _); refine ⟨_, _, rfl, rfl, ?sd, ?_⟩; (case sd => omega))
  | ((with_reducible show rDivN _ _ _ _); refine ⟨_, _, rfl, rfl, ?sd, ?_⟩; (case sd => omega)) | ((with_reducible show rOrN _ _ _ _); refine ⟨_, _, rfl, rfl, ?_⟩)
  | (with_reducible refine rd_un ?_) | (with_reducible refine rd_ifE ?_) | (with_reducible refine rd_B ?_) | (with_reducible refine rd_not ?_) | (with_reducible refine rd_orV ?_) | (with_reducible refine rd_andV ?_) | (with_reducible refine rd_and ?_) | (with_reducible refine rd_or ?_)
  | (with_reducible refine rd_ipI ?_) | (with_reducible refine rd_I0 ?_) | (with_reducible refine rd_U ?_) | (with_reducible refine rd_eqI ?_) | (with_reducible refine rd_neI ?_)
  | (with_reducible refine rd_bm ?_) | ((with_reducible refine' rd_tyL ?hh ?_); (case hh => walk_at "hp")) | (with_reducible refine rd_for ?_) | (with_reducible refine rd_iList ?_) | (with_reducible refine rd_iTup ?_) | (with_reducible refine rd_iRng1 ?_) | (with_reducible refine rd_iRng2 ?_) | (with_reducible refine rd_lc ?_)
  | (with_reducible refine rd_gsub ?_) | (with_reducible refine rd_sl ?_) | (with_reducible refine rd_part ?_) | (with_reducible refine rd_iRev ?_) | (with_reducible refine rd_iEnum ?_) | (with_reducible refine rd_iZip ?_)
  | (with_reducible refine rd_dnew ?_) | (with_reducible refine rd_bits ?_) | (with_reducible refine rd_dget2 ?_) | (with_reducible refine rd_dget ?_) | (with_reducible refine rd_dput ?_)
  | ((with_reducible refine rd_cb ?_)) | ((with_reducible show Evl.rLenS _ _ _ _); refine' ⟨_, _, rfl, ?lh, ?_⟩; (case lh => first | (refine .inl (SqL.of ?_); walk_at "hp"; done) | (refine .inr (SqT.of ?_); walk_at "hp"; done))))
local macro_rules | `(tactic| walk_at "rd") => `(tactic| repeat (first | walk_at "rdA" | walk_at "rdB" | walk_at "rdC"))
local macro_rules | `(tactic| walk_at "hp") => `(tactic| first | exact upd_same | assumption | ((with_reducible refine upd_old (by assumption) ?_); walk_at "hp") | ((with_reducible refine same_at (by assumption) ?_); walk_at "hp"))

/-! ### defs upon whole numbers and rows -/
section
variable {P : Program} {w : World} {K : PySem.W.Frag} {mg : Str → Option Value} {base : Heap} {f : Addr} {fd : FuncData}
abbrev s_bit_of : Stmt := top 5
theorem sc_bit_of : FnScope ["number", "at"] ["number", "at"] (defScope s_bit_of) := ⟨rfl, rfl, rfl, by decide +kernel, rfl, by decide +kernel, by decide +kernel⟩
theorem ok_bit_of (F : Fun K "bit_of" "bit_of" s_bit_of f fd) : FnOk P w K mg base CX0 1 f fd ["number", "at"] spBit := by
  refine F.ok sc_bit_of (fun vs H Q E h => ?_) (fun cdv A outer s H vs Q E hr h => ?_)
  · obtain ⟨n, w, rfl, _⟩ := h
    rfl
  · obtain ⟨n, w, rfl, k⟩ := h
    refine ⟨_, (pss_one (ps_ret (pe_op op_andN (pe_op op_shrN (pv 0) (pv 1)) (pe_nat 1)))),
      st_norm (σ' := [some _, some _]) rfl ?_⟩
    walk_at "rd"
    rw [bt_eq]
    exact k
abbrev s_ones : Stmt := top 16
theorem sc_ones : FnScope ["number", "count"] ["number"] (defScope s_ones) := ⟨rfl, rfl, rfl, by decide +kernel, rfl, by decide +kernel, by decide +kernel⟩
theorem ok_ones (F : Fun K "ones" "ones" s_ones f fd) : FnOk P w K mg base CX0 1 f fd ["number"] spOnes := by
  refine F.ok sc_ones (fun vs H Q E h => ?_) (fun cdv A outer s H vs Q E hr h => ?_)
  · obtain ⟨n, rfl, _⟩ := h
    rfl
  · obtain ⟨n, rfl, k⟩ := h
    refine ⟨_, (pss_cons (ps_set (i := 1) sc_ones.nd rfl (Or.inl rfl) (pe_nat 0))
  (pss_cons (ps_while PassesOwn.never (pt_cmpR op_gtN (pv 0) (pe_nat 0) (nomark _))
    (pss_cons (ps_set (i := 0) sc_ones.nd rfl (Or.inl rfl) (pe_op op_andN (pv 0) (pe_op op_subN (pv 0) (pe_nat 1))))
  (pss_one (ps_aug (i := 1) sc_ones.nd rfl (Or.inl rfl) (pe_nat 1) ip_addN))))
  (pss_one (ps_ret (pv 1))))),
      st_norm (σ' := [some _, none]) rfl ?_⟩
    walk_at "rd"
    refine ⟨fun m σ H' => ∃ c : Nat, σ = [some (.int (m : Int)), some (.int (c : Int))] ∧ c + pc m = pc n ∧ H' = H, ⟨n, 0, rfl, by omega, rfl⟩, ?_⟩
    rintro m σ H' ⟨c, rfl, e, rfl⟩
    walk_at "rd"
    refine rd_dec (fun hm => ?_) (fun hm => ?_)
    · refine ⟨fun σ2 H2 => H2 = H' ∧ σ2 = [some (.int ((m &&& (m - 1) : Nat) : Int)), some (.int ((c + 1 : Nat) : Int))], ?_, ?_⟩
      · rintro σ2 H2 ⟨rfl, rfl⟩
        refine ⟨m &&& (m - 1), Nat.lt_of_le_of_lt Nat.and_le_right (by omega), c + 1, rfl, ?_, rfl⟩
        rw [← e, pc_pred hm]; omega
      · walk_at "rd"
        exact ⟨rfl, rfl⟩
    · walk_at "rd"
      have hz : m = 0 := by omega
      subst hz
      rw [pc_zero] at e
      rw [← e] at k
      exact k
abbrev s_lowest : Stmt := top 17
theorem sc_lowest : FnScope ["number", "at"] ["number"] (defScope s_lowest) := ⟨rfl, rfl, rfl, by decide +kernel, rfl, by decide +kernel, by decide +kernel⟩
theorem ok_lowest (F : Fun K "lowest" "lowest" s_lowest f fd) : FnOk P w K mg base CX0 1 f fd ["number"] spLowest := by
  refine F.ok sc_lowest (fun vs H Q E h => ?_) (fun cdv A outer s H vs Q E hr h => ?_)
  · obtain ⟨n, rfl, _⟩ := h
    rfl
  · obtain ⟨n, rfl, hn, k⟩ := h
    obtain ⟨l1, l2⟩ := lowest_spec n hn
    refine ⟨_, (pss_cons (ps_set (i := 1) sc_lowest.nd rfl (Or.inl rfl) (pe_nat 0))
  (pss_cons (ps_while PassesOwn.never (pt_cmpR op_eqN (pe_op op_andN (pe_op op_shrN (pv 0) (pv 1)) (pe_nat 1)) (pe_nat 0) (nomark _))
    (pss_one (ps_aug (i := 1) sc_lowest.nd rfl (Or.inl rfl) (pe_nat 1) ip_addN)))
  (pss_one (ps_ret (pv 1))))),
      st_norm (σ' := [some _, none]) rfl ?_⟩
    walk_at "rd"
    refine ⟨fun m σ H' => ∃ i : Nat, σ = [some (.int (n : Int)), some (.int (i : Int))] ∧ m + i = lowest n ∧ H' = H, ⟨lowest n, 0, rfl, rfl, rfl⟩, ?_⟩
    rintro m σ H' ⟨i, rfl, e, rfl⟩
    walk_at "rd"
    rw [bt_eq]
    refine rd_dec (fun hm => ?_) (fun hm => ?_)
    · have hlt : i < lowest n := by
        rcases Nat.lt_or_ge i (lowest n) with q | q
        · exact q
        · have : i = lowest n := by omega
          rw [this, bt_zero, l1] at hm
          cases hm
      refine ⟨fun σ2 H2 => H2 = H' ∧ σ2 = [some (.int (n : Int)), some (.int ((i + 1 : Nat) : Int))], ?_, ?_⟩
      · rintro σ2 H2 ⟨rfl, rfl⟩
        exact ⟨m - 1, by omega, i + 1, rfl, by omega, rfl⟩
      · walk_at "rd"
        exact ⟨rfl, rfl⟩
    · walk_at "rd"
      have hz : i = lowest n := by
        rcases Nat.lt_or_ge i (lowest n) with q | q
        · exact absurd (bt_zero.mpr (l2 i q)) hm
        · omega
      subst hz
      exact k
abbrev s_product : Stmt := top 18
theorem sc_product : FnScope ["first", "second", "turn"] ["first", "second"] (defScope s_product) := ⟨rfl, rfl, rfl, by decide +kernel, rfl, by decide +kernel, by decide +kernel⟩
theorem ok_product (F : Fun K "product" "product" s_product f fd) (D_ones : Df P w K mg base 1 "ones" ["number"] spOnes) : FnOk P w K mg base CX0 2 f fd ["first", "second"] spProduct := by
  refine F.ok sc_product (fun vs H Q E h => ?_) (fun cdv A outer s H vs Q E hr h => ?_)
  · obtain ⟨v, u, a, b, rfl, _⟩ := h
    rfl
  · obtain ⟨v, u, a, b, rfl, ⟨p, rfl, hp⟩, ⟨q, rfl, hq⟩, k⟩ := h
    refine ⟨_, (pss_cons (ps_set (i := 2) sc_product.nd rfl (Or.inl rfl) (pe_op op_addN (pe_op op_addN (pe_ix ix_tup (pv 0) (pe_nat 0) (fun _ _ => rfl)) (pe_ix ix_tup (pv 1) (pe_nat 0) (fun _ _ => rfl))) (pe_op op_mulN (pe_nat 2) (pe_fn D_ones (hr.mono (by decide)) (pa_cons (pe_op op_andN (pe_ix ix_tup (pv 0) (pe_nat 2) (fun _ _ => rfl)) (pe_ix ix_tup (pv 1) (pe_nat 1) (fun _ _ => rfl))) pa_nil)))))
  (pss_one (ps_ret (pe_tup (pa_cons (pe_op op_modN' (pv 2) (pe_nat 4)) (pa_cons (pe_op op_xorN (pe_ix ix_tup (pv 0) (pe_nat 1) (fun _ _ => rfl)) (pe_ix ix_tup (pv 1) (pe_nat 1) (fun _ _ => rfl))) (pa_cons (pe_op op_xorN (pe_ix ix_tup (pv 0) (pe_nat 2) (fun _ _ => rfl)) (pe_ix ix_tup (pv 1) (pe_nat 2) (fun _ _ => rfl))) pa_nil))))))),
      st_norm (σ' := [some _, some _, none]) rfl ?_⟩
    walk_at "rd"
    refine ⟨by show 3 ≤ sizeLine; decide, fun t ht => ?_⟩
    exact k _ _ (same_new ht) ⟨t, rfl, upd_same⟩
abbrev s_crosses : Stmt := top 19
theorem sc_crosses : FnScope ["first", "second", "count"] ["first", "second"] (defScope s_crosses) := ⟨rfl, rfl, rfl, by decide +kernel, rfl, by decide +kernel, by decide +kernel⟩
theorem ok_crosses (F : Fun K "crosses" "crosses" s_crosses f fd) (D_ones : Df P w K mg base 1 "ones" ["number"] spOnes) : FnOk P w K mg base CX0 2 f fd ["first", "second"] spCrosses := by
  refine F.ok sc_crosses (fun vs H Q E h => ?_) (fun cdv A outer s H vs Q E hr h => ?_)
  · obtain ⟨v, u, a, b, rfl, _⟩ := h
    rfl
  · obtain ⟨v, u, a, b, rfl, ⟨p, rfl, hp⟩, ⟨q, rfl, hq⟩, k⟩ := h
    refine ⟨_, (pss_cons (ps_set (i := 2) sc_crosses.nd rfl (Or.inl rfl) (pe_op op_addN (pe_fn D_ones (hr.mono (by decide)) (pa_cons (pe_op op_andN (pe_ix ix_tup (pv 0) (pe_nat 1) (fun _ _ => rfl)) (pe_ix ix_tup (pv 1) (pe_nat 2) (fun _ _ => rfl))) pa_nil)) (pe_fn D_ones (hr.mono (by decide)) (pa_cons (pe_op op_andN (pe_ix ix_tup (pv 0) (pe_nat 2) (fun _ _ => rfl)) (pe_ix ix_tup (pv 1) (pe_nat 1) (fun _ _ => rfl))) pa_nil))))
  (pss_one (ps_ret (pe_cmpR op_eqN (pe_op op_modN' (pv 2) (pe_nat 2)) (pe_nat 1) (nomark _))))),
      st_norm (σ' := [some _, some _, none]) rfl ?_⟩
    walk_at "rd"
    exact k
abbrev s_signed_row : Stmt := top 21
theorem sc_signed_row : FnScope ["minus_sign", "xs", "zs", "row"] ["minus_sign", "xs", "zs"] (defScope s_signed_row) := ⟨rfl, rfl, rfl, by decide +kernel, rfl, by decide +kernel, by decide +kernel⟩
theorem ok_signed_row (F : Fun K "signed_row" "signed_row" s_signed_row f fd) (D_ones : Df P w K mg base 1 "ones" ["number"] spOnes) : FnOk P w K mg base CX0 2 f fd ["minus_sign", "xs", "zs"] spSigned := by
  refine F.ok sc_signed_row (fun vs H Q E h => ?_) (fun cdv A outer s H vs Q E hr h => ?_)
  · obtain ⟨x, z, rfl, _⟩ := h
    rfl
  · obtain ⟨x, z, rfl, k⟩ := h
    refine ⟨_, (pss_cons (ps_set (i := 3) sc_signed_row.nd rfl (Or.inl rfl) (pe_tup (pa_cons (pe_op op_modN' (pe_fn D_ones (hr.mono (by decide)) (pa_cons (pe_op op_andN (pv 1) (pv 2)) pa_nil)) (pe_nat 4)) (pa_cons (pv 1) (pa_cons (pv 2) pa_nil)))))
  (pss_cons (ps_if (pt_val (pv 0))
    (pss_one ps_never)
    pss_nil)
  (pss_one (ps_ret (pv 3))))),
      st_norm (σ' := [some _, some _, some _, none]) rfl ?_⟩
    walk_at "rd"
    refine ⟨by show 3 ≤ sizeLine; decide, fun t ht => ?_⟩
    walk_at "rd"
    refine iteF ?_
    walk_at "rd"
    exact k _ _ (same_new ht) ⟨t, rfl, upd_same⟩
end

/-! ### deeds -/
section
variable {P : Program} {w : World} {K : PySem.W.Frag} {mg : Str → Option Value} {base : Heap} {f : Addr} {fd : FuncData}
abbrev s_is_move : Stmt := top 2
theorem sc_is_move : FnScope ["deed"] ["deed"] (defScope s_is_move) := ⟨rfl, rfl, rfl, by decide +kernel, rfl, by decide +kernel, by decide +kernel⟩
theorem ok_is_move (T : Tx K mg w) (F : Fun K "is_move" "is_move" s_is_move f fd) : FnOk P w K mg base CX0 1 f fd ["deed"] spIsMove := by
  refine F.ok sc_is_move (fun vs H Q E h => ?_) (fun cdv A outer s H vs Q E hr h => ?_)
  · obtain ⟨v, d, rfl, _⟩ := h
    rfl
  · obtain ⟨v, d, rfl, hd, k⟩ := h
    obtain ⟨aM, hM, sM⟩ := T.mv
    refine ⟨_, (pss_one (ps_ret (pe_cmpR op_in_seq (pe_ix ix_tup (pv 0) (pe_nat 0) (fun _ _ => rfl)) (pe_glob (v := .ref aM) rfl hM rfl) (by rfl)))),
      st_norm (σ' := [some _]) rfl ?_⟩
    have fin : ∀ (a : Addr) (nm : Str) (xs : List V), v = .ref a → H a = some (.tup (.str nm :: xs)) → inV (.str nm) moveNames = d.isMv → rIn K false (.str nm) (.ref aM) H Q := fun a nm xs _ _ e =>
      ⟨aM, moveNames, rfl, .inr (sM H), rfl, by decide, by rw [← e] at k; exact k⟩
    have names : inV (.str "mix") moveNames = true ∧ inV (.str "quarter") moveNames = true ∧ inV (.str "back") moveNames = true ∧ inV (.str "flip") moveNames = true ∧ inV (.str "sign") moveNames = true ∧ inV (.str "join") moveNames = true ∧ inV (.str "both") moveNames = true ∧ inV (.str "swap") moveNames = true ∧
      inV (.str "look") moveNames = false ∧ inV (.str "ask") moveNames = false ∧ inV (.str "when") moveNames = false := by decide +kernel
    obtain ⟨n1, n2, n3, n4, n5, n6, n7, n8, n9, n10, n11⟩ := names
    cases d with
    | mv m =>
      cases m with
      | one q wi =>
        obtain ⟨a, rfl, ha⟩ := hd
        walk_at "rd"
        cases q
        · exact fin a _ _ rfl ha n1
        · exact fin a _ _ rfl ha n2
        · exact fin a _ _ rfl ha n3
        · exact fin a _ _ rfl ha n4
        · exact fin a _ _ rfl ha n5
      | two q wi vi =>
        obtain ⟨a, rfl, ha⟩ := hd
        walk_at "rd"
        cases q
        · exact fin a _ _ rfl ha n6
        · exact fin a _ _ rfl ha n7
        · exact fin a _ _ rfl ha n8
    | look wi =>
      obtain ⟨a, rfl, ha⟩ := hd
      walk_at "rd"
      exact fin a _ _ rfl ha n9
    | ask r ns =>
      obtain ⟨a, x, y, rfl, ha, _⟩ := hd
      walk_at "rd"
      exact fin a _ _ rfl ha n10
    | strk kk r =>
      obtain ⟨a, x, rfl, ha, _⟩ := hd
      walk_at "rd"
      exact fin a _ _ rfl ha n11
abbrev s_is_look : Stmt := top 3
theorem sc_is_look : FnScope ["deed"] ["deed"] (defScope s_is_look) := ⟨rfl, rfl, rfl, by decide +kernel, rfl, by decide +kernel, by decide +kernel⟩
theorem ok_is_look (F : Fun K "is_look" "is_look" s_is_look f fd) : FnOk P w K mg base CX0 1 f fd ["deed"] spIsLook := by
  refine F.ok sc_is_look (fun vs H Q E h => ?_) (fun cdv A outer s H vs Q E hr h => ?_)
  · obtain ⟨v, d, rfl, _⟩ := h
    rfl
  · obtain ⟨v, d, rfl, hd, k⟩ := h
    refine ⟨_, (pss_one (ps_ret (pe_or (pe_cmpR op_eq (pe_ix ix_tup (pv 0) (pe_nat 0) (fun _ _ => rfl)) pe_str (nomark _)) (pe_one (pe_cmpR op_eq (pe_ix ix_tup (pv 0) (pe_nat 0) (fun _ _ => rfl)) pe_str (nomark _)))))),
      st_norm (σ' := [some _]) rfl ?_⟩
    have e1 : decide (("ask" : Str) = "ask") = true := by decide +kernel
    cases d with
    | mv m =>
      cases m with
      | one q wi =>
        obtain ⟨a, rfl, ha⟩ := hd
        walk_at "rd"
        cases q
        all_goals
          walk_at "rd"
          exact k
      | two q wi vi =>
        obtain ⟨a, rfl, ha⟩ := hd
        walk_at "rd"
        cases q
        all_goals
          walk_at "rd"
          exact k
    | look wi =>
      obtain ⟨a, rfl, ha⟩ := hd
      walk_at "rd"
      exact k
    | ask r ns =>
      obtain ⟨a, x, y, rfl, ha, _⟩ := hd
      walk_at "rd"
      rw [e1]
      exact k
    | strk kk r =>
      obtain ⟨a, x, rfl, ha, _⟩ := hd
      walk_at "rd"
      exact k
abbrev s_undone : Stmt := top 7
theorem sc_undone : FnScope ["move"] ["move"] (defScope s_undone) := ⟨rfl, rfl, rfl, by decide +kernel, rfl, by decide +kernel, by decide +kernel⟩
theorem ok_undone (F : Fun K "undone" "undone" s_undone f fd) : FnOk P w K mg base CX0 1 f fd ["move"] spUndone := by
  refine F.ok sc_undone (fun vs H Q E h => ?_) (fun cdv A outer s H vs Q E hr h => ?_)
  · obtain ⟨v, m, rfl, _⟩ := h
    rfl
  · obtain ⟨v, m, rfl, hd, k⟩ := h
    refine ⟨_, (pss_cons (ps_if (pt_cmpR op_eq (pe_ix ix_tup (pv 0) (pe_nat 0) (fun _ _ => rfl)) pe_str (nomark _))
    (pss_one (ps_ret (pe_tup (pa_cons pe_str (pa_cons (pe_ix ix_tup (pv 0) (pe_nat 1) (fun _ _ => rfl)) pa_nil)))))
    pss_nil)
  (pss_cons (ps_if (pt_cmpR op_eq (pe_ix ix_tup (pv 0) (pe_nat 0) (fun _ _ => rfl)) pe_str (nomark _))
    (pss_one (ps_ret (pe_tup (pa_cons pe_str (pa_cons (pe_ix ix_tup (pv 0) (pe_nat 1) (fun _ _ => rfl)) pa_nil)))))
    pss_nil)
  (pss_one (ps_ret (pv 0))))),
      st_norm (σ' := [some _]) rfl ?_⟩
    cases m with
    | one q wi =>
      obtain ⟨a, rfl, ha⟩ := hd
      walk_at "rd"
      cases q
      · walk_at "rd"
        exact k _ _ (Same.refl H) ⟨a, rfl, ha⟩
      · walk_at "rd"
        refine ⟨by show 2 ≤ sizeLine; decide, fun t ht => ?_⟩
        exact k _ _ (same_new ht) ⟨t, rfl, upd_same⟩
      · walk_at "rd"
        refine ⟨by show 2 ≤ sizeLine; decide, fun t ht => ?_⟩
        exact k _ _ (same_new ht) ⟨t, rfl, upd_same⟩
      · walk_at "rd"
        exact k _ _ (Same.refl H) ⟨a, rfl, ha⟩
      · walk_at "rd"
        exact k _ _ (Same.refl H) ⟨a, rfl, ha⟩
    | two q wi vi =>
      obtain ⟨a, rfl, ha⟩ := hd
      walk_at "rd"
      cases q
      all_goals
        walk_at "rd"
        exact k _ _ (Same.refl H) ⟨a, rfl, ha⟩
abbrev s_moved_on_one : Stmt := top 8
theorem sc_moved_on_one : FnScope ["row", "name", "wire", "turn", "xs", "zs", "x", "z"] ["row", "name", "wire"] (defScope s_moved_on_one) := ⟨rfl, rfl, rfl, by decide +kernel, rfl, by decide +kernel, by decide +kernel⟩
theorem ok_moved_on_one (F : Fun K "moved_on_one" "moved_on_one" s_moved_on_one f fd) (D_bit_of : Df P w K mg base 1 "bit_of" ["number", "at"] spBit) : FnOk P w K mg base CX0 2 f fd ["row", "name", "wire"] spMoved1 := by
  refine F.ok sc_moved_on_one (fun vs H Q E h => ?_) (fun cdv A outer s H vs Q E hr h => ?_)
  · obtain ⟨v, r, q, wi, rfl, _⟩ := h
    rfl
  · obtain ⟨v, r, q, wi, rfl, ⟨a, rfl, ha⟩, hw, k⟩ := h
    refine ⟨_, (pss_cons (ps_asg (pv 0) (pg_tup rfl (pgs_cons (pg_name (i := 3) sc_moved_on_one.nd rfl (Or.inl rfl)) (pgs_cons (pg_name (i := 4) sc_moved_on_one.nd rfl (Or.inl rfl)) (pgs_cons (pg_name (i := 5) sc_moved_on_one.nd rfl (Or.inl rfl)) pgs_nil)))))
  (pss_cons (ps_set (i := 6) sc_moved_on_one.nd rfl (Or.inl rfl) (pe_fn D_bit_of (hr.mono (by decide)) (pa_cons (pv 4) (pa_cons (pv 2) pa_nil))))
  (pss_cons (ps_set (i := 7) sc_moved_on_one.nd rfl (Or.inl rfl) (pe_fn D_bit_of (hr.mono (by decide)) (pa_cons (pv 5) (pa_cons (pv 2) pa_nil))))
  (pss_cons (ps_if (pt_cmpR op_eq (pv 1) pe_str (nomark _))
    (pss_cons (ps_aug (i := 3) sc_moved_on_one.nd rfl (Or.inl rfl) (pe_op op_mulN (pe_op op_mulN (pe_nat 2) (pv 6)) (pv 7)) ip_addN)
  (pss_cons (ps_set (i := 4) sc_moved_on_one.nd rfl (Or.inl rfl) (pe_op op_xorN (pv 4) (pe_op op_shlN (pe_op op_xorN (pv 6) (pv 7)) (pv 2))))
  (pss_one (ps_set (i := 5) sc_moved_on_one.nd rfl (Or.inl rfl) (pe_op op_xorN (pv 5) (pe_op op_shlN (pe_op op_xorN (pv 6) (pv 7)) (pv 2)))))))
    (pss_one (ps_if (pt_cmpR op_eq (pv 1) pe_str (nomark _))
    (pss_cons (ps_aug (i := 3) sc_moved_on_one.nd rfl (Or.inl rfl) (pv 6) ip_addN)
  (pss_one (ps_set (i := 5) sc_moved_on_one.nd rfl (Or.inl rfl) (pe_op op_xorN (pv 5) (pe_op op_shlN (pv 6) (pv 2))))))
    (pss_one (ps_if (pt_cmpR op_eq (pv 1) pe_str (nomark _))
    (pss_cons (ps_aug (i := 3) sc_moved_on_one.nd rfl (Or.inl rfl) (pe_op op_mulN (pe_nat 3) (pv 6)) ip_addN)
  (pss_one (ps_set (i := 5) sc_moved_on_one.nd rfl (Or.inl rfl) (pe_op op_xorN (pv 5) (pe_op op_shlN (pv 6) (pv 2))))))
    (pss_one (ps_if (pt_cmpR op_eq (pv 1) pe_str (nomark _))
    (pss_one (ps_aug (i := 3) sc_moved_on_one.nd rfl (Or.inl rfl) (pe_op op_mulN (pe_nat 2) (pv 7)) ip_addN))
    (pss_one (ps_aug (i := 3) sc_moved_on_one.nd rfl (Or.inl rfl) (pe_op op_mulN (pe_nat 2) (pv 6)) ip_addN)))))))))
  (pss_one (ps_ret (pe_tup (pa_cons (pe_op op_modN' (pv 3) (pe_nat 4)) (pa_cons (pv 4) (pa_cons (pv 5) pa_nil)))))))))),
      st_norm (σ' := [some _, some _, some _, none, none, none, none, none]) rfl ?_⟩
    have q1 := bt_le r.x wi
    have q2 := bt_le r.z wi
    have q3 : bt r.x wi ^^^ bt r.z wi ≤ 1 := by unfold bt; cases r.x.testBit wi <;> cases r.z.testBit wi <;> decide
    walk_at "rd"
    cases q
    all_goals
      walk_at "rd"
      refine ⟨by show 3 ≤ sizeLine; decide, fun t ht => ?_⟩
      exact k _ _ (same_new ht) ⟨t, rfl, upd_same⟩
abbrev s_moved_on_two : Stmt := top 9
theorem sc_moved_on_two : FnScope ["row", "name", "wire", "other", "turn", "xs", "zs", "x", "z", "other_x", "other_z"] ["row", "name", "wire", "other"] (defScope s_moved_on_two) := ⟨rfl, rfl, rfl, by decide +kernel, rfl, by decide +kernel, by decide +kernel⟩
theorem ok_moved_on_two (F : Fun K "moved_on_two" "moved_on_two" s_moved_on_two f fd) (D_bit_of : Df P w K mg base 1 "bit_of" ["number", "at"] spBit) : FnOk P w K mg base CX0 2 f fd ["row", "name", "wire", "other"] spMoved2 := by
  refine F.ok sc_moved_on_two (fun vs H Q E h => ?_) (fun cdv A outer s H vs Q E hr h => ?_)
  · obtain ⟨v, r, q, wi, vi, rfl, _⟩ := h
    rfl
  · obtain ⟨v, r, q, wi, vi, rfl, ⟨a, rfl, ha⟩, hw, hv, k⟩ := h
    refine ⟨_, (pss_cons (ps_asg (pv 0) (pg_tup rfl (pgs_cons (pg_name (i := 4) sc_moved_on_two.nd rfl (Or.inl rfl)) (pgs_cons (pg_name (i := 5) sc_moved_on_two.nd rfl (Or.inl rfl)) (pgs_cons (pg_name (i := 6) sc_moved_on_two.nd rfl (Or.inl rfl)) pgs_nil)))))
  (pss_cons (ps_set (i := 7) sc_moved_on_two.nd rfl (Or.inl rfl) (pe_fn D_bit_of (hr.mono (by decide)) (pa_cons (pv 5) (pa_cons (pv 2) pa_nil))))
  (pss_cons (ps_set (i := 8) sc_moved_on_two.nd rfl (Or.inl rfl) (pe_fn D_bit_of (hr.mono (by decide)) (pa_cons (pv 6) (pa_cons (pv 2) pa_nil))))
  (pss_cons (ps_set (i := 9) sc_moved_on_two.nd rfl (Or.inl rfl) (pe_fn D_bit_of (hr.mono (by decide)) (pa_cons (pv 5) (pa_cons (pv 3) pa_nil))))
  (pss_cons (ps_set (i := 10) sc_moved_on_two.nd rfl (Or.inl rfl) (pe_fn D_bit_of (hr.mono (by decide)) (pa_cons (pv 6) (pa_cons (pv 3) pa_nil))))
  (pss_cons (ps_if (pt_cmpR op_eq (pv 1) pe_str (nomark _))
    (pss_one (ps_ret (pe_tup (pa_cons (pv 4) (pa_cons (pe_op op_xorN (pv 5) (pe_op op_shlN (pv 7) (pv 3))) (pa_cons (pe_op op_xorN (pv 6) (pe_op op_shlN (pv 10) (pv 2))) pa_nil))))))
    pss_nil)
  (pss_cons (ps_if (pt_cmpR op_eq (pv 1) pe_str (nomark _))
    (pss_one (ps_ret (pe_tup (pa_cons (pe_op op_modN' (pe_op op_addN (pv 4) (pe_op op_mulN (pe_op op_mulN (pe_nat 2) (pv 7)) (pv 9))) (pe_nat 4)) (pa_cons (pv 5) (pa_cons (pe_op op_xorN (pe_op op_xorN (pv 6) (pe_op op_shlN (pv 9) (pv 2))) (pe_op op_shlN (pv 7) (pv 3))) pa_nil))))))
    pss_nil)
  (pss_cons (ps_set (i := 5) sc_moved_on_two.nd rfl (Or.inl rfl) (pe_op op_xorN (pe_op op_xorN (pv 5) (pe_op op_shlN (pe_op op_xorN (pv 7) (pv 9)) (pv 2))) (pe_op op_shlN (pe_op op_xorN (pv 7) (pv 9)) (pv 3))))
  (pss_cons (ps_set (i := 6) sc_moved_on_two.nd rfl (Or.inl rfl) (pe_op op_xorN (pe_op op_xorN (pv 6) (pe_op op_shlN (pe_op op_xorN (pv 8) (pv 10)) (pv 2))) (pe_op op_shlN (pe_op op_xorN (pv 8) (pv 10)) (pv 3))))
  (pss_one (ps_ret (pe_tup (pa_cons (pv 4) (pa_cons (pv 5) (pa_cons (pv 6) pa_nil))))))))))))))),
      st_norm (σ' := [some _, some _, some _, some _, none, none, none, none, none, none, none]) rfl ?_⟩
    have q1 := bt_le r.x wi
    have q2 := bt_le r.z wi
    have q4 := bt_le r.x vi
    have q5 := bt_le r.z vi
    have q3 : bt r.x wi ^^^ bt r.x vi ≤ 1 := by unfold bt; cases r.x.testBit wi <;> cases r.x.testBit vi <;> decide
    have q6 : bt r.z wi ^^^ bt r.z vi ≤ 1 := by unfold bt; cases r.z.testBit wi <;> cases r.z.testBit vi <;> decide
    walk_at "rd"
    cases q
    all_goals
      walk_at "rd"
      refine ⟨by show 3 ≤ sizeLine; decide, fun t ht => ?_⟩
      exact k _ _ (same_new ht) ⟨t, rfl, upd_same⟩
abbrev s_moved : Stmt := top 10
theorem sc_moved : FnScope ["row", "move"] ["row", "move"] (defScope s_moved) := ⟨rfl, rfl, rfl, by decide +kernel, rfl, by decide +kernel, by decide +kernel⟩
theorem ok_moved (T : Tx K mg w) (F : Fun K "moved" "moved" s_moved f fd) (D_moved_on_one : Df P w K mg base 2 "moved_on_one" ["row", "name", "wire"] spMoved1) (D_moved_on_two : Df P w K mg base 2 "moved_on_two" ["row", "name", "wire", "other"] spMoved2) : FnOk P w K mg base CX0 3 f fd ["row", "move"] spMoved := by
  refine F.ok sc_moved (fun vs H Q E h => ?_) (fun cdv A outer s H vs Q E hr h => ?_)
  · obtain ⟨v, u, r, m, rfl, _⟩ := h
    rfl
  · obtain ⟨v, u, r, m, rfl, hv, hu, hm, k⟩ := h
    refine ⟨_, (pss_cons (ps_if (pt_cmpR op_eqN (pe_callB call_lenS (by rfl) T.b_len PySem.boot_len (pa_cons (pv 1) pa_nil)) (pe_nat 2) (nomark _))
    (pss_one (ps_ret (pe_fn D_moved_on_one (hr.mono (by decide)) (pa_cons (pv 0) (pa_cons (pe_ix ix_tup (pv 1) (pe_nat 0) (fun _ _ => rfl)) (pa_cons (pe_ix ix_tup (pv 1) (pe_nat 1) (fun _ _ => rfl)) pa_nil))))))
    pss_nil)
  (pss_one (ps_ret (pe_fn D_moved_on_two (hr.mono (by decide)) (pa_cons (pv 0) (pa_cons (pe_ix ix_tup (pv 1) (pe_nat 0) (fun _ _ => rfl)) (pa_cons (pe_ix ix_tup (pv 1) (pe_nat 1) (fun _ _ => rfl)) (pa_cons (pe_ix ix_tup (pv 1) (pe_nat 2) (fun _ _ => rfl)) pa_nil)))))))),
      st_norm (σ' := [some _, some _]) rfl ?_⟩
    cases m with
    | one q wi =>
      obtain ⟨a, rfl, ha⟩ := hu
      walk_at "rd"
      refine rd_decT (by rfl) ?_
      walk_at "rd"
      have hw : wi < 1000 := hm
      exact ⟨v, r, q, wi, rfl, hv, by omega, k⟩
    | two q wi vi =>
      obtain ⟨a, rfl, ha⟩ := hu
      walk_at "rd"
      refine rd_decF (by show ¬ (3 = 2); decide) ?_
      walk_at "rd"
      have hw : wi < 1000 := hm.1
      have hv' : vi < 1000 := hm.2.1
      exact ⟨v, r, q, wi, vi, rfl, hv, by omega, by omega, k⟩
theorem wires_sorted1 {w : Nat} {ns : List Int} (h : ns.Perm [(w : Int)]) : ns.map V.int = nI [w] := by
  rw [List.perm_singleton.mp h]; rfl
theorem wires_sorted2 {w u : Nat} {ns : List Int} (h : ns.Perm [(w : Int), (u : Int)]) (hs : ns.Pairwise (· ≤ ·)) (k : K2) : ns.map V.int = nI (wiresOf (.two k w u)) := by
  have hl := h.length_eq
  match ns, hl with
  | [a, b], _ =>
    have ha : a ∈ [(w : Int), (u : Int)] := h.mem_iff.mp List.mem_cons_self
    have hb : b ∈ [(w : Int), (u : Int)] := h.mem_iff.mp (List.mem_cons_of_mem _ List.mem_cons_self)
    have hw : (w : Int) ∈ [a, b] := h.mem_iff.mpr List.mem_cons_self
    have hu : (u : Int) ∈ [a, b] := h.mem_iff.mpr (List.mem_cons_of_mem _ List.mem_cons_self)
    have hab : a ≤ b := by
      have := List.pairwise_cons.mp hs
      exact this.1 b List.mem_cons_self
    simp only [List.mem_cons, List.not_mem_nil, or_false] at ha hb hw hu
    by_cases q : w < u
    · rw [wires_lt k q]
      have e1 : a = w := by omega
      have e2 : b = u := by omega
      subst e1; subst e2; rfl
    · rw [wires_ge k q]
      have e1 : a = u := by omega
      have e2 : b = w := by omega
      subst e1; subst e2; rfl
abbrev s_wires_of : Stmt := top 6
theorem sc_wires_of : FnScope ["deed", "row", "rest", "wires", "at"] ["deed"] (defScope s_wires_of) := ⟨rfl, rfl, rfl, by decide +kernel, rfl, by decide +kernel, by decide +kernel⟩
theorem ok_wires_of (T : Tx K mg w) (F : Fun K "wires_of" "wires_of" s_wires_of f fd) (D_is_move : Df P w K mg base 1 "is_move" ["deed"] spIsMove) : FnOk P w K mg base CX0 2 f fd ["deed"] spWires := by
  refine F.ok sc_wires_of (fun vs H Q E h => ?_) (fun cdv A outer s H vs Q E hr h => ?_)
  · obtain ⟨v, m, rfl, _⟩ := h
    rfl
  · obtain ⟨v, m, rfl, hd, k⟩ := h
    refine ⟨_, (pss_cons (ps_if (PW.pt (pw_or (pt_val (pe_fn D_is_move (hr.mono (by decide)) (pa_cons (pv 0) pa_nil))) (pw_or1 (pt_cmpR op_eq (pe_ix ix_tup (pv 0) (pe_nat 0) (fun _ _ => rfl)) pe_str (nomark _)))))
      (pss_one (ps_ret (pe_callB cr_sortedTup (by rfl) T.b_sorted (by decide +kernel) (pa_cons (pe_slice sl_tup (pv 0) (po_some (pe_nat 1)) po_none) pa_nil)))) pss_nil) pss_never),
      st_norm (σ' := [some _, none, none, none, none]) rfl ?_⟩
    walk_at "rd"
    refine ⟨v, .mv m, rfl, hd, ?_⟩
    refine ⟨true, rfl, iteT (iteT ?_)⟩
    cases m with
    | one q wi =>
      obtain ⟨a, rfl, ha⟩ := hd
      walk_at "rd"
      refine ⟨_, rfl, a, _, rfl, SqT.of ha, (fun z => nomatch z), fun t ht => ?_⟩
      refine ⟨t, [(wi : Int)], rfl, SqT.of upd_same, (by show 1 < 64; decide), fun ns p hp hs hpn => ?_⟩
      have e : H p = none := (same_new ht).free hpn
      refine k p _ ((same_new ht).trans (same_new hpn)) e ?_
      rw [upd_same, wires_sorted1 hp]; rfl
    | two q wi vi =>
      obtain ⟨a, rfl, ha⟩ := hd
      walk_at "rd"
      refine ⟨_, rfl, a, _, rfl, SqT.of ha, (fun z => nomatch z), fun t ht => ?_⟩
      refine ⟨t, [(wi : Int), (vi : Int)], rfl, SqT.of upd_same, (by show 2 < 64; decide), fun ns p hp hs hpn => ?_⟩
      have e : H p = none := (same_new ht).free hpn
      refine k p _ ((same_new ht).trans (same_new hpn)) e ?_
      rw [upd_same, wires_sorted2 hp hs q]
end

/-! ### maps -/
section
variable {P : Program} {w : World} {K : PySem.W.Frag} {mg : Str → Option Value} {base : Heap} {f : Addr} {fd : FuncData}
theorem carryF_succ (im : Nat → Row) (at_ marks n : Nat) (acc : Row) : carryF im at_ marks (n + 1) acc = if marks.testBit n then product (carryF im at_ marks n acc) (im (2 * n + at_)) else carryF im at_ marks n acc := rfl
abbrev s_doing : Stmt := top 23
theorem sc_doing : FnScope ["wires", "word", "images", "wire", "deed", "row"] ["wires", "word"] (defScope s_doing) := ⟨rfl, rfl, rfl, by decide +kernel, rfl, by decide +kernel, by decide +kernel⟩
theorem ok_doing (T : Tx K mg w) (F : Fun K "doing" "doing" s_doing f fd) (D_is_move : Df P w K mg base 1 "is_move" ["deed"] spIsMove) (D_moved : Df P w K mg base 3 "moved" ["row", "move"] spMoved) : FnOk P w K mg base CX0 4 f fd ["wires", "word"] spDoing := by
  refine F.ok sc_doing (fun vs H Q E h => ?_) (fun cdv A outer s H vs Q E hr h => ?_)
  · obtain ⟨n, l, ms, rfl, _⟩ := h
    rfl
  · obtain ⟨n, l, ms, rfl, hn, ⟨vm, hl, hm⟩, ok, k⟩ := h
    refine ⟨_, (pss_cons (ps_set (i := 2) sc_doing.nd rfl (Or.inl rfl) (pe_lst pa_nil))
  (pss_cons (ps_for PassesOwn.never rfl (pi_range1 (by rfl) T.b_range (pa_cons (pv 0) pa_nil)) (pg_name (i := 3) sc_doing.nd rfl (Or.inl rfl))
    (pss_cons (ps_expr (pe_bm PySem.F.plainAttrs_list PySem.F.slot_list_append PySem.F.type_list_append mt_append (pv 2) (pa_cons (pe_tup (pa_cons (pe_nat 0) (pa_cons (pe_op op_shlN (pe_nat 1) (pv 3)) (pa_cons (pe_nat 0) pa_nil)))) pa_nil)))
  (pss_one (ps_expr (pe_bm PySem.F.plainAttrs_list PySem.F.slot_list_append PySem.F.type_list_append mt_append (pv 2) (pa_cons (pe_tup (pa_cons (pe_nat 0) (pa_cons (pe_nat 0) (pa_cons (pe_op op_shlN (pe_nat 1) (pv 3)) pa_nil)))) pa_nil))))))
  (pss_cons (ps_for PassesOwn.never rfl (pi_list (pv 1)) (pg_name (i := 4) sc_doing.nd rfl (Or.inr rfl))
    (pss_cons (ps_if (pt_not (pt_val (pe_fn D_is_move (hr.mono (by decide)) (pa_cons (pv 4) pa_nil))))
    (pss_one ps_never)
    pss_nil)
  (pss_one (ps_setLc (i := 2) (own := [("row", 5)]) (g := gName 5) rfl sc_doing.nd rfl rfl (sw_true rfl rfl rfl (by decide +kernel)) (pi_list (pv 2)) (blkOk_by (N := ["wires", "word", "images", "wire", "deed", "row"]) (sc := defScope s_doing) (by decide +kernel)) (fun _ _ _ _ _ => pg_name (i := 5) sc_doing.nd rfl (Or.inl rfl)) (fun _ _ _ _ _ => pts_nil) (fun _ _ _ _ _ => (pe_fn D_moved (hr.mono (by decide)) (pa_cons (pv 5) (pa_cons (pv 4) pa_nil))))))))
  (pss_one (ps_ret (pv 2)))))),
      st_norm (σ' := [some _, some _, none, none, none, none]) rfl ?_⟩
    walk_at "rd"
    refine ⟨Nat.zero_le _, fun a ha => ?_⟩
    walk_at "rd"
    refine ⟨_, rfl, by omega, by omega, for_range (lo := 0) (n := n) (fun i σ H' => ∃ (vs : List V) (x : Option V), σ = [some (.int (n : Int)), some (.ref l), some (.ref a), x, none, none] ∧ Bld H H' a vs ∧ All2 (IRow H') vs ((List.range (2 * i)).map gen))
      ⟨[], none, rfl, Bld.mk0 ha, trivial⟩ ?_ ?_⟩
    · rintro i σ H' hi ⟨vs, x, rfl, b, hv⟩
      have e0 : (0 : Int) + (i : Int) = (i : Int) := Int.zero_add _
      have hat := b.at_
      have hlen := hv.len
      rw [List.length_map, List.length_range] at hlen
      rw [e0]
      walk_at "rd"
      refine ⟨by show 3 ≤ sizeLine; decide, fun t ht => ?_⟩
      walk_at "rd"
      obtain ⟨b2, hv2⟩ := Bld.push mRow b hv (same_new (o := .tup [.int ((0 : Nat) : Int), .int ((1 <<< i : Nat) : Int), .int ((0 : Nat) : Int)]) ht) (y := .ref t) (d := ⟨0, 1 <<< i, 0⟩) ⟨t, rfl, upd_same⟩
      refine rd_app (upd_old ht hat) (by omega) ?_
      have hat2 := b2.at_
      generalize hH2 : upd (upd H' t _) a _ = H2 at *
      walk_at "rd"
      refine ⟨by show 3 ≤ sizeLine; decide, fun t2 ht2 => ?_⟩
      walk_at "rd"
      obtain ⟨b3, hv3⟩ := Bld.push mRow b2 hv2 (same_new (o := .tup [.int ((0 : Nat) : Int), .int ((0 : Nat) : Int), .int ((1 <<< i : Nat) : Int)]) ht2) (y := .ref t2) (d := ⟨0, 0, 1 <<< i⟩) ⟨t2, rfl, upd_same⟩
      refine rd_app (upd_old ht2 hat2) (by rw [List.length_append]; simp; omega) ?_
      refine ⟨_, _, rfl, b3, ?_⟩
      have er : (List.range (2 * (i + 1))).map gen = (List.range (2 * i)).map gen ++ [⟨0, 1 <<< i, 0⟩] ++ [⟨0, 0, 1 <<< i⟩] := by
        rw [show 2 * (i + 1) = 2 * i + 1 + 1 by omega, List.range_succ, List.range_succ, List.map_append, List.map_append]
        simp only [List.map_cons, List.map_nil, gen_x, gen_z]
      rw [er]
      exact hv3
    · rintro σ H' ⟨vs, x, rfl, b, hv⟩
      walk_at "rd"
      have hl' := b.same _ _ hl
      refine ⟨l, rfl, ⟨vm, SqL.of hl'⟩, for_list (xs := vm) (fun i σ H2 => ∃ (a' : Addr) (x3 x4 : Option V), σ = [some (.int (n : Int)), some (.ref l), some (.ref a'), x3, x4, none] ∧ Same H H2 ∧ H a' = none ∧ IRows H2 a' ((ms.take i).foldl (fun im m => im.map fun r => moved r m) (gens n)))
        ⟨a, x, none, rfl, b.same, b.new, vs, b.at_, hv⟩ (fun i σ H2 _ ⟨_, _, _, _, s2, _⟩ => SqL.of (s2 _ _ hl)) ?_ ?_⟩
      · rintro i y σ H2 hi ⟨a', x3, x4, rfl, s2, na, us, hus, hu⟩
        obtain ⟨m, em, hy⟩ := hm.get hi
        have hy2 := hy.mono (tp_of s2)
        have hok : m.Ok n := ok m (List.mem_of_getElem? em)
        have hul := hu.len
        have hlen2 : ∀ (ms : List Mv) (im : List Row), (ms.foldl (fun im m => im.map fun r => moved r m) im).length = im.length := fun ms => by
          induction ms with
          | nil => intro im; rfl
          | cons m ms ih => intro im; show (ms.foldl _ (im.map _)).length = _; rw [ih, List.length_map]
        rw [hlen2] at hul
        have hg : (gens n).length = 2 * n := by unfold gens; simp
        walk_at "rd"
        refine ⟨y, .mv m, rfl, hy2, ?_⟩
        walk_at "rd"
        refine rd_bF rfl ?_
        walk_at "rd"
        refine ⟨a', rfl, ⟨us, SqL.of hus⟩, fun D hD => lc_map (walk_list (K := K) (a := a') (xs := us)) (R := IRow) mRow (((ms.take i).foldl (fun im m => im.map fun r => moved r m) (gens n)).map fun r => moved r m) (by rw [List.length_map, hlen2, hul]) hD (by omega) (fun _ => by rfl)
          (fun H3 s3 => SqL.of (s3 _ _ hus)) (fun j x H3 H3' d hj s3 hx ed QQ kq => ?_) (fun H3 ws s3 hws ha3 => ?_)⟩
        · obtain ⟨rfl, ex⟩ := hx
          obtain ⟨r, er, hrow⟩ := hu.get ex
          walk_at "rd"
          refine ⟨x, y, r, m, rfl, hrow.mono (tp_of s3), hy2.mono (tp_of s3), ?_, fun p H4 s4 r4 => kq p H4 s4 ?_⟩
          · cases m with
            | one q wi => have : wi < n := hok; show wi < 1000; omega
            | two q wi vi => exact ⟨by have := hok.1; omega, by have := hok.2.1; omega, hok.2.2⟩
          · rw [List.getElem?_map, er] at ed
            have : moved r m = d := Option.some.inj ed
            rw [← this]; exact r4
        · walk_at "rd"
          refine ⟨D, _, _, rfl, s2.trans s3, s2.free hD, ws, hws, ?_⟩
          have et : ms.take (i + 1) = ms.take i ++ [m] := by rw [List.take_add_one, em]; rfl
          rw [et, List.foldl_append]
          exact ha3
      · rintro σ H2 ⟨a', x3, x4, rfl, s2, na, hr2⟩
        walk_at "rd"
        refine k a' H2 s2 na ?_
        rw [List.take_of_length_le (by have := hm.len; omega)] at hr2
        exact hr2
abbrev s_carried : Stmt := top 24
theorem sc_carried : FnScope ["images", "row", "turn", "xs", "zs", "whole", "at", "marks", "wire"] ["images", "row"] (defScope s_carried) := ⟨rfl, rfl, rfl, by decide +kernel, rfl, by decide +kernel, by decide +kernel⟩
theorem ok_carried (T : Tx K mg w) (F : Fun K "carried" "carried" s_carried f fd) (D_product : Df P w K mg base 2 "product" ["first", "second"] spProduct) : FnOk P w K mg base CX0 3 f fd ["images", "row"] spCarried := by
  refine F.ok sc_carried (fun vs H Q E h => ?_) (fun cdv A outer s H vs Q E hr h => ?_)
  · obtain ⟨l, im, v, r, rfl, _⟩ := h
    rfl
  · obtain ⟨l, im, v, r, rfl, ⟨us, hl, hu⟩, h80, ⟨ar, rfl, har⟩, k⟩ := h
    refine ⟨_, (pss_cons (ps_asg (pv 1) (pg_tup rfl (pgs_cons (pg_name (i := 2) sc_carried.nd rfl (Or.inl rfl)) (pgs_cons (pg_name (i := 3) sc_carried.nd rfl (Or.inl rfl)) (pgs_cons (pg_name (i := 4) sc_carried.nd rfl (Or.inl rfl)) pgs_nil)))))
  (pss_cons (ps_set (i := 5) sc_carried.nd rfl (Or.inl rfl) (pe_tup (pa_cons (pv 2) (pa_cons (pe_nat 0) (pa_cons (pe_nat 0) pa_nil)))))
  (pss_cons (ps_for PassesOwn.never rfl (pi_list (pe_lst (pa_cons (pe_tup (pa_cons (pe_nat 0) (pa_cons (pv 3) pa_nil))) (pa_cons (pe_tup (pa_cons (pe_nat 1) (pa_cons (pv 4) pa_nil))) pa_nil)))) (pg_tup rfl (pgs_cons (pg_name (i := 6) sc_carried.nd rfl (Or.inl rfl)) (pgs_cons (pg_name (i := 7) sc_carried.nd rfl (Or.inl rfl)) pgs_nil)))
    (pss_one (ps_for PassesOwn.never rfl (pi_range1 (by rfl) T.b_range (pa_cons (pe_op op_divN (pe_callB call_lenS (by rfl) T.b_len PySem.boot_len (pa_cons (pv 0) pa_nil)) (pe_nat 2)) pa_nil)) (pg_name (i := 8) sc_carried.nd rfl (Or.inl rfl))
    (pss_one (ps_if (pt_cmpR op_eqN (pe_op op_andN (pe_op op_shrN (pv 7) (pv 8)) (pe_nat 1)) (pe_nat 1) (nomark _))
    (pss_one (ps_set (i := 5) sc_carried.nd rfl (Or.inl rfl) (pe_fn D_product (hr.mono (by decide)) (pa_cons (pv 5) (pa_cons (pe_ix ix_list (pv 0) (pe_op op_addN (pe_op op_mulN (pe_nat 2) (pv 8)) (pv 6)) (fun _ _ => rfl)) pa_nil)))))
    pss_nil)))))
  (pss_one (ps_ret (pv 5)))))),
      st_norm (σ' := [some _, some _, none, none, none, none, none, none, none]) rfl ?_⟩
    have hul := hu.len
    walk_at "rd"
    refine ⟨by show 3 ≤ sizeLine; decide, rd_new fun t0 H0 n0 z0 h0' => ?_⟩
    walk_at "rd"
    refine ⟨by show 2 ≤ sizeLine; decide, rd_new fun t1 Ha n1 z1 h1' => ?_⟩
    walk_at "rd"
    refine ⟨by show 2 ≤ sizeLine; decide, rd_new fun t2 Hb n2 z2 h2' => ?_⟩
    walk_at "rd"
    refine ⟨by show 2 ≤ sizeLine; decide, rd_new fun L H1 nL zL hLs => ?_⟩
    walk_at "rd"
    have s0 : Same H H1 := ((z0.trans z1).trans z2).trans zL
    have h0 : IRow H1 (.ref t0) ⟨r.t, 0, 0⟩ := ⟨t0, rfl, zL _ _ (z2 _ _ (z1 _ _ h0'))⟩
    have h1 := zL _ _ (z2 _ _ h1')
    have h2 := zL _ _ h2'
    let N := im.length / 2
    let accs : Nat → Row := fun i => if i = 0 then ⟨r.t, 0, 0⟩ else if i = 1 then carryF (lk im) 0 r.x N ⟨r.t, 0, 0⟩ else carried im r
    refine ⟨L, rfl, ⟨_, SqL.of hLs⟩, for_list (xs := [.ref t1, .ref t2]) (fun i σ H2 => ∃ (wv : V) (x6 x7 x8 : Option V), σ = [some (.ref l), some (.ref ar), some (.int (r.t : Int)), some (.int (r.x : Int)), some (.int (r.z : Int)), some wv, x6, x7, x8] ∧ Same H1 H2 ∧ IRow H2 wv (accs i))
      ⟨.ref t0, none, none, none, rfl, Same.refl _, h0⟩ (fun i σ H2 _ ⟨_, _, _, _, _, s2, _⟩ => SqL.of (s2 _ _ hLs)) ?_ ?_⟩
    · rintro i y σ H2 hi ⟨wv, x6, x7, x8, rfl, s2, hw⟩
      obtain ⟨at_, marks, tt, rfl, htt, hacc, hat⟩ : ∃ (at_ marks : Nat) (tt : Addr), y = .ref tt ∧ H1 tt = some (.tup [.int (at_ : Int), .int (marks : Int)]) ∧ accs (i + 1) = carryF (lk im) at_ marks N (accs i) ∧ at_ ≤ 1 := by
        match i, hi with
        | 0, hi => exact ⟨0, r.x, t1, (Option.some.inj hi).symm, h1, rfl, by omega⟩
        | 1, hi => exact ⟨1, r.z, t2, (Option.some.inj hi).symm, h2, rfl, by omega⟩
        | j + 2, hi => simp at hi
      have htt2 := s2 _ _ htt
      have hl2 := s2 _ _ (s0 _ _ hl)
      have hu2 : All2 (IRow H2) us im := hu.mono fun _ _ => IRow.mono (tp_of (s0.trans s2))
      rw [hacc]
      generalize accs i = acc at hw
      walk_at "rd"
      rw [hul]
      refine ⟨((N : Nat) : Int), rfl, by omega, by omega, for_range (lo := 0) (n := N) (fun j σ H3 => ∃ (wv' : V) (x8 : Option V), σ = [some (.ref l), some (.ref ar), some (.int (r.t : Int)), some (.int (r.x : Int)), some (.int (r.z : Int)), some wv', some (.int (at_ : Int)), some (.int (marks : Int)), x8] ∧ Same H2 H3 ∧ IRow H3 wv' (carryF (lk im) at_ marks j acc))
        ⟨wv, x8, rfl, Same.refl _, hw⟩ ?_ ?_⟩
      · rintro j σ H3 hj ⟨wv', x8', rfl, s3, hw3⟩
        have e0 : (0 : Int) + (j : Int) = (j : Int) := Int.zero_add _
        rw [e0]
        have hl3 := s3 _ _ hl2
        have hlt : 2 * j + at_ < im.length := by
          have : N = im.length / 2 := rfl
          omega
        obtain ⟨u, eu, hrow⟩ := hu2.get' (List.getElem?_eq_getElem hlt)
        have elk : lk im (2 * j + at_) = im[2 * j + at_] := by unfold lk; rw [List.getD_eq_getElem?_getD, List.getElem?_eq_getElem hlt]; rfl
        walk_at "rd"
        rw [bt_eq]
        refine rd_dec (fun hb => ?_) (fun hb => ?_)
        · walk_at "rd"
          refine rd_ixL hl3 (atI_nat eu) ?_
          walk_at "rd"
          refine ⟨wv', u, _, _, rfl, hw3, hrow.mono (tp_of s3), fun p H4 s4 r4 => ?_⟩
          walk_at "rd"
          refine ⟨p, _, rfl, s3.trans s4, ?_⟩
          rw [carryF_succ, if_pos (bt_one.mp hb), elk]
          exact r4
        · walk_at "rd"
          refine ⟨wv', _, rfl, s3, ?_⟩
          have hb' : marks.testBit j = false := by
            cases q : marks.testBit j
            · rfl
            · exact absurd (bt_one.mpr q) hb
          rw [carryF_succ, if_neg (by rw [hb']; exact Bool.false_ne_true)]
          exact hw3
      · rintro σ H3 ⟨wv', x8', rfl, s3, hw3⟩
        exact ⟨wv', _, _, _, rfl, s2.trans s3, hw3⟩
    · rintro σ H2 ⟨wv, x6, x7, x8, rfl, s2, hw⟩
      walk_at "rd"
      exact k wv H2 (s0.trans s2) hw
end

/-! ### fair copies -/
section
variable {P : Program} {w : World} {K : PySem.W.Frag} {mg : Str → Option Value} {base : Heap} {f : Addr} {fd : FuncData}
theorem Keep2.refl (a s : Addr) (H : Hp) : Keep2 a s H H := fun _ _ h _ _ => h
theorem Keep2.trans {a s : Addr} {H H1 H2 : Hp} (x : Keep2 a s H H1) (y : Keep2 a s H1 H2) : Keep2 a s H H2 := fun b o h h1 h2 => y b o (x b o h h1 h2) h1 h2
theorem Keep2.of {a s : Addr} {H H1 : Hp} (x : Same H H1) : Keep2 a s H H1 := fun b o h _ _ => x b o h
theorem Keep2.putL {a s : Addr} {H : Hp} {o : HO} : Keep2 a s H (upd H a o) := fun b u h h1 _ => by rw [upd_ne h1]; exact h
theorem Keep2.putR {a s : Addr} {H : Hp} {o : HO} : Keep2 a s H (upd H s o) := fun b u h _ h2 => by rw [upd_ne h2]; exact h
theorem GsAt.same {H H' : Hp} {a s : Addr} {g : GS} (h : GsAt H a s g) (x : Same H H') : GsAt H' a s g := ⟨h.ne, h.im.mono x, h.st.mono x⟩
theorem set_mid (f : Row → Row) : ∀ (im : List Row) (i : Nat) (r : Row), im[i]? = some r → ((im.take i).map f ++ im.drop i).set i (f r) = (im.take (i + 1)).map f ++ im.drop (i + 1)
  | [], i, r, h => by simp at h
  | x :: xs, 0, r, h => by
    have e : x = r := Option.some.inj h
    subst e
    simp
  | x :: xs, i + 1, r, h => by
    have ih := set_mid f xs i r h
    simp only [List.take_succ_cons, List.map_cons, List.drop_succ_cons, List.cons_append, List.set_cons_succ]
    rw [ih]
theorem ok1000 {n : Nat} {m : Mv} (hn : n ≤ 1000) (h : m.Ok n) : m.Ok 1000 := by
  cases m with
  | one q wi => have : wi < n := h; show wi < 1000; omega
  | two q wi vi => exact ⟨by have := h.1; omega, by have := h.2.1; omega, h.2.2⟩
abbrev s_take : Stmt := top 26
theorem sc_take : FnScope ["images", "steps", "move", "k"] ["images", "steps", "move"] (defScope s_take) := ⟨rfl, rfl, rfl, by decide +kernel, rfl, by decide +kernel, by decide +kernel⟩
theorem ok_take (T : Tx K mg w) (F : Fun K "take" "take" s_take f fd) (D_moved : Df P w K mg base 3 "moved" ["row", "move"] spMoved) : FnOk P w K mg base CX0 4 f fd ["images", "steps", "move"] spTake := by
  refine F.ok sc_take (fun vs H Q E h => ?_) (fun cdv A outer s H vs Q E hr h => ?_)
  · obtain ⟨a, s, v, g, m, rfl, _⟩ := h
    rfl
  · obtain ⟨a, st, v, g, m, rfl, ⟨ne, ⟨us, hus, hu⟩, ⟨ws, hws, hw⟩⟩, l1, l2, hm, ok, k⟩ := h
    have hul := hu.len
    have hwl := hw.len
    refine ⟨_, (pss_cons (ps_expr (pe_bm PySem.F.plainAttrs_list PySem.F.slot_list_append PySem.F.type_list_append mt_append (pv 1) (pa_cons (pv 2) pa_nil)))
  (pss_one (ps_for PassesOwn.never rfl (pi_range1 (by rfl) T.b_range (pa_cons (pe_callB call_lenS (by rfl) T.b_len PySem.boot_len (pa_cons (pv 0) pa_nil)) pa_nil)) (pg_name (i := 3) sc_take.nd rfl (Or.inl rfl))
    (pss_one (ps_asg (pe_fn D_moved (hr.mono (by decide)) (pa_cons (pe_ix ix_list (pv 0) (pv 3) (fun _ _ => rfl)) (pa_cons (pv 2) pa_nil))) (pg_sub (pv 0) (pv 3) set_list)))))),
      st_norm (σ' := [some _, some _, some _, none]) rfl ?_⟩
    walk_at "rd"
    refine rd_app (y := v) hws (by omega) ?_
    have tp0 : Tp H (upd H st (.lst (ws ++ [v]))) := tp_put hws
    have hus1 : upd H st (.lst (ws ++ [v])) a = some (.lst us) := by rw [upd_ne ne]; exact hus
    have hst1 : upd H st (.lst (ws ++ [v])) st = some (.lst (ws ++ [v])) := upd_same
    have kp1 : Keep2 a st H (upd H st (.lst (ws ++ [v]))) := Keep2.putR
    generalize upd H st (.lst (ws ++ [v])) = H1 at *
    walk_at "rd"
    rw [hul]
    refine ⟨_, rfl, by omega, by omega, for_range (lo := 0) (n := g.1.length) (fun i σ H2 => ∃ (x : Option V) (us2 : List V), σ = [some (.ref a), some (.ref st), some v, x] ∧ Keep2 a st H1 H2 ∧ Tp H1 H2 ∧ H2 st = some (.lst (ws ++ [v])) ∧ H2 a = some (.lst us2) ∧
        All2 (IRow H2) us2 ((g.1.take i).map (fun r => moved r m) ++ g.1.drop i))
      ⟨none, us, rfl, Keep2.refl _ _ _, Tp.refl _, hst1, hus1, by simp; exact hu.mono fun _ _ => IRow.mono tp0⟩ ?_ ?_⟩
    · rintro i σ H2 hi ⟨x, us2, rfl, kp2, tp2, hst2, hus2, hu2⟩
      have e0 : (0 : Int) + (i : Int) = (i : Int) := Int.zero_add _
      rw [e0]
      have hul2 := hu2.len
      have hl : ((g.1.take i).map (fun r => moved r m) ++ g.1.drop i).length = g.1.length := by simp; omega
      have er : ((g.1.take i).map (fun r => moved r m) ++ g.1.drop i)[i]? = some g.1[i] := by
        rw [List.getElem?_append_right (by simp; omega), List.length_map, List.length_take, Nat.min_eq_left (by omega), Nat.sub_self, List.getElem?_drop, Nat.add_zero, List.getElem?_eq_getElem hi]
      obtain ⟨u, eu, hrow⟩ := hu2.get' er
      walk_at "rd"
      refine rd_ixL hus2 (atI_nat eu) ?_
      walk_at "rd"
      refine ⟨u, v, _, m, rfl, hrow, hm.mono (tp0.trans tp2), ok, fun p H3 s3 r3 => ?_⟩
      walk_at "rd"
      refine rd_setL (s3 _ _ hus2) (by omega) ?_
      have tp4 := tp_put (us := us2.set i p) (s3 _ _ hus2)
      refine ⟨_, us2.set i p, rfl, kp2.trans ((Keep2.of s3).trans Keep2.putL), tp2.trans ((tp_of s3).trans tp4), ?_, upd_same, ?_⟩
      · rw [upd_ne (Ne.symm ne)]; exact s3 _ _ hst2
      · rw [← set_mid (fun r => moved r m) g.1 i g.1[i] (List.getElem?_eq_getElem hi)]
        exact (hu2.mono fun _ _ q => IRow.mono ((tp_of s3).trans tp4) q).set (r3.mono tp4)
    · rintro σ H2 ⟨x, us2, rfl, kp2, tp2, hst2, hus2, hu2⟩
      refine k H2 (kp1.trans kp2) ⟨ne, ⟨us2, hus2, ?_⟩, ⟨ws ++ [v], hst2, ?_⟩⟩
      · have e : (g.1.take g.1.length).map (fun r => moved r m) ++ g.1.drop g.1.length = (takeS g m).1 := by simp [takeS]
        rw [← e]; exact hu2
      · exact (hw.mono fun _ _ => IMv.mono (tp0.trans tp2)).snoc (hm.mono (tp0.trans tp2))
theorem takeS_len (g : GS) (m : Mv) : (takeS g m).2.length = g.2.length + 1 := by unfold takeS; rw [List.length_append]; rfl
theorem takeS_im (g : GS) (m : Mv) : (takeS g m).1.length = g.1.length := by unfold takeS; rw [List.length_map]
theorem GsAt.row {H : Hp} {a s : Addr} {g : GS} (h : GsAt H a s g) {j : Nat} (hj : j < g.1.length) : ∃ us u, H a = some (.lst us) ∧ us[j]? = some u ∧ IRow H u (lk g.1 j) := by
  obtain ⟨us, hus, hu⟩ := h.im
  obtain ⟨u, eu, hr⟩ := hu.get' (List.getElem?_eq_getElem hj)
  have e : lk g.1 j = g.1[j] := by unfold lk; rw [List.getD_eq_getElem?_getD, List.getElem?_eq_getElem hj]; rfl
  exact ⟨us, u, hus, eu, by rw [e]; exact hr⟩
theorem gB_low {n : Nat} {ms : List Mv} {w at_ t0 : Nat} {P : Prop} {s : GS} (h : GA n ms w at_ (n - w) P t0 s) (ha : at_ < 2 * n) (ha2 : 2 * w ≤ at_) (hw : w < n) (h1 : (lk s.1 at_).x.testBit w = false) :
    (lk s.1 at_).x ≠ 0 ∧ (Mv.two .swap w (lowest (lk s.1 at_).x)).Ok n := by
  have hz : (lk s.1 at_).z = 0 := zero_of_bits (h.g.ok at_ ha).z fun i hi => by
    by_cases q : i < w
    · exact (h.g.low (by omega) ha2 ha q).2
    · exact h.z i (by omega) (by omega)
  have hx : (lk s.1 at_).x ≠ 0 := fun e => h.g.some ha ⟨e, hz⟩
  obtain ⟨l1, l2⟩ := lowest_spec _ hx
  have lw : w < lowest (lk s.1 at_).x := by
    rcases Nat.lt_trichotomy (lowest (lk s.1 at_).x) w with q | q | q
    · rw [(h.g.low (by omega) ha2 ha q).1] at l1; cases l1
    · rw [q, h1] at l1; cases l1
    · exact q
  exact ⟨hx, hw, bit_lt (h.g.ok at_ ha).x l1, by omega⟩
theorem not_bt {n w : Nat} (h : ¬ bt n w = 1) : n.testBit w = false := by
  cases q : n.testBit w
  · rfl
  · exact absurd (bt_one.mpr q) h
theorem not_bt0 {n w : Nat} (h : ¬ bt n w = 0) : n.testBit w = true := by
  cases q : n.testBit w
  · exact absurd (bt_zero.mpr q) h
  · rfl
abbrev s_gather : Stmt := top 27
theorem sc_gather : FnScope ["images", "steps", "at", "wire", "wires", "other", "row", "xs"] ["images", "steps", "at", "wire"] (defScope s_gather) := ⟨rfl, rfl, rfl, by decide +kernel, rfl, by decide +kernel, by decide +kernel⟩
theorem ok_gather (T : Tx K mg w) (F : Fun K "gather" "gather" s_gather f fd) (D_take : Df P w K mg base 4 "take" ["images", "steps", "move"] spTake) (D_lowest : Df P w K mg base 1 "lowest" ["number"] spLowest) : FnOk P w K mg base CX0 5 f fd ["images", "steps", "at", "wire"] spGather := by
  refine F.ok sc_gather (fun vs H Q E h => ?_) (fun cdv A outer s H vs Q E hr h => ?_)
  · obtain ⟨a, s, g, n, w, at_, t0, ms, P, rfl, _⟩ := h
    rfl
  · obtain ⟨a, st, g, n, wi, at_, t0, ms, P, rfl, hG, hg, hz, hp, ha, ha2, hw, h40, hlen, k⟩ := h
    have gl : g.1.length = 2 * n := hg.len
    obtain ⟨us0, hus0, hu0⟩ := hG.im
    have hul0 := hu0.len
    refine ⟨_, (pss_cons (ps_set (i := 4) sc_gather.nd rfl (Or.inl rfl) (pe_op op_divN (pe_callB call_lenS (by rfl) T.b_len PySem.boot_len (pa_cons (pv 0) pa_nil)) (pe_nat 2)))
  (pss_cons (ps_for PassesOwn.never rfl (pi_range2 (by rfl) T.b_range (pa_cons (pv 3) (pa_cons (pv 4) pa_nil))) (pg_name (i := 5) sc_gather.nd rfl (Or.inl rfl))
    (pss_cons (ps_set (i := 6) sc_gather.nd rfl (Or.inl rfl) (pe_ix ix_list (pv 0) (pv 2) (fun _ _ => rfl)))
  (pss_one (ps_if (pt_cmpR op_eqN (pe_op op_andN (pe_op op_shrN (pe_ix ix_tup (pv 6) (pe_nat 2) (fun _ _ => rfl)) (pv 5)) (pe_nat 1)) (pe_nat 1) (nomark _))
    (pss_one (ps_if (pt_cmpR op_eqN (pe_op op_andN (pe_op op_shrN (pe_ix ix_tup (pv 6) (pe_nat 1) (fun _ _ => rfl)) (pv 5)) (pe_nat 1)) (pe_nat 1) (nomark _))
    (pss_one (ps_expr (pe_fn D_take (hr.mono (by decide)) (pa_cons (pv 0) (pa_cons (pv 1) (pa_cons (pe_tup (pa_cons pe_str (pa_cons (pv 5) pa_nil))) pa_nil))))))
    (pss_one (ps_expr (pe_fn D_take (hr.mono (by decide)) (pa_cons (pv 0) (pa_cons (pv 1) (pa_cons (pe_tup (pa_cons pe_str (pa_cons (pv 5) pa_nil))) pa_nil))))))))
    pss_nil))))
  (pss_cons (ps_set (i := 7) sc_gather.nd rfl (Or.inl rfl) (pe_ix ix_tup (pe_ix ix_list (pv 0) (pv 2) (fun _ _ => rfl)) (pe_nat 1) (fun _ _ => rfl)))
  (Evl.pss_cut (ps_if (pt_cmpR op_eqN (pe_op op_andN (pe_op op_shrN (pv 7) (pv 3)) (pe_nat 1)) (pe_nat 0) (nomark _))
    (pss_one (ps_expr (pe_fn D_take (hr.mono (by decide)) (pa_cons (pv 0) (pa_cons (pv 1) (pa_cons (pe_tup (pa_cons pe_str (pa_cons (pv 3) (pa_cons (pe_fn D_lowest (hr.mono (by decide)) (pa_cons (pv 7) pa_nil)) pa_nil)))) pa_nil))))))
    pss_nil)
  (pss_one (ps_for PassesOwn.never rfl (pi_range2 (by rfl) T.b_range (pa_cons (pe_op op_addN (pv 3) (pe_nat 1)) (pa_cons (pv 4) pa_nil))) (pg_name (i := 5) sc_gather.nd rfl (Or.inl rfl))
    (pss_one (ps_if (pt_cmpR op_eqN (pe_op op_andN (pe_op op_shrN (pe_ix ix_tup (pe_ix ix_list (pv 0) (pv 2) (fun _ _ => rfl)) (pe_nat 1) (fun _ _ => rfl)) (pv 5)) (pe_nat 1)) (pe_nat 1) (nomark _))
    (pss_one (ps_expr (pe_fn D_take (hr.mono (by decide)) (pa_cons (pv 0) (pa_cons (pv 1) (pa_cons (pe_tup (pa_cons pe_str (pa_cons (pv 3) (pa_cons (pv 5) pa_nil)))) pa_nil))))))
    pss_nil)))))))),
      st_norm (σ' := [some _, some _, some _, some _, none, none, none, none]) rfl ?_⟩
    walk_at "rd"
    have en : us0.length / 2 = n := by omega
    rw [en]
    have e1 : ∀ (b i : Nat), (b : Int) + (i : Int) = ((b + i : Nat) : Int) := fun b i => (Int.natCast_add b i).symm
    refine ⟨_, _, rfl, ⟨by omega, by omega, by omega, by omega⟩, for_range (lo := (wi : Int)) (n := ((n : Int) - (wi : Int)).toNat) (fun i σ H2 => ∃ x5 x6 : Option V, σ = [some (.ref a), some (.ref st), some (.int (at_ : Int)), some (.int (wi : Int)), some (.int (n : Int)), x5, x6, none] ∧ Keep2 a st H H2 ∧
        GsAt H2 a st (loopS (gatherA at_) wi i g) ∧ (loopS (gatherA at_) wi i g).2.length ≤ g.2.length + i)
      ⟨none, none, rfl, Keep2.refl _ _ _, hG, Nat.le_refl _⟩ ?_ ?_⟩
    · rintro i σ H2 hi ⟨x5, x6, rfl, kp, hG2, hl2⟩
      have hi' : wi + i < n := by omega
      have ga := gatherA_loop (at_ := at_) (P := P) (t0 := t0) ⟨hg, fun v hv hv2 => absurd hv2 (by omega), hz⟩ hp ha i (by omega)
      have eN : loopS (gatherA at_) wi (i + 1) g = gatherA at_ (wi + i) (loopS (gatherA at_) wi i g) := rfl
      rw [eN]
      generalize loopS (gatherA at_) wi i g = g2 at *
      obtain ⟨us, u, hus, eu, ⟨ar, rfl, har⟩⟩ := hG2.row (j := at_) (by rw [ga.g.len]; exact ha)
      rw [e1]
      walk_at "rd"
      refine rd_ixL hus (atI_nat eu) ?_
      walk_at "rd"
      rw [bt_eq]
      unfold gatherA
      have fin : ∀ (q : K1) (H3 : Hp), Keep2 a st H2 H3 → GsAt H3 a st (takeS g2 (.one q (wi + i))) → ∃ x5' x6' : Option V, [some (.ref a), some (.ref st), some (.int (at_ : Int)), some (.int (wi : Int)), some (.int (n : Int)), some (.int ((wi + i : Nat) : Int)), some (.ref ar), none] = [some (.ref a), some (.ref st), some (.int (at_ : Int)), some (.int (wi : Int)), some (.int (n : Int)), x5', x6', none] ∧
          Keep2 a st H H3 ∧ GsAt H3 a st (takeS g2 (.one q (wi + i))) ∧ (takeS g2 (.one q (wi + i))).2.length ≤ g.2.length + (i + 1) := fun q H3 k3 g3 =>
        ⟨_, _, rfl, kp.trans k3, g3, by rw [takeS_len]; omega⟩
      refine rd_dec (fun hb => ?_) (fun hb => ?_)
      · rw [if_pos (bt_one.mp hb)]
        walk_at "rd"
        rw [bt_eq]
        refine rd_dec (fun hb2 => ?_) (fun hb2 => ?_)
        · rw [if_pos (bt_one.mp hb2)]
          walk_at "rd"
          refine ⟨by show 2 ≤ sizeLine; decide, rd_new fun t H3 n3 z3 h3 => ?_⟩
          walk_at "rd"
          refine ⟨a, st, .ref t, g2, .one .quarter (wi + i), rfl, hG2.same z3, by rw [ga.g.len]; omega, by omega, ⟨t, rfl, h3⟩, by show wi + i < 1000; omega, fun H4 k4 g4 => ?_⟩
          exact fin .quarter H4 ((Keep2.of z3).trans k4) g4
        · rw [if_neg (by rw [not_bt hb2]; exact Bool.false_ne_true)]
          walk_at "rd"
          refine ⟨by show 2 ≤ sizeLine; decide, rd_new fun t H3 n3 z3 h3 => ?_⟩
          walk_at "rd"
          refine ⟨a, st, .ref t, g2, .one .mix (wi + i), rfl, hG2.same z3, by rw [ga.g.len]; omega, by omega, ⟨t, rfl, h3⟩, by show wi + i < 1000; omega, fun H4 k4 g4 => ?_⟩
          exact fin .mix H4 ((Keep2.of z3).trans k4) g4
      · rw [if_neg (by rw [not_bt hb]; exact Bool.false_ne_true)]
        walk_at "rd"
        exact ⟨_, _, rfl, kp, hG2, by omega⟩
    · rintro σ H2 ⟨x5, x6, rfl, kp, hG2, hl2⟩
      have eN : ((n : Int) - (wi : Int)).toNat = n - wi := by omega
      rw [eN] at hG2 hl2
      have ga := gatherA_loop (at_ := at_) (P := P) (t0 := t0) ⟨hg, fun v hv hv2 => absurd hv2 (by omega), hz⟩ hp ha (n - wi) (by omega)
      have gb := gatherB_ok ga hp ha ha2 hw
      have low := gB_low ga ha ha2 hw
      have eG : gather n at_ wi g = loopS (gatherC at_ wi) (wi + 1) (n - (wi + 1)) (gatherB at_ wi (loopS (gatherA at_) wi (n - wi) g)) := rfl
      rw [eG] at k
      generalize loopS (gatherA at_) wi (n - wi) g = g2 at *
      obtain ⟨us, u, hus, eu, ⟨ar, rfl, har⟩⟩ := hG2.row (j := at_) (by rw [ga.g.len]; exact ha)
      walk_at "rd"
      refine rd_ixL hus (atI_nat eu) ?_
      walk_at "rd"
      refine rd_cut (fun σ' H3 => σ' = [some (.ref a), some (.ref st), some (.int (at_ : Int)), some (.int (wi : Int)), some (.int (n : Int)), x5, x6, some (.int ((lk g2.1 at_).x : Int))] ∧ Keep2 a st H H3 ∧
        GsAt H3 a st (gatherB at_ wi g2) ∧ (gatherB at_ wi g2).2.length ≤ g.2.length + (n - wi) + 1) ?_ ?_
      · walk_at "rd"
        rw [bt_eq]
        refine rd_dec (fun hb => ?_) (fun hb => ?_)
        · have eB : gatherB at_ wi g2 = takeS g2 (.two .swap wi (lowest (lk g2.1 at_).x)) := by
            unfold gatherB; rw [if_neg (by rw [bt_zero.mp hb]; exact Bool.false_ne_true)]
          obtain ⟨lx, lok⟩ := low (bt_zero.mp hb)
          walk_at "rd"
          refine ⟨_, rfl, lx, ?_⟩
          walk_at "rd"
          refine ⟨by show 3 ≤ sizeLine; decide, rd_new fun t H3 n3 z3 h3 => ?_⟩
          walk_at "rd"
          refine ⟨a, st, .ref t, g2, .two .swap wi (lowest (lk g2.1 at_).x), rfl, hG2.same z3, by rw [ga.g.len]; omega, by omega, ⟨t, rfl, h3⟩, ok1000 (by omega) lok, fun H4 k4 g4 => ?_⟩
          rw [eB]
          exact ⟨rfl, kp.trans ((Keep2.of z3).trans k4), g4, by rw [takeS_len]; omega⟩
        · have eB : gatherB at_ wi g2 = g2 := by
            unfold gatherB; rw [if_pos (not_bt0 hb)]
          walk_at "rd"
          rw [eB]
          exact ⟨rfl, kp, hG2, by omega⟩
      · rintro σ' H3 ⟨rfl, kp3, hG3, hl3⟩
        generalize gatherB at_ wi g2 = g3 at *
        walk_at "rd"
        refine ⟨_, _, rfl, ⟨by omega, by omega, by omega, by omega⟩, for_range (lo := ((wi + 1 : Nat) : Int)) (n := ((n : Int) - ((wi + 1 : Nat) : Int)).toNat) (fun i σ H4 => ∃ x5 x6 : Option V, σ = [some (.ref a), some (.ref st), some (.int (at_ : Int)), some (.int (wi : Int)), some (.int (n : Int)), x5, x6, some (.int ((lk g2.1 at_).x : Int))] ∧ Keep2 a st H H4 ∧
            GsAt H4 a st (loopS (gatherC at_ wi) (wi + 1) i g3) ∧ (loopS (gatherC at_ wi) (wi + 1) i g3).2.length ≤ g.2.length + (n - wi) + 1 + i)
          ⟨_, _, rfl, kp3, hG3, hl3⟩ ?_ ?_⟩
        · rintro i σ H4 hi ⟨x5, x6, rfl, kp4, hG4, hl4⟩
          have hi' : wi + 1 + i < n := by omega
          have gc := gatherC_loop gb ha hw i (by omega)
          have eN : loopS (gatherC at_ wi) (wi + 1) (i + 1) g3 = gatherC at_ wi (wi + 1 + i) (loopS (gatherC at_ wi) (wi + 1) i g3) := rfl
          rw [eN]
          generalize loopS (gatherC at_ wi) (wi + 1) i g3 = g4 at *
          obtain ⟨us4, u4, hus4, eu4, ⟨ar4, rfl, har4⟩⟩ := hG4.row (j := at_) (by rw [gc.g.len]; exact ha)
          rw [e1]
          walk_at "rd"
          refine rd_ixL hus4 (atI_nat eu4) ?_
          walk_at "rd"
          rw [bt_eq]
          unfold gatherC
          refine rd_dec (fun hb => ?_) (fun hb => ?_)
          · rw [if_pos (bt_one.mp hb)]
            walk_at "rd"
            refine ⟨by show 3 ≤ sizeLine; decide, rd_new fun t H5 n5 z5 h5 => ?_⟩
            walk_at "rd"
            refine ⟨a, st, .ref t, g4, .two .join wi (wi + 1 + i), rfl, hG4.same z5, by rw [gc.g.len]; omega, by omega, ⟨t, rfl, h5⟩, ⟨by omega, by omega, by omega⟩, fun H6 k6 g6 => ?_⟩
            exact ⟨_, _, rfl, kp4.trans ((Keep2.of z5).trans k6), g6, by rw [takeS_len]; omega⟩
          · rw [if_neg (by rw [not_bt hb]; exact Bool.false_ne_true)]
            walk_at "rd"
            exact ⟨_, _, rfl, kp4, hG4, by omega⟩
        · rintro σ H4 ⟨x5, x6, rfl, kp4, hG4, hl4⟩
          have eN : ((n : Int) - ((wi + 1 : Nat) : Int)).toNat = n - (wi + 1) := by omega
          rw [eN] at hG4 hl4
          exact k H4 kp4 hG4 (by omega)
theorem eqv_pair (a b c d : Int) : PyData.eqv (.tuple [.int a, .int b]) (.tuple [.int c, .int d]) = (decide (a = c) && decide (b = d)) := by
  show (a == c && (b == d && true)) = _
  rw [Bool.and_true]
  rfl
theorem dp_pair {K : PySem.W.Frag} {H : Hp} {p : Addr} {a b : Int} (h : H p = some (.tup [.int a, .int b])) : Dp K H (.ref p) (.tuple [.int a, .int b]) := .tup (SqT.of h) (.cons (.int a) (.cons (.int b) .nil))
abbrev s_clear_wire : Stmt := top 28
theorem sc_clear_wire : FnScope ["images", "steps", "wire", "one"] ["images", "steps", "wire"] (defScope s_clear_wire) := ⟨rfl, rfl, rfl, by decide +kernel, rfl, by decide +kernel, by decide +kernel⟩
theorem ok_clear_wire (T : Tx K mg w) (F : Fun K "clear_wire" "clear_wire" s_clear_wire f fd) (D_take : Df P w K mg base 4 "take" ["images", "steps", "move"] spTake) (D_gather : Df P w K mg base 5 "gather" ["images", "steps", "at", "wire"] spGather) : FnOk P w K mg base CX0 6 f fd ["images", "steps", "wire"] spClear := by
  refine F.ok sc_clear_wire (fun vs H Q E h => ?_) (fun cdv A outer s H vs Q E hr h => ?_)
  · obtain ⟨a, s, g, n, w, ms, rfl, _⟩ := h
    rfl
  · obtain ⟨a, st, g, n, wi, ms, rfl, hG, hg, hw, h40, hlen, k⟩ := h
    refine ⟨_, (pss_cons (ps_set (i := 3) sc_clear_wire.nd rfl (Or.inl rfl) (pe_op op_mulN (pe_nat 2) (pv 2)))
  (pss_cons (ps_expr (pe_fn D_gather (hr.mono (by decide)) (pa_cons (pv 0) (pa_cons (pv 1) (pa_cons (pv 3) (pa_cons (pv 2) pa_nil))))))
  (Evl.pss_cut (ps_if (pt_cmpR (op_neD hr.units) (pe_slice sl_tup (pe_ix ix_list (pv 0) (pe_op op_addN (pv 3) (pe_nat 1)) (fun _ _ => rfl)) (po_some (pe_nat 1)) po_none) (pe_tup (pa_cons (pe_nat 0) (pa_cons (pe_op op_shlN (pe_nat 1) (pv 2)) pa_nil))) (nomark _))
    (pss_cons (ps_expr (pe_fn D_take (hr.mono (by decide)) (pa_cons (pv 0) (pa_cons (pv 1) (pa_cons (pe_tup (pa_cons pe_str (pa_cons (pv 2) pa_nil))) pa_nil)))))
  (pss_cons (ps_expr (pe_fn D_gather (hr.mono (by decide)) (pa_cons (pv 0) (pa_cons (pv 1) (pa_cons (pe_op op_addN (pv 3) (pe_nat 1)) (pa_cons (pv 2) pa_nil))))))
  (pss_one (ps_expr (pe_fn D_take (hr.mono (by decide)) (pa_cons (pv 0) (pa_cons (pv 1) (pa_cons (pe_tup (pa_cons pe_str (pa_cons (pv 2) pa_nil))) pa_nil))))))))
    pss_nil)
  (Evl.pss_cut (ps_if (pt_cmpR op_eqN (pe_ix ix_tup (pe_ix ix_list (pv 0) (pv 3) (fun _ _ => rfl)) (pe_nat 0) (fun _ _ => rfl)) (pe_nat 2) (nomark _))
    (pss_one (ps_expr (pe_fn D_take (hr.mono (by decide)) (pa_cons (pv 0) (pa_cons (pv 1) (pa_cons (pe_tup (pa_cons pe_str (pa_cons (pv 2) pa_nil))) pa_nil))))))
    pss_nil)
  (pss_one (ps_if (pt_cmpR op_eqN (pe_ix ix_tup (pe_ix ix_list (pv 0) (pe_op op_addN (pv 3) (pe_nat 1)) (fun _ _ => rfl)) (pe_nat 0) (fun _ _ => rfl)) (pe_nat 2) (nomark _))
    (pss_one (ps_expr (pe_fn D_take (hr.mono (by decide)) (pa_cons (pv 0) (pa_cons (pv 1) (pa_cons (pe_tup (pa_cons pe_str (pa_cons (pv 2) pa_nil))) pa_nil))))))
    pss_nil)))))),
      st_norm (σ' := [some _, some _, some _, none]) rfl ?_⟩
    walk_at "rd"
    refine ⟨a, st, g, n, wi, 2 * wi, 0, ms, False, rfl, hG, hg, fun q => q.elim, fun q => q.elim, by omega, by omega, hw, h40, by omega, fun H1 k1 G1 l1 => ?_⟩
    obtain ⟨g1, gx1, gz1, _⟩ := gather_ok (at_ := 2 * wi) (P := False) (t0 := 0) hg (fun q => q.elim) (fun q => q.elim) (by omega) (by omega) hw
    have eC : clearWire n wi g = clearC wi (clearB wi (clearA n wi (gather n (2 * wi) wi g))) := rfl
    rw [eC] at k
    generalize gather n (2 * wi) wi g = s1 at *
    have gA := clearA_ok g1 hw gx1 gz1
    have im1 : s1.1.length = 2 * n := g1.len
    walk_at "rd"
    refine rd_cut (fun σ' H3 => σ' = [some (.ref a), some (.ref st), some (.int (wi : Int)), some (.int ((2 * wi : Nat) : Int))] ∧ Keep2 a st H H3 ∧ GsAt H3 a st (clearA n wi s1) ∧ (clearA n wi s1).2.length ≤ g.2.length + 4 * n + 4) ?_ ?_
    · obtain ⟨us, u, hus, eu, ⟨ar, rfl, har⟩⟩ := G1.row (j := 2 * wi + 1) (by omega)
      walk_at "rd"
      refine rd_ixL hus (atI_nat eu) ?_
      walk_at "rd"
      refine ⟨_, rfl, ar, _, rfl, SqT.of har, (fun z => nomatch z), fun t ht => ?_⟩
      have z2 : Same H1 (upd H1 t (.tup (cutV [V.int ((lk s1.1 (2 * wi + 1)).t : Int), V.int ((lk s1.1 (2 * wi + 1)).x : Int), V.int ((lk s1.1 (2 * wi + 1)).z : Int)] (some ((1 : Nat) : Int)) none))) := same_new ht
      have h2 : upd H1 t (.tup (cutV [V.int ((lk s1.1 (2 * wi + 1)).t : Int), V.int ((lk s1.1 (2 * wi + 1)).x : Int), V.int ((lk s1.1 (2 * wi + 1)).z : Int)] (some ((1 : Nat) : Int)) none)) t = some (.tup [V.int ((lk s1.1 (2 * wi + 1)).x : Int), V.int ((lk s1.1 (2 * wi + 1)).z : Int)]) := upd_same
      generalize upd H1 t _ = H2 at *
      walk_at "rd"
      refine ⟨by show 2 ≤ sizeLine; decide, rd_new fun t3 H3 n3 z3 h3 => ?_⟩
      walk_at "rd"
      refine ⟨_, _, dp_pair (z3 _ _ h2), dp_pair h3, rfl, rfl, ?_⟩
      rw [eqv_pair]
      have kp3 : Keep2 a st H H3 := k1.trans (Keep2.of (z2.trans z3))
      have G3 := G1.same (z2.trans z3)
      refine ⟨_, rfl, ?_⟩
      by_cases c : (lk s1.1 (2 * wi + 1)).x = 0 ∧ (lk s1.1 (2 * wi + 1)).z = 1 <<< wi
      · have eA : clearA n wi s1 = s1 := by unfold clearA; rw [if_pos c]
        rw [c.1, c.2, eA]
        refine rd_bF (by simp) ?_
        walk_at "rd"
        exact ⟨rfl, kp3, G3, by omega⟩
      · have eA : clearA n wi s1 = takeS (gather n (2 * wi + 1) wi (takeS s1 (.one .mix wi))) (.one .mix wi) := by unfold clearA; rw [if_neg c]
        rw [eA]
        have hne : (!(decide (((lk s1.1 (2 * wi + 1)).x : Int) = ((0 : Nat) : Int)) && decide (((lk s1.1 (2 * wi + 1)).z : Int) = ((1 <<< wi : Nat) : Int)))) = true := by
          cases hd : (decide (((lk s1.1 (2 * wi + 1)).x : Int) = ((0 : Nat) : Int)) && decide (((lk s1.1 (2 * wi + 1)).z : Int) = ((1 <<< wi : Nat) : Int)))
          · rfl
          · exfalso
            rw [Bool.and_eq_true, decide_eq_true_eq, decide_eq_true_eq] at hd
            exact c ⟨by omega, by have := hd.2; omega⟩
        refine rd_bT hne ?_
        -- the three steps
        have hl : 2 * wi < s1.1.length := by omega
        have mo : ∀ v ∈ wiresOf (.one .mix wi), wi ≤ v := fun v hv => by rw [wires_one] at hv; rw [List.mem_singleton.mp hv]; omega
        have g2 : Good n ms wi (takeS s1 (.one .mix wi)) := g1.take hw mo (by omega)
        have f2 : Zf wi (lk s1.1 (2 * wi)).t (takeS s1 (.one .mix wi)) := by
          unfold Zf
          rw [lk_take hl]
          refine row_ext ?_ ?_ ?_
          · show ((lk s1.1 (2 * wi)).t + 2 * bt (lk s1.1 (2 * wi)).x wi * bt (lk s1.1 (2 * wi)).z wi) % 4 = _
            rw [gz1]; simp [bt, Nat.mod_eq_of_lt (g1.ok _ (by omega : 2 * wi < 2 * n)).t]
          · show (moved1 _ .mix wi).x = 0
            rw [moved_x1, gx1, gz1, shl_bit, Nat.zero_testBit]; simp [sh_true]
          · show (moved1 _ .mix wi).z = 1 <<< wi
            rw [moved_z1, gx1, gz1, shl_bit, Nat.zero_testBit]; simp [sh_true]
        have tlt := (g1.ok _ (by omega : 2 * wi < 2 * n)).t
        obtain ⟨g3', _, _, _⟩ := gather_ok (at_ := 2 * wi + 1) (P := True) (t0 := (lk s1.1 (2 * wi)).t) g2 (fun _ => f2) (fun _ => ⟨rfl, tlt⟩) (by omega) (by omega) hw
        walk_at "rd"
        refine ⟨by show 2 ≤ sizeLine; decide, rd_new fun t4 H4 n4 z4 h4 => ?_⟩
        walk_at "rd"
        refine ⟨a, st, .ref t4, s1, .one .mix wi, rfl, G3.same z4, by omega, by omega, ⟨t4, rfl, h4⟩, by show wi < 1000; omega, fun H5 k5 G5 => ?_⟩
        have l5 := takeS_len s1 (.one .mix wi)
        generalize takeS s1 (.one .mix wi) = s2 at *
        walk_at "rd"
        refine ⟨a, st, s2, n, wi, 2 * wi + 1, (lk s1.1 (2 * wi)).t, ms, True, rfl, G5, g2, fun _ => f2, fun _ => ⟨rfl, tlt⟩, by omega, by omega, hw, h40, by omega, fun H6 k6 G6 l6 => ?_⟩
        generalize gather n (2 * wi + 1) wi s2 = s3 at *
        walk_at "rd"
        refine ⟨by show 2 ≤ sizeLine; decide, rd_new fun t7 H7 n7 z7 h7 => ?_⟩
        walk_at "rd"
        refine ⟨a, st, .ref t7, s3, .one .mix wi, rfl, G6.same z7, by rw [g3'.len]; omega, by omega, ⟨t7, rfl, h7⟩, by show wi < 1000; omega, fun H8 k8 G8 => ?_⟩
        exact ⟨rfl, kp3.trans ((Keep2.of z4).trans (k5.trans (k6.trans ((Keep2.of z7).trans k8)))), G8, by rw [takeS_len]; omega⟩
    · rintro σ' H3 ⟨rfl, kp3, G3, l3⟩
      generalize clearA n wi s1 = s2 at *
      have im2 := gA.g.len
      obtain ⟨gB, tB⟩ := clearB_ok gA hw
      refine rd_cut (fun σ' H4 => σ' = [some (.ref a), some (.ref st), some (.int (wi : Int)), some (.int ((2 * wi : Nat) : Int))] ∧ Keep2 a st H H4 ∧ GsAt H4 a st (clearB wi s2) ∧ (clearB wi s2).2.length ≤ g.2.length + 4 * n + 5) ?_ ?_
      · obtain ⟨us, u, hus, eu, ⟨ar, rfl, har⟩⟩ := G3.row (j := 2 * wi) (by omega)
        walk_at "rd"
        refine rd_ixL hus (atI_nat eu) ?_
        walk_at "rd"
        refine rd_dec (fun hb => ?_) (fun hb => ?_)
        · have eB : clearB wi s2 = takeS s2 (.one .sign wi) := if_pos hb
          rw [eB]
          walk_at "rd"
          refine ⟨by show 2 ≤ sizeLine; decide, rd_new fun t4 H4 n4 z4 h4 => ?_⟩
          walk_at "rd"
          refine ⟨a, st, .ref t4, s2, .one .sign wi, rfl, G3.same z4, by omega, by omega, ⟨t4, rfl, h4⟩, by show wi < 1000; omega, fun H5 k5 G5 => ?_⟩
          exact ⟨rfl, kp3.trans ((Keep2.of z4).trans k5), G5, by rw [takeS_len]; omega⟩
        · have eB : clearB wi s2 = s2 := if_neg hb
          rw [eB]
          walk_at "rd"
          exact ⟨rfl, kp3, G3, by omega⟩
      · rintro σ' H4 ⟨rfl, kp4, G4, l4⟩
        generalize clearB wi s2 = s4 at *
        have im4 := gB.g.len
        obtain ⟨us, u, hus, eu, ⟨ar, rfl, har⟩⟩ := G4.row (j := 2 * wi + 1) (by omega)
        walk_at "rd"
        refine rd_ixL hus (atI_nat eu) ?_
        walk_at "rd"
        refine rd_dec (fun hb => ?_) (fun hb => ?_)
        · have eB : clearC wi s4 = takeS s4 (.one .flip wi) := if_pos hb
          rw [eB] at k
          walk_at "rd"
          refine ⟨by show 2 ≤ sizeLine; decide, rd_new fun t5 H5 n5 z5 h5 => ?_⟩
          walk_at "rd"
          refine ⟨a, st, .ref t5, s4, .one .flip wi, rfl, G4.same z5, by omega, by omega, ⟨t5, rfl, h5⟩, by show wi < 1000; omega, fun H6 k6 G6 => ?_⟩
          exact k H6 (kp4.trans ((Keep2.of z5).trans k6)) G6 (by rw [takeS_len]; omega)
        · have eB : clearC wi s4 = s4 := if_neg hb
          rw [eB] at k
          walk_at "rd"
          exact k H4 kp4 G4 (by omega)
theorem keep2_same {a s : Addr} {H H1 H2 : Hp} (z : Same H H1) (na : H a = none) (ns : H s = none) (kp : Keep2 a s H1 H2) : Same H H2 := fun b o h =>
  kp b o (z b o h) (ne_of_none h na) (ne_of_none h ns)
abbrev s_fair : Stmt := top 29
theorem sc_fair : FnScope ["wires", "word", "images", "steps", "wire", "move"] ["wires", "word"] (defScope s_fair) := ⟨rfl, rfl, rfl, by decide +kernel, rfl, by decide +kernel, by decide +kernel⟩
theorem ok_fair (T : Tx K mg w) (F : Fun K "fair" "fair" s_fair f fd) (D_doing : Df P w K mg base 4 "doing" ["wires", "word"] spDoing) (D_clear_wire : Df P w K mg base 6 "clear_wire" ["images", "steps", "wire"] spClear) (D_undone : Df P w K mg base 1 "undone" ["move"] spUndone) : FnOk P w K mg base CX0 7 f fd ["wires", "word"] spFair := by
  refine F.ok sc_fair (fun vs H Q E h => ?_) (fun cdv A outer s H vs Q E hr h => ?_)
  · obtain ⟨n, l, ms, rfl, _⟩ := h
    rfl
  · obtain ⟨n, l, ms, rfl, hn, hl, ok, k⟩ := h
    refine ⟨_, (pss_cons (ps_set (i := 2) sc_fair.nd rfl (Or.inl rfl) (pe_fn D_doing (hr.mono (by decide)) (pa_cons (pv 0) (pa_cons (pv 1) pa_nil))))
  (pss_cons (ps_set (i := 3) sc_fair.nd rfl (Or.inl rfl) (pe_lst pa_nil))
  (pss_cons (ps_for PassesOwn.never rfl (pi_range1 (by rfl) T.b_range (pa_cons (pv 0) pa_nil)) (pg_name (i := 4) sc_fair.nd rfl (Or.inl rfl))
    (pss_one (ps_expr (pe_fn D_clear_wire (hr.mono (by decide)) (pa_cons (pv 2) (pa_cons (pv 3) (pa_cons (pv 4) pa_nil)))))))
  (pss_one (ps_ret (pe_lc (own := [("move", 5)]) (g := gName 5) rfl sc_fair.nd (pi_reversed (by rfl) T.b_reversed (pa_cons (pv 3) pa_nil)) (blkOk_by (N := ["wires", "word", "images", "steps", "wire", "move"]) (sc := defScope s_fair) (by decide +kernel)) (fun _ _ _ _ _ => pg_name (i := 5) sc_fair.nd rfl (Or.inl rfl)) (fun _ _ _ _ _ => pts_nil) (fun _ _ _ _ _ => (pe_fn D_undone (hr.mono (by decide)) (pa_cons (pv 5) pa_nil))))))))),
      st_norm (σ' := [some _, some _, none, none, none, none]) rfl ?_⟩
    walk_at "rd"
    refine ⟨n, l, ms, rfl, hn, hl, ok, fun a H1 z1 na him => ?_⟩
    walk_at "rd"
    refine ⟨Nat.zero_le _, rd_new fun st H2 n2 z2 h2 => ?_⟩
    walk_at "rd"
    have hne : a ≠ st := by
      obtain ⟨us, hus, _⟩ := him
      exact ne_of_none hus n2
    have nst : H st = none := z1.free n2
    have G0 : GsAt H2 a st (doing n ms, []) := ⟨hne, him.mono z2, ⟨[], h2, trivial⟩⟩
    refine ⟨_, rfl, by omega, by omega, for_range (lo := 0) (n := n) (fun i σ H3 => ∃ x : Option V, σ = [some (.int (n : Int)), some (.ref l), some (.ref a), some (.ref st), x, none] ∧ Keep2 a st H2 H3 ∧
        GsAt H3 a st (loopS (clearWire n) 0 i (doing n ms, [])) ∧ (loopS (clearWire n) 0 i (doing n ms, [])).2.length ≤ i * (4 * n + 6))
      ⟨none, rfl, Keep2.refl _ _ _, G0, Nat.zero_le _⟩ ?_ ?_⟩
    · rintro i σ H3 hi ⟨x, rfl, kp, G3, l3⟩
      have gg := fair_loop ok i (by omega)
      have e0 : (0 : Int) + (i : Int) = (i : Int) := Int.zero_add _
      rw [e0]
      have eN : loopS (clearWire n) 0 (i + 1) (doing n ms, []) = clearWire n i (loopS (clearWire n) 0 i (doing n ms, [])) := by
        show clearWire n (0 + i) _ = _; rw [Nat.zero_add]
      rw [eN]
      generalize loopS (clearWire n) 0 i (doing n ms, []) = g at *
      have hb : i * (4 * n + 6) ≤ 40 * (4 * 40 + 6) := Nat.mul_le_mul (by omega) (by omega)
      have hsucc : (i + 1) * (4 * n + 6) = i * (4 * n + 6) + (4 * n + 6) := Nat.succ_mul _ _
      walk_at "rd"
      refine ⟨a, st, g, n, i, ms, rfl, G3, gg, hi, hn, by omega, fun H4 k4 G4 l4 => ?_⟩
      exact ⟨_, rfl, kp.trans k4, G4, by omega⟩
    · rintro σ H3 ⟨x, rfl, kp, G3, l3⟩
      have z3 : Same H H3 := keep2_same (z1.trans z2) na nst kp
      have eF : loopS (clearWire n) 0 n (doing n ms, []) = fairS n ms := rfl
      rw [eF] at G3 l3
      have hfair : fair n ms = (fairS n ms).2.reverse.map undone := rfl
      generalize fairS n ms = g at *
      obtain ⟨ws, hws, hw⟩ := G3.st
      have hwl := hw.len
      have hb : n * (4 * n + 6) ≤ 40 * (4 * 40 + 6) := Nat.mul_le_mul (by omega) (by omega)
      walk_at "rd"
      refine ⟨st, ws, rfl, SqL.of hws, fun D hD => lc_map (walk_rev (K := K) (a := st) (xs := ws)) (R := IMv) mMv (g.2.reverse.map undone) (by rw [List.length_map, List.length_reverse, hwl]) hD (by omega) (fun _ => by rfl)
        (fun H4 s4 => SqL.of (s4 _ _ hws)) (fun j x H4 H4' d hj s4 hx ed QQ kq => ?_) (fun H4 us s4 hus hall => ?_)⟩
      · obtain ⟨rfl, ex⟩ := hx
        obtain ⟨m, em, hm⟩ := hw.get ex
        walk_at "rd"
        refine ⟨x, m, rfl, hm.mono (tp_of s4), fun p H5 s5 r5 => kq p H5 s5 ?_⟩
        rw [List.getElem?_map, List.getElem?_reverse (by omega), ← hwl, em] at ed
        have : undone m = d := Option.some.inj ed
        rw [← this]; exact r5
      · refine k D H4 (z3.trans s4) (z3.free hD) ?_ ?_
        · rw [hfair]; exact ⟨us, hus, hall⟩
        · rw [hfair, List.length_map, List.length_reverse]; exact l3
end

/-! ### pulled words -/
section
variable {P : Program} {w : World} {K : PySem.W.Frag} {mg : Str → Option Value} {base : Heap} {f : Addr} {fd : FuncData}
theorem nI_get {ns : List Nat} {i : Nat} {y : V} (h : (nI ns)[i]? = some y) : ∃ k, ns[i]? = some k ∧ y = .int (k : Int) := by
  unfold nI at h
  rw [List.getElem?_map] at h
  cases e : ns[i]? with
  | none => rw [e] at h; cases h
  | some k => rw [e] at h; exact ⟨k, rfl, (Option.some.inj h).symm⟩
theorem nI_len (ns : List Nat) : (nI ns).length = ns.length := List.length_map _
theorem wires_lt' {n : Nat} {m : Mv} (h : m.Ok n) : ∀ v ∈ wiresOf m, v < n := by
  cases m with
  | one q wi => intro v hv; rw [wires_one] at hv; rw [List.mem_singleton.mp hv]; exact h
  | two q wi vi =>
    intro v hv
    by_cases c : wi < vi
    · rw [wires_lt q c] at hv; simp at hv; rcases hv with e | e; rw [e]; exact h.1; rw [e]; exact h.2.1
    · rw [wires_ge q c] at hv; simp at hv; rcases hv with e | e; rw [e]; exact h.2.1; rw [e]; exact h.1
theorem ok1000' {n : Nat} {m : Mv} (hn : n ≤ 1000) (h : m.Ok n) : m.Ok 1000 := by
  cases m with
  | one q wi => have : wi < n := h; show wi < 1000; omega
  | two q wi vi => exact ⟨by have := h.1; omega, by have := h.2.1; omega, h.2.2⟩
theorem foldl_take {α β : Type} (g : β → α → β) (b : β) {l : List α} {i : Nat} {x : α} (h : l[i]? = some x) : (l.take (i + 1)).foldl g b = g ((l.take i).foldl g b) x := by
  rw [List.take_add_one, h, List.foldl_append]; rfl
abbrev s_further : Stmt := top 31
theorem sc_further : FnScope ["images", "move", "back", "found", "wire"] ["images", "move"] (defScope s_further) := ⟨rfl, rfl, rfl, by decide +kernel, rfl, by decide +kernel, by decide +kernel⟩
theorem ok_further (T : Tx K mg w) (F : Fun K "further" "further" s_further f fd) (D_undone : Df P w K mg base 1 "undone" ["move"] spUndone) (D_wires_of : Df P w K mg base 2 "wires_of" ["deed"] spWires)
    (D_moved : Df P w K mg base 3 "moved" ["row", "move"] spMoved) (D_carried : Df P w K mg base 3 "carried" ["images", "row"] spCarried) : FnOk P w K mg base CX0 4 f fd ["images", "move"] spFurther := by
  refine F.ok sc_further (fun vs H Q E h => ?_) (fun cdv A outer s H vs Q E hr h => ?_)
  · obtain ⟨l, im, v, m, n, rfl, _⟩ := h
    rfl
  · obtain ⟨l, im, v, m, n, rfl, ⟨us, hus, hu⟩, him, hn, hm, ok, k⟩ := h
    have hul := hu.len
    have l2n := him.1
    refine ⟨_, (pss_cons (ps_set (i := 2) sc_further.nd rfl (Or.inl rfl) (pe_fn D_undone (hr.mono (by decide)) (pa_cons (pv 1) pa_nil)))
  (pss_cons (ps_set (i := 3) sc_further.nd rfl (Or.inl rfl) (pe_callTy call_listA (by rfl) T.b_list (by decide +kernel) (pa_cons (pv 0) pa_nil)))
  (pss_cons (ps_for PassesOwn.never rfl (pi_list (pe_fn D_wires_of (hr.mono (by decide)) (pa_cons (pv 1) pa_nil))) (pg_name (i := 4) sc_further.nd rfl (Or.inl rfl))
    (pss_cons (ps_asg (pe_fn D_carried (hr.mono (by decide)) (pa_cons (pv 0) (pa_cons (pe_fn D_moved (hr.mono (by decide)) (pa_cons (pe_tup (pa_cons (pe_nat 0) (pa_cons (pe_op op_shlN (pe_nat 1) (pv 4)) (pa_cons (pe_nat 0) pa_nil)))) (pa_cons (pv 2) pa_nil))) pa_nil))) (pg_sub (pv 3) (pe_op op_mulN (pe_nat 2) (pv 4)) set_list))
  (pss_one (ps_asg (pe_fn D_carried (hr.mono (by decide)) (pa_cons (pv 0) (pa_cons (pe_fn D_moved (hr.mono (by decide)) (pa_cons (pe_tup (pa_cons (pe_nat 0) (pa_cons (pe_nat 0) (pa_cons (pe_op op_shlN (pe_nat 1) (pv 4)) pa_nil)))) (pa_cons (pv 2) pa_nil))) pa_nil))) (pg_sub (pv 3) (pe_op op_addN (pe_op op_mulN (pe_nat 2) (pv 4)) (pe_nat 1)) set_list)))))
  (pss_one (ps_ret (pv 3)))))),
      st_norm (σ' := [some _, some _, none, none, none]) rfl ?_⟩
    walk_at "rd"
    refine ⟨v, m, rfl, hm, fun bv H1 z1 hb => ?_⟩
    have hus1 := z1 _ _ hus
    walk_at "rd"
    refine ⟨l, us, rfl, .inl (SqL.of hus1), fun fo nfo => ?_⟩
    have b0 : Bld H1 (upd H1 fo (.lst us)) fo us := Bld.mk0 nfo
    generalize upd H1 fo (.lst us) = H2 at *
    walk_at "rd"
    refine ⟨v, m, rfl, hm.mono (tp_of (z1.trans b0.same)), fun L H3 z3 nL hL => ?_⟩
    have b1 := b0.more z3
    have hLfo : L ≠ fo := (ne_of_none b0.at_ nL).symm
    refine ⟨L, rfl, ⟨_, SqL.of hL⟩, for_list (xs := nI (wiresOf m)) (fun i σ H4 => ∃ (x : Option V) (ws : List V), σ = [some (.ref l), some v, some bv, some (.ref fo), x] ∧ Bld H1 H4 fo ws ∧ H4 L = some (.lst (nI (wiresOf m))) ∧ All2 (IRow H4) ws (((wiresOf m).take i).foldl (furtherAt im m) im))
      ⟨none, us, rfl, b1, hL, hu.mono fun _ _ => IRow.mono (tp_of (z1.trans b1.same))⟩ (fun i σ H4 _ ⟨_, _, _, _, h4, _⟩ => SqL.of h4) ?_ ?_⟩
    · rintro i y σ H4 hi ⟨x, ws, rfl, b4, h4, hw⟩
      obtain ⟨wi, ewi, rfl⟩ := nI_get hi
      have hwi : wi < n := wires_lt' ok wi (List.mem_of_getElem? ewi)
      have hfold : ∀ (l : List Nat) (g : List Row), (l.foldl (furtherAt im m) g).length = g.length := by
        intro l
        induction l with
        | nil => intro g; rfl
        | cons a l ih => intro g; show (l.foldl _ (furtherAt im m g a)).length = _; rw [ih, furtherAt_len]
      have hwl := hw.len
      rw [hfold] at hwl
      have hus4 : H4 l = some (.lst us) := b4.same _ _ hus1
      have hu4 : All2 (IRow H4) us im := hu.mono fun _ _ => IRow.mono (tp_of (z1.trans b4.same))
      have hb4 : IMv H4 bv (undone m) := hb.mono (tp_of b4.same)
      have uok := ok1000' (n := n) (by omega) (undone_ok ok)
      rw [foldl_take _ _ ewi]
      generalize ((wiresOf m).take i).foldl (furtherAt im m) im = cur at *
      walk_at "rd"
      refine ⟨by show 3 ≤ sizeLine; decide, rd_new fun t5 H5 n5 z5 h5 => ?_⟩
      walk_at "rd"
      refine ⟨.ref t5, bv, gen (2 * wi), undone m, rfl, ⟨t5, rfl, by rw [gen_x]; exact h5⟩, hb4.mono (tp_of z5), uok, fun p6 H6 z6 r6 => ?_⟩
      walk_at "rd"
      refine ⟨l, im, p6, _, rfl, ⟨us, z6 _ _ (z5 _ _ hus4), hu4.mono fun _ _ => IRow.mono (tp_of (z5.trans z6))⟩, by omega, r6, fun p7 H7 z7 r7 => ?_⟩
      walk_at "rd"
      have s47 := (z5.trans z6).trans z7
      refine rd_setL (s47 _ _ b4.at_) (by omega) ?_
      have b8 := (b4.more s47).put (us := ws.set (2 * wi) p7)
      have tp8 := tp_put (us := ws.set (2 * wi) p7) (b4.more s47).at_
      have hw8 := (hw.mono fun _ _ => IRow.mono ((tp_of s47).trans tp8)).set (i := 2 * wi) (r7.mono tp8)
      have h48 : upd H7 fo (.lst (ws.set (2 * wi) p7)) L = some (.lst (nI (wiresOf m))) := by rw [upd_ne hLfo]; exact s47 _ _ h4
      have wl8 : (ws.set (2 * wi) p7).length = im.length := by rw [List.length_set, hwl]
      generalize upd H7 fo (.lst (ws.set (2 * wi) p7)) = H8 at *
      generalize ws.set (2 * wi) p7 = ws8 at *
      have hus8 : H8 l = some (.lst us) := b8.same _ _ hus1
      have hu8 : All2 (IRow H8) us im := hu.mono fun _ _ => IRow.mono (tp_of (z1.trans b8.same))
      have hb8 : IMv H8 bv (undone m) := hb.mono (tp_of b8.same)
      walk_at "rd"
      refine ⟨by show 3 ≤ sizeLine; decide, rd_new fun t9 H9 n9 z9 h9 => ?_⟩
      walk_at "rd"
      refine ⟨.ref t9, bv, gen (2 * wi + 1), undone m, rfl, ⟨t9, rfl, by rw [gen_z]; exact h9⟩, hb8.mono (tp_of z9), uok, fun p10 H10 z10 r10 => ?_⟩
      walk_at "rd"
      refine ⟨l, im, p10, _, rfl, ⟨us, z10 _ _ (z9 _ _ hus8), hu8.mono fun _ _ => IRow.mono (tp_of (z9.trans z10))⟩, by omega, r10, fun p11 H11 z11 r11 => ?_⟩
      walk_at "rd"
      have s811 := (z9.trans z10).trans z11
      refine rd_setL (s811 _ _ b8.at_) (by omega) ?_
      have b12 := (b8.more s811).put (us := ws8.set (2 * wi + 1) p11)
      have tp12 := tp_put (us := ws8.set (2 * wi + 1) p11) (b8.more s811).at_
      refine ⟨_, _, rfl, b12, ?_, (hw8.mono fun _ _ => IRow.mono ((tp_of s811).trans tp12)).set (i := 2 * wi + 1) (r11.mono tp12)⟩
      rw [upd_ne hLfo]; exact s811 _ _ h48
    · rintro σ H4 ⟨x, ws, rfl, b4, h4, hw⟩
      walk_at "rd"
      refine k fo H4 (z1.trans b4.same) (z1.free b4.new) ⟨ws, b4.at_, ?_⟩
      rw [List.take_of_length_le (by rw [nI_len]; exact Nat.le_refl _)] at hw
      exact hw
theorem xor_lt1 {m k L : Nat} (h : m < 2 ^ L) (hk : k < L) : m ^^^ (1 <<< k) < 2 ^ L := Nat.xor_lt_two_pow h (by rw [one_shl]; exact sh_lt hk)
theorem maskA_lt {L : Nat} : ∀ (ns : List Nat) (m : Nat), (∀ k ∈ ns, k < L) → m < 2 ^ L → ns.foldl (fun m k => m ^^^ (1 <<< k)) m < 2 ^ L
  | [], _, _, h => h
  | k :: ns, m, hk, h => maskA_lt ns _ (fun x hx => hk x (List.mem_cons_of_mem _ hx)) (xor_lt1 h (hk k List.mem_cons_self))
theorem maskB_lt {L : Nat} (e : Row) : ∀ (st : List (Nat × Row)) (m : Nat), (∀ q ∈ st, q.1 < L) → m < 2 ^ L → maskB st e m < 2 ^ L
  | [], _, _, h => h
  | q :: st, m, hk, h => by
    refine maskB_lt e st _ (fun x hx => hk x (List.mem_cons_of_mem _ hx)) ?_
    show (if crosses q.2 e then m ^^^ (1 <<< q.1) else m) < 2 ^ L
    split
    · exact xor_lt1 h (hk q List.mem_cons_self)
    · exact h
theorem bitLen_le {m L : Nat} (h : m < 2 ^ L) : bitLen m ≤ L := by
  unfold bitLen
  by_cases e : m = 0
  · rw [if_pos e]; omega
  · rw [if_neg e]
    have := (Nat.log2_lt e).mpr h
    omega
theorem test_eq (m i : Nat) : decide (m >>> i &&& 1 = 1) = m.testBit i := by
  rw [bt_eq]
  unfold bt
  cases m.testBit i <;> rfl
abbrev s_pulled_ask : Stmt := top 32
theorem sc_pulled_ask : FnScope ["images", "deed", "strikes", "row", "numbers", "early", "mask", "number", "other", "k"] ["images", "deed", "strikes"] (defScope s_pulled_ask) := ⟨rfl, rfl, rfl, by decide +kernel, rfl, by decide +kernel, by decide +kernel⟩
theorem ok_pulled_ask (T : Tx K mg w) (F : Fun K "pulled_ask" "pulled_ask" s_pulled_ask f fd) (D_carried : Df P w K mg base 3 "carried" ["images", "row"] spCarried) (D_crosses : Df P w K mg base 2 "crosses" ["first", "second"] spCrosses) : FnOk P w K mg base CX0 4 f fd ["images", "deed", "strikes"] spAsk := by
  refine F.ok sc_pulled_ask (fun vs H Q E h => ?_) (fun cdv A outer s H vs Q E hr h => ?_)
  · obtain ⟨l, st, im, v, d, n, L, ss, rfl, _⟩ := h
    rfl
  · obtain ⟨l, st, im, v, d, n, L, ss, rfl, him, imok, hn, hd, hk, ok, hL, hst, hss, k⟩ := h
    refine ⟨_, (Evl.pss_cut (ps_set (i := 3) sc_pulled_ask.nd rfl (Or.inl rfl) (pe_ifExp (pt_cmpR op_eq (pe_ix ix_tup (pv 1) (pe_nat 0) (fun _ _ => rfl)) pe_str (nomark _)) (pe_tup (pa_cons (pe_nat 0) (pa_cons (pe_nat 0) (pa_cons (pe_op op_shlN (pe_nat 1) (pe_ix ix_tup (pv 1) (pe_nat 1) (fun _ _ => rfl))) pa_nil)))) (pe_ix ix_tup (pv 1) (pe_nat 1) (fun _ _ => rfl))))
  (Evl.pss_cut (ps_set (i := 4) sc_pulled_ask.nd rfl (Or.inl rfl) (pe_ifExp (pt_cmpR op_eq (pe_ix ix_tup (pv 1) (pe_nat 0) (fun _ _ => rfl)) pe_str (nomark _)) (pe_tup pa_nil) (pe_ix ix_tup (pv 1) (pe_nat 2) (fun _ _ => rfl))))
  (pss_cons (ps_set (i := 5) sc_pulled_ask.nd rfl (Or.inl rfl) (pe_fn D_carried (hr.mono (by decide)) (pa_cons (pv 0) (pa_cons (pv 3) pa_nil))))
  (pss_cons (ps_set (i := 6) sc_pulled_ask.nd rfl (Or.inr rfl) (pe_nat 0))
  (pss_cons (ps_for PassesOwn.never rfl (pi_tup (pv 4)) (pg_name (i := 7) sc_pulled_ask.nd rfl (Or.inl rfl))
    (pss_one (ps_set (i := 6) sc_pulled_ask.nd rfl (Or.inr rfl) (pe_op op_xorN (pv 6) (pe_op op_shlN (pe_nat 1) (pv 7))))))
  (pss_cons (ps_for PassesOwn.never rfl (pi_list (pv 2)) (pg_tup rfl (pgs_cons (pg_name (i := 7) sc_pulled_ask.nd rfl (Or.inl rfl)) (pgs_cons (pg_name (i := 8) sc_pulled_ask.nd rfl (Or.inl rfl)) pgs_nil)))
    (pss_one (ps_if (pt_val (pe_fn D_crosses (hr.mono (by decide)) (pa_cons (pv 8) (pa_cons (pv 5) pa_nil))))
    (pss_one (ps_set (i := 6) sc_pulled_ask.nd rfl (Or.inr rfl) (pe_op op_xorN (pv 6) (pe_op op_shlN (pe_nat 1) (pv 7)))))
    pss_nil)))
  (pss_one (ps_ret (pe_tup (pa_cons pe_str (pa_cons (pv 5) (pa_cons (pe_callTy call_tupleA (by rfl) T.b_tuple (by decide +kernel) (pa_cons (pe_lc (own := [("k", 9)]) (g := gName 9) rfl sc_pulled_ask.nd (pi_range1 (by rfl) T.b_range (pa_cons (pe_bitsN (pv 6)) pa_nil)) (blkOk_by (N := ["images", "deed", "strikes", "row", "numbers", "early", "mask", "number", "other", "k"]) (sc := defScope s_pulled_ask) (by decide +kernel)) (fun _ _ _ _ _ => pg_name (i := 9) sc_pulled_ask.nd rfl (Or.inl rfl)) (fun _ _ _ _ _ => pts_one (pt_cmpR op_eqN (pe_op op_andN (pe_op op_shrN (pv 6) (pv 9)) (pe_nat 1)) (pe_nat 1) (nomark _))) (fun _ _ _ _ _ => (pv 9))) pa_nil)) pa_nil)))))))))))),
      st_norm (σ' := [some _, some _, some _, none, none, none, none, none, none, none]) rfl ?_⟩
    have hcase : (∃ wi a, d = .look wi ∧ v = .ref a ∧ H a = some (.tup [.str "look", .int (wi : Int)]) ∧ wi ≤ 1000) ∨ ∃ r ns a x y, d = .ask r ns ∧ v = .ref a ∧ H a = some (.tup [.str "ask", x, y]) ∧ IRow H x r ∧ ITup H y ns := by
      cases d with
      | mv m => cases hk
      | strk kk r => cases hk
      | look wi =>
        obtain ⟨a, e, h⟩ := hd
        have : wi < n := ok
        exact .inl ⟨wi, a, rfl, e, h, by omega⟩
      | ask r ns => obtain ⟨a, x, y, e, h, h1, h2⟩ := hd; exact .inr ⟨r, ns, a, x, y, rfl, e, h, h1, h2⟩
    have hns : ∀ k ∈ (askOf d).2, k < L := by
      rcases hcase with ⟨wi, a, rfl, _⟩ | ⟨r, ns, a, x, y, rfl, _⟩
      · intro k hk; cases hk
      · exact ok.2
    refine rd_cut (fun σ' H1 => ∃ rv, σ' = [some (.ref l), some v, some (.ref st), some rv, none, none, none, none, none, none] ∧ Same H H1 ∧ IRow H1 rv (askOf d).1) ?_ ?_
    · rcases hcase with ⟨wi, a, rfl, rfl, ha, hwi⟩ | ⟨r, ns, a, x, y, rfl, rfl, ha, hx, hy⟩
      · walk_at "rd"
        refine ⟨by show 3 ≤ sizeLine; decide, rd_new fun t H1 n1 z1 h1 => ?_⟩
        walk_at "rd"
        exact ⟨.ref t, rfl, z1, ⟨t, rfl, h1⟩⟩
      · walk_at "rd"
        exact ⟨x, rfl, Same.refl _, hx⟩
    · rintro σ' H1 ⟨rv, rfl, z1, hrv⟩
      refine rd_cut (fun σ' H2 => ∃ nv, σ' = [some (.ref l), some v, some (.ref st), some rv, some nv, none, none, none, none, none] ∧ Same H H2 ∧ IRow H2 rv (askOf d).1 ∧ ITup H2 nv (askOf d).2) ?_ ?_
      · rcases hcase with ⟨wi, a, rfl, rfl, ha, hwi⟩ | ⟨r, ns, a, x, y, rfl, rfl, ha, hx, hy⟩
        · have ha1 := z1 _ _ ha
          walk_at "rd"
          refine ⟨Nat.zero_le _, rd_new fun t H2 n2 z2 h2 => ?_⟩
          walk_at "rd"
          exact ⟨.ref t, rfl, z1.trans z2, hrv.mono (tp_of z2), ⟨t, rfl, h2⟩⟩
        · have ha1 := z1 _ _ ha
          walk_at "rd"
          exact ⟨y, rfl, z1, hrv, hy.mono (tp_of z1)⟩
      · rintro σ' H2 ⟨nv, rfl, z2, hrv2, hnv⟩
        generalize hr1 : (askOf d).1 = r at *
        generalize hn1 : (askOf d).2 = ns at *
        walk_at "rd"
        refine ⟨l, im, rv, r, rfl, him.mono z2, by have := imok.1; omega, hrv2, fun ev H3 z3 he => ?_⟩
        generalize hE : carried im r = er at *
        obtain ⟨na, rfl, hna⟩ := hnv.mono (tp_of z3)
        walk_at "rd"
        refine ⟨na, rfl, ⟨_, SqT.of hna⟩, for_tup (xs := nI ns) (fun i σ H4 => ∃ x, H4 = H3 ∧ σ = [some (.ref l), some v, some (.ref st), some rv, some (.ref na), some ev, some (.int (((ns.take i).foldl (fun m k => m ^^^ (1 <<< k)) 0 : Nat) : Int)), x, none, none])
          ⟨none, rfl, rfl⟩ (fun i σ H4 _ ⟨_, e, _⟩ => by subst e; exact SqT.of hna) ?_ ?_⟩
        · rintro i y σ H4 hi ⟨x, rfl, rfl⟩
          obtain ⟨kk, ek, rfl⟩ := nI_get hi
          have hkk := hns kk (List.mem_of_getElem? ek)
          rw [foldl_take _ _ ek]
          generalize (ns.take i).foldl (fun m k => m ^^^ (1 <<< k)) 0 = mm at *
          walk_at "rd"
          exact ⟨_, rfl, rfl⟩
        · rintro σ H4 ⟨x, rfl, rfl⟩
          rw [List.take_of_length_le (by rw [nI_len]; exact Nat.le_refl _)]
          have hm0 : ns.foldl (fun m k => m ^^^ (1 <<< k)) 0 = maskA ns := rfl
          rw [hm0]
          have eP : pulledAsk im r ns ss = .ask er (bitsOf (maskB ss er (maskA ns))) := by unfold pulledAsk; rw [hE]
          rw [eP] at k
          have lt0 : maskA ns < 2 ^ L := maskA_lt ns 0 hns (Nat.two_pow_pos L)
          generalize maskA ns = m0 at *
          have z4 := z2.trans z3
          obtain ⟨vs, hvs, hall⟩ := hst.mono z4
          walk_at "rd"
          refine ⟨st, rfl, ⟨vs, SqL.of hvs⟩, for_list (xs := vs) (fun i σ H5 => ∃ x8 x9, H5 = H4 ∧ σ = [some (.ref l), some v, some (.ref st), some rv, some (.ref na), some ev, some (.int ((maskB (ss.take i) er m0 : Nat) : Int)), x8, x9, none])
            ⟨_, _, rfl, rfl⟩ (fun i σ H5 _ ⟨_, _, e, _⟩ => by subst e; exact SqL.of hvs) ?_ ?_⟩
          · rintro i y σ H5 hi ⟨x8, x9, rfl, rfl⟩
            obtain ⟨p, ep, ⟨a, x, rfl, ha, hx⟩⟩ := hall.get hi
            have hp1 := hss p (List.mem_of_getElem? ep)
            have efold : maskB (ss.take (i + 1)) er m0 = if crosses p.2 er then maskB (ss.take i) er m0 ^^^ (1 <<< p.1) else maskB (ss.take i) er m0 := by
              unfold maskB; rw [foldl_take _ _ ep]
            rw [efold]
            generalize maskB (ss.take i) er m0 = mm at *
            walk_at "rd"
            refine ⟨x, ev, p.2, er, rfl, hx, he, ?_⟩
            walk_at "rd"
            refine rd_ite (fun hc => ?_) (fun hc => ?_)
            · rw [if_pos hc]
              walk_at "rd"
              exact ⟨_, _, rfl, rfl⟩
            · rw [if_neg (by rw [hc]; exact Bool.false_ne_true)]
              walk_at "rd"
              exact ⟨_, _, rfl, rfl⟩
          · rintro σ H5 ⟨x8, x9, rfl, rfl⟩
            rw [List.take_of_length_le (by rw [hall.len]; exact Nat.le_refl _)]
            have lt1 := maskB_lt er ss m0 hss lt0
            generalize hmm : maskB ss er m0 = mm at *
            walk_at "rd"
            have hbl := bitLen_le lt1
            refine ⟨mm, rfl, ?_⟩
            refine ⟨_, rfl, by omega, by omega, fun D hD => lc_filter (n := bitLen mm) (fun k => mm.testBit k) hD (by omega) (fun _ => by rfl) (fun i H6 hi B hB => ?_) (fun i H6 hi QQ hQ => ?_) (fun H6 z6 h6 => ?_)⟩
            · walk_at "rd"
              rw [test_eq]
              exact hB
            · walk_at "rd"
              exact hQ
            · refine ⟨D, _, rfl, SqL.of h6, rd_new fun t7 H7 n7 z7 h7 => ?_⟩
              walk_at "rd"
              refine ⟨by show 3 ≤ sizeLine; decide, rd_new fun t8 H8 n8 z8 h8 => ?_⟩
              walk_at "rd"
              have z58 := (z6.trans z7).trans z8
              exact k (.ref t8) H8 (z4.trans z58) ⟨t8, ev, .ref t7, rfl, h8, he.mono (tp_of z58), ⟨t7, rfl, z8 _ _ h7⟩⟩
end

/-! ### joined whens -/
section
variable {P : Program} {w : World} {K : PySem.W.Frag} {mg : Str → Option Value} {base : Heap} {f : Addr} {fd : FuncData}
def IEnt (H : Hp) (kv : Key × V) (p : Nat × Row) : Prop := kv.1 = Sum.inl (p.1 : Int) ∧ IRow H kv.2 p.2
theorem mEnt : ∀ (H H' : Hp) (kv : Key × V) (p : Nat × Row), Tp H H' → IEnt H kv p → IEnt H' kv p := fun _ _ _ _ s h => ⟨h.1, h.2.mono s⟩
theorem key_iff {i : Nat} {k : Nat} {kk : Key} (h : kk = Sum.inl (i : Int)) : (kk = Sum.inl (k : Int)) ↔ i = k := by
  subst h
  constructor
  · intro e; have := Sum.inl.inj e; omega
  · intro e; subst e; rfl
theorem val_get {H : Hp} {z : V} (hz : IRow H z ⟨0, 0, 0⟩) (k : Nat) : ∀ {kvs : List (Key × V)} {d : List (Nat × Row)}, All2 (IEnt H) kvs d → IRow H ((valV kvs (Sum.inl (k : Int))).getD z) (getA d k)
  | [], [], _ => hz
  | kv :: kvs, p :: d, h => by
    rw [getA_cons]
    by_cases e : p.1 = k
    · rw [if_pos e, valV_pos ((key_iff h.1.1).mpr e)]; exact h.1.2
    · rw [if_neg e, valV_neg fun q => e ((key_iff h.1.1).mp q)]; exact val_get hz k h.2
theorem val_some {H : Hp} (k : Nat) : ∀ {kvs : List (Key × V)} {d : List (Nat × Row)}, All2 (IEnt H) kvs d → k ∈ d.map (·.1) → ∃ v, valV kvs (Sum.inl (k : Int)) = some v ∧ IRow H v (getA d k)
  | [], [], _, h => by simp at h
  | kv :: kvs, p :: d, h, hk => by
    rw [getA_cons]
    by_cases e : p.1 = k
    · rw [if_pos e, valV_pos ((key_iff h.1.1).mpr e)]; exact ⟨_, rfl, h.1.2⟩
    · rw [if_neg e, valV_neg fun q => e ((key_iff h.1.1).mp q)]
      rw [List.map_cons] at hk
      rcases List.mem_cons.mp hk with q | q
      · exact absurd q.symm e
      · exact val_some k h.2 q
theorem any_rel {H : Hp} (k : Nat) : ∀ {kvs : List (Key × V)} {d : List (Nat × Row)}, All2 (IEnt H) kvs d → (kvs.any fun kv => decide (kv.1 = Sum.inl (k : Int))) = d.any fun kv => decide (kv.1 = k)
  | [], [], _ => rfl
  | kv :: kvs, p :: d, h => by
    rw [List.any_cons, List.any_cons, any_rel k h.2]
    congr 1
    by_cases e : p.1 = k
    · rw [decide_eq_true e, decide_eq_true ((key_iff h.1.1).mpr e)]
    · rw [decide_eq_false e, decide_eq_false fun q => e ((key_iff h.1.1).mp q)]
theorem map_rel {H : Hp} {v : V} {r : Row} (k : Nat) (hv : IRow H v r) : ∀ {kvs : List (Key × V)} {d : List (Nat × Row)}, All2 (IEnt H) kvs d →
    All2 (IEnt H) (kvs.map fun kv => if kv.1 = Sum.inl (k : Int) then (kv.1, v) else kv) (d.map fun kv => if kv.1 = k then (kv.1, r) else kv)
  | [], [], _ => trivial
  | kv :: kvs, p :: d, h => by
    rw [List.map_cons, List.map_cons]
    refine ⟨?_, map_rel k hv h.2⟩
    by_cases e : p.1 = k
    · rw [if_pos e, if_pos ((key_iff h.1.1).mpr e)]; exact ⟨h.1.1, hv⟩
    · rw [if_neg e, if_neg fun q => e ((key_iff h.1.1).mp q)]; exact h.1
theorem put_rel {H : Hp} {v : V} {r : Row} (k : Nat) (hv : IRow H v r) {kvs : List (Key × V)} {d : List (Nat × Row)} (h : All2 (IEnt H) kvs d) : All2 (IEnt H) (putK kvs (Sum.inl (k : Int)) v) (putA d k r) := by
  unfold putK putA
  rw [any_rel k h]
  split
  · exact map_rel k hv h
  · exact h.append ⟨⟨rfl, hv⟩, trivial⟩
theorem keys_rel {H : Hp} : ∀ {kvs : List (Key × V)} {d : List (Nat × Row)}, All2 (IEnt H) kvs d → kvs.map (·.1) = ((d.map (·.1)).map fun k : Nat => (k : Int)).map Sum.inl
  | [], [], _ => rfl
  | kv :: kvs, p :: d, h => by
    rw [List.map_cons, List.map_cons, List.map_cons, List.map_cons, keys_rel h.2, h.1.1]
theorem tp_putD {H : Hp} {a : Addr} {kvs us : List (Key × V)} (h : H a = some (.dK kvs)) : Tp H (upd H a (.dK us)) := fun b xs e => by
  rw [upd_ne]
  · exact e
  · intro q; subst q; rw [h] at e; cases e
theorem putA_len (d : List (Nat × Row)) (k : Nat) (r : Row) : (putA d k r).length ≤ d.length + 1 := by
  unfold putA
  split
  · rw [List.length_map]; omega
  · rw [List.length_append]; simp
abbrev s_joined_whens : Stmt := top 33
theorem sc_joined_whens : FnScope ["strikes", "rows", "number", "row", "whens", "turn", "xs", "zs"] ["strikes"] (defScope s_joined_whens) := ⟨rfl, rfl, rfl, by decide +kernel, rfl, by decide +kernel, by decide +kernel⟩
theorem ok_joined_whens (T : Tx K mg w) (F : Fun K "joined_whens" "joined_whens" s_joined_whens f fd) (D_product : Df P w K mg base 2 "product" ["first", "second"] spProduct) (D_signed_row : Df P w K mg base 2 "signed_row" ["minus_sign", "xs", "zs"] spSigned) : FnOk P w K mg base CX0 3 f fd ["strikes"] spJoined := by
  refine F.ok sc_joined_whens (fun vs H Q E h => ?_) (fun cdv A outer s H vs Q E hr h => ?_)
  · obtain ⟨st, ss, rfl, _⟩ := h
    rfl
  · obtain ⟨st, ss, rfl, ⟨vs, hvs, hall⟩, hlen, k⟩ := h
    have hvl := hall.len
    refine ⟨_, (pss_cons (ps_set (i := 1) sc_joined_whens.nd rfl (Or.inl rfl) pe_dnewA)
  (pss_cons (ps_for PassesOwn.never rfl (pi_list (pv 0)) (pg_tup rfl (pgs_cons (pg_name (i := 2) sc_joined_whens.nd rfl (Or.inl rfl)) (pgs_cons (pg_name (i := 3) sc_joined_whens.nd rfl (Or.inl rfl)) pgs_nil)))
    (pss_one (ps_dput (hu_of hr) (pv 1) (pv 2) (pe_fn D_product (hr.mono (by decide)) (pa_cons (pe_dget2 (hu_of hr) (pv 1) (pv 2) (pe_tup (pa_cons (pe_nat 0) (pa_cons (pe_nat 0) (pa_cons (pe_nat 0) pa_nil)))) ⟨by rfl, by rfl, by rfl, by rfl⟩) (pa_cons (pv 3) pa_nil))) rfl)))
  (pss_cons (ps_set (i := 4) sc_joined_whens.nd rfl (Or.inl rfl) (pe_lst pa_nil))
  (pss_cons (ps_for PassesOwn.never rfl (pi_list (pe_callB (call_sortedDI rfl) (by rfl) T.b_sorted (by decide +kernel) (pa_cons (pv 1) pa_nil))) (pg_name (i := 2) sc_joined_whens.nd rfl (Or.inl rfl))
    (pss_cons (ps_asg (pe_dget (hu_of hr) (pv 1) (pv 2) (fun _ _ => rfl)) (pg_tup rfl (pgs_cons (pg_name (i := 5) sc_joined_whens.nd rfl (Or.inl rfl)) (pgs_cons (pg_name (i := 6) sc_joined_whens.nd rfl (Or.inl rfl)) (pgs_cons (pg_name (i := 7) sc_joined_whens.nd rfl (Or.inl rfl)) pgs_nil)))))
  (pss_one (ps_if (pt_cmpR op_neN (pe_op op_orN (pv 6) (pv 7)) (pe_nat 0) (nomark _))
    (pss_one (ps_expr (pe_bm PySem.F.plainAttrs_list PySem.F.slot_list_append PySem.F.type_list_append mt_append (pv 4) (pa_cons (pe_tup (pa_cons pe_str (pa_cons (pv 2) (pa_cons (pe_fn D_signed_row (hr.mono (by decide)) (pa_cons pe_bl (pa_cons (pv 6) (pa_cons (pv 7) pa_nil)))) pa_nil)))) pa_nil))))
    pss_nil))))
  (pss_one (ps_ret (pv 4))))))),
      st_norm (σ' := [some _, none, none, none, none, none, none, none]) rfl ?_⟩
    walk_at "rd"
    refine rd_new fun dd H1 n1 z1 h1 => ?_
    walk_at "rd"
    let step : List (Nat × Row) → Nat × Row → List (Nat × Row) := fun d p => putA d p.1 (product (getA d p.1) p.2)
    refine ⟨st, rfl, ⟨vs, SqL.of (z1 _ _ hvs)⟩, for_list (xs := vs) (fun i σ H2 => ∃ x2 x3 kvs, σ = [some (.ref st), some (.ref dd), x2, x3, none, none, none, none] ∧ Same H H2 ∧ H2 dd = some (.dK kvs) ∧ All2 (IEnt H2) kvs ((ss.take i).foldl step []) ∧ kvs.length ≤ i)
      ⟨none, none, [], rfl, z1, h1, trivial, Nat.zero_le _⟩ (fun i σ H2 _ ⟨_, _, _, _, z, _⟩ => SqL.of (z _ _ hvs)) ?_ ?_⟩
    · rintro i y σ H2 hi ⟨x2, x3, kvs, rfl, z2, h2, hd, hl⟩
      obtain ⟨p, ep, ⟨a, x, rfl, ha, hx⟩⟩ := hall.get hi
      have hi' := (List.getElem?_eq_some_iff.mp hi).1
      have ha2 := z2 _ _ ha
      have hx2 := hx.mono (tp_of z2)
      rw [foldl_take _ _ ep]
      generalize (ss.take i).foldl step [] = d at *
      walk_at "rd"
      refine ⟨dd, rfl, .inl ⟨kvs, .inl h2⟩, ?_⟩
      walk_at "rd"
      refine ⟨by show 3 ≤ sizeLine; decide, rd_new fun t3 H3 n3 z3 h3 => ?_⟩
      walk_at "rd"
      refine ⟨_, DGet.k (k := Sum.inl (p.1 : Int)) (z3 _ _ h2), ?_⟩
      have hd3 : All2 (IEnt H3) kvs d := hd.mono fun _ _ => mEnt _ _ _ _ (tp_of z3)
      have hg := val_get (z := .ref t3) ⟨t3, rfl, h3⟩ p.1 hd3
      walk_at "rd"
      refine ⟨_, x, _, p.2, rfl, hg, hx2.mono (tp_of z3), fun p4 H4 z4 r4 => ?_⟩
      walk_at "rd"
      have hd4 := z4 _ _ (z3 _ _ h2)
      refine ⟨dd, _, rfl, DPut.k (k := Sum.inl (p.1 : Int)) hd4 (Nat.lt_of_lt_of_le (show kvs.length < 1000 by omega) (by decide)), ?_⟩
      have tp5 := tp_putD (us := putK kvs (Sum.inl (p.1 : Int)) p4) hd4
      refine ⟨_, _, _, rfl, fun c o hc => ?_, upd_same, ?_, ?_⟩
      · rw [upd_ne (ne_of_none hc n1)]; exact z4 _ _ (z3 _ _ (z2 _ _ hc))
      · exact put_rel p.1 (r4.mono tp5) (hd3.mono fun _ _ => mEnt _ _ _ _ ((tp_of z4).trans tp5))
      · unfold putK
        split
        · rw [List.length_map]; omega
        · rw [List.length_append]; simp; omega
    · rintro σ H2 ⟨x2, x3, kvs, rfl, z2, h2, hd, hl⟩
      rw [List.take_of_length_le (by omega)] at hd
      have eD : ss.foldl step [] = joinD ss := rfl
      rw [eD] at hd
      generalize joinD ss = d at *
      have hdl := hd.len
      walk_at "rd"
      refine ⟨Nat.zero_le _, fun wl nwl => ?_⟩
      have b3 : Bld H2 (upd H2 wl (.lst [])) wl [] := Bld.mk0 nwl
      generalize upd H2 wl (.lst []) = H3 at *
      walk_at "rd"
      have h3 := b3.same _ _ h2
      refine ⟨dd, kvs, _, rfl, .inl h3, keys_rel hd, by rw [List.length_map, List.length_map]; omega, fun ys p hperm hpw np => ?_⟩
      have zp : Same H3 (upd H3 p (.lst (ys.map V.int))) := same_new np
      have hp4 : upd H3 p (.lst (ys.map V.int)) p = some (.lst (ys.map V.int)) := upd_same
      have hpw' : p ≠ wl := (ne_of_none b3.at_ np).symm
      generalize upd H3 p (.lst (ys.map V.int)) = H4 at *
      have b4 := b3.more zp
      -- the keys are whole numbers from 0 on
      have hnat : ys = (ys.map Int.toNat).map fun k : Nat => (k : Int) := by
        rw [List.map_map]
        have : ∀ y ∈ ys, ((fun k : Nat => (k : Int)) ∘ Int.toNat) y = y := fun y hy => by
          have hm := hperm.mem_iff.mp hy
          obtain ⟨k', _, e⟩ := List.mem_map.mp hm
          rw [← e]; rfl
        rw [List.map_congr_left this]; simp
      have hperm2 : (ys.map Int.toNat).Perm (d.map (·.1)) := by
        have := hperm.map Int.toNat
        rw [List.map_map] at this
        have e : List.map (Int.toNat ∘ fun k : Nat => (k : Int)) (d.map (·.1)) = d.map (·.1) := by
          have : (Int.toNat ∘ fun k : Nat => (k : Int)) = id := by funext z; rfl
          rw [this]; simp
        rw [e] at this
        exact this
      generalize ys.map Int.toNat = ks at *
      have hys : ys.map V.int = nI ks := by rw [hnat, List.map_map]; rfl
      rw [hys] at hp4
      have hksl : ks.length ≤ 63 := by rw [hperm2.length_eq, List.length_map]; omega
      walk_at "rd"
      refine ⟨p, rfl, ⟨_, SqL.of hp4⟩, for_list (xs := nI ks) (fun i σ H5 => ∃ x2 x3 x5 x6 x7 ws, σ = [some (.ref st), some (.ref dd), x2, x3, some (.ref wl), x5, x6, x7] ∧ Bld H2 H5 wl ws ∧ H5 p = some (.lst (nI ks)) ∧ H5 dd = some (.dK kvs) ∧ All2 (IDeed H5) ws ((ks.take i).flatMap (whenOf d)) ∧ ws.length ≤ i)
        ⟨_, _, _, _, _, [], rfl, b4, hp4, zp _ _ h3, trivial, Nat.zero_le _⟩ (fun i σ H5 _ ⟨_, _, _, _, _, _, _, _, h5, _⟩ => SqL.of h5) ?_ ?_⟩
      · rintro i y σ H5 hi ⟨x2, x3, x5, x6, x7, ws, rfl, b5, hp5, hd5, hw, hwl⟩
        obtain ⟨kk, ek, rfl⟩ := nI_get hi
        have hi' : i < ks.length := (List.getElem?_eq_some_iff.mp ek).1
        have hmem : kk ∈ d.map (·.1) := hperm2.mem_iff.mp (List.mem_of_getElem? ek)
        have hd55 : All2 (IEnt H5) kvs d := hd.mono fun _ _ => mEnt _ _ _ _ (tp_of b5.same)
        obtain ⟨v, ev, ⟨ar, rfl, har⟩⟩ := val_some kk hd55 hmem
        have etake : (ks.take (i + 1)).flatMap (whenOf d) = (ks.take i).flatMap (whenOf d) ++ whenOf d kk := by
          rw [List.take_add_one, ek, List.flatMap_append]; simp
        rw [etake]
        walk_at "rd"
        refine ⟨dd, .ref ar, rfl, ?_, ?_⟩
        · rw [← ev]; exact DGet.k (k := Sum.inl (kk : Int)) hd5
        walk_at "rd"
        unfold whenOf
        generalize hr : getA d kk = r at *
        by_cases c : r.x ||| r.z = 0
        · rw [if_pos c]
          refine rd_bF (by rw [decide_eq_true c]; rfl) ?_
          walk_at "rd"
          refine ⟨_, _, _, _, _, ws, rfl, b5, hp5, hd5, by rw [List.append_nil]; exact hw, by omega⟩
        · rw [if_neg c]
          refine rd_bT (by rw [decide_eq_false c]; rfl) ?_
          have hat := b5.at_
          walk_at "rd"
          refine ⟨_, _, rfl, fun p6 H6 z6 r6 => ?_⟩
          walk_at "rd"
          refine ⟨by show 3 ≤ sizeLine; decide, rd_new fun t7 H7 n7 z7 h7 => ?_⟩
          walk_at "rd"
          obtain ⟨b8, hw8⟩ := Bld.push mDeed b5 hw (z6.trans z7) (y := .ref t7) (d := .strk kk (signedRow r.x r.z)) ⟨t7, p6, rfl, h7, r6.mono (tp_of z7)⟩
          refine rd_app ((z6.trans z7) _ _ hat) (by omega) ?_
          refine ⟨_, _, _, _, _, _, rfl, b8, ?_, ?_, hw8, by rw [List.length_append]; simp; omega⟩
          · rw [upd_ne hpw']; exact (z6.trans z7) _ _ hp5
          · rw [upd_ne (ne_of hd5 hat (by intro q; cases q))]; exact (z6.trans z7) _ _ hd5
      · rintro σ H5 ⟨x2, x3, x5, x6, x7, ws, rfl, b5, hp5, hd5, hw, hwl⟩
        walk_at "rd"
        rw [List.take_of_length_le (by rw [nI_len]; exact Nat.le_refl _)] at hw
        exact k ks wl H5 (z2.trans b5.same) (z2.free b5.new) hperm2 ⟨ws, b5.at_, hw⟩
end

/-! ### pulled -/
structure PF (n L : Nat) (p : PSt) : Prop where
  imok : ImOk n p.im
  ms : MsOk n p.moves
  st : ∀ q ∈ p.strikes, q.1 < L ∧ q.2.Ok n
  aok : WOk n 0 p.asks
  asum : (p.asks.map Deed.looks).sum = L
theorem pf_ask {n L : Nat} {p : PSt} (h : PF n L p) {r : Row} (hr : r.Ok n) {ns : List Nat} (hns : ∀ k ∈ ns, k < L) : PF n (L + 1) ⟨p.im, p.asks ++ [pulledAsk p.im r ns p.strikes], p.strikes, p.moves⟩ where
  imok := h.imok
  ms := h.ms
  st := fun q hq => ⟨by have := (h.st q hq).1; omega, (h.st q hq).2⟩
  aok := by
    refine wok_append h.aok ?_
    rw [h.asum, Nat.zero_add]
    refine ⟨⟨carried_ok h.imok hr, fun k hk => ?_⟩, trivial⟩
    have lt := maskB_lt (carried p.im r) p.strikes (maskA ns) (fun q hq => (h.st q hq).1) (maskA_lt ns 0 hns (Nat.two_pow_pos L))
    unfold bitsOf at hk
    exact bit_lt lt (List.mem_filter.mp hk).2
  asum := by
    show ((p.asks ++ [_]).map Deed.looks).sum = _
    rw [List.map_append, List.sum_append, h.asum]; rfl
theorem pf_step {n L : Nat} {p : PSt} (h : PF n L p) {d : Deed} (hd : d.Ok n L) : PF n (L + d.looks) (pullStep p d) := by
  cases d with
  | mv m => exact ⟨further_ok h.imok hd, h.ms.append fun x hx => by rw [List.mem_singleton.mp hx]; exact hd, h.st, h.aok, h.asum⟩
  | look wi =>
    have hw : wi < n := hd
    exact pf_ask h (r := ⟨0, 0, 1 <<< wi⟩) ⟨Nat.zero_lt_succ 3, Nat.two_pow_pos n, by rw [one_shl]; exact sh_lt hw⟩ (fun k hk => by cases hk)
  | ask r ns => exact pf_ask h hd.1 hd.2
  | strk k r =>
    refine ⟨h.imok, h.ms, fun q hq => ?_, h.aok, h.asum⟩
    rcases List.mem_append.mp hq with z | z
    · exact h.st q z
    · rw [List.mem_singleton.mp z]; exact ⟨hd.1, carried_ok h.imok hd.2⟩
theorem pf0 (n : Nat) : PF n 0 ⟨doing n [], [], [], []⟩ := ⟨gens_ok n, (fun x hx => by cases hx), (fun q hq => by cases hq), trivial, rfl⟩
def looksOf (w : List Deed) : Nat := (w.map Deed.looks).sum
theorem wok_get {n : Nat} : ∀ {w : List Deed} {L i : Nat} {d : Deed}, WOk n L w → w[i]? = some d → d.Ok n (L + looksOf (w.take i))
  | [], _, _, _, _, h => by simp at h
  | x :: w, L, 0, d, hw, h => by
    have e : x = d := Option.some.inj h
    subst e
    exact hw.1
  | x :: w, L, i + 1, d, hw, h => by
    have := wok_get (w := w) (i := i) hw.2 h
    have e : L + looksOf ((x :: w).take (i + 1)) = L + x.looks + looksOf (w.take i) := by
      unfold looksOf
      rw [List.take_succ_cons, List.map_cons, List.sum_cons]; omega
    rw [e]; exact this
theorem pf_take {n : Nat} {w : List Deed} (hw : WOk n 0 w) : ∀ i, i ≤ w.length → PF n (looksOf (w.take i)) ((w.take i).foldl pullStep ⟨doing n [], [], [], []⟩)
  | 0, _ => by rw [List.take_zero]; exact pf0 n
  | i + 1, hi => by
    have hd := List.getElem?_eq_getElem (show i < w.length by omega)
    rw [foldl_take _ _ hd]
    have e : looksOf (w.take (i + 1)) = looksOf (w.take i) + (w[i]'(by omega)).looks := by
      unfold looksOf
      rw [List.take_add_one, hd, List.map_append, List.sum_append]; simp
    rw [e]
    have := wok_get hw hd
    rw [Nat.zero_add] at this
    exact pf_step (pf_take hw i (by omega)) this
theorem looks_le (w : List Deed) : looksOf w ≤ w.length := by
  induction w with
  | nil => exact Nat.le_refl _
  | cons d w ih =>
    have : d.looks ≤ 1 := by cases d <;> simp [Deed.looks]
    unfold looksOf at ih ⊢
    rw [List.map_cons, List.sum_cons, List.length_cons]; omega
theorem pull_len (w : List Deed) : ∀ p : PSt, (w.foldl pullStep p).asks.length + (w.foldl pullStep p).strikes.length + (w.foldl pullStep p).moves.length = p.asks.length + p.strikes.length + p.moves.length + w.length := by
  induction w with
  | nil => intro p; rfl
  | cons d w ih =>
    intro p
    show (w.foldl pullStep (pullStep p d)).asks.length + (w.foldl pullStep (pullStep p d)).strikes.length + (w.foldl pullStep (pullStep p d)).moves.length = _
    rw [ih, List.length_cons]
    cases d <;> simp [pullStep] <;> omega
theorem getA_ok {n : Nat} (k : Nat) : ∀ {d : List (Nat × Row)}, (∀ p ∈ d, p.2.Ok n) → (getA d k).Ok n
  | [], _ => ⟨Nat.zero_lt_succ 3, Nat.two_pow_pos n, Nat.two_pow_pos n⟩
  | p :: d, h => by
    rw [getA_cons]
    split
    · exact h p List.mem_cons_self
    · exact getA_ok k fun q hq => h q (List.mem_cons_of_mem _ hq)
theorem putA_mem {d : List (Nat × Row)} {k : Nat} {r : Row} {p : Nat × Row} (h : p ∈ putA d k r) : p ∈ d ∨ p = (k, r) := by
  unfold putA at h
  split at h
  · obtain ⟨q, hq, e⟩ := List.mem_map.mp h
    by_cases c : q.1 = k
    · rw [if_pos c] at e; exact .inr (by rw [← e, c])
    · rw [if_neg c] at e; exact .inl (by rw [← e]; exact hq)
  · rcases List.mem_append.mp h with z | z
    · exact .inl z
    · exact .inr (List.mem_singleton.mp z)
theorem joinD_ok {n L : Nat} {st : List (Nat × Row)} (h : ∀ q ∈ st, q.1 < L ∧ q.2.Ok n) : ∀ p ∈ joinD st, p.1 < L ∧ p.2.Ok n := by
  have : ∀ (st : List (Nat × Row)) (d : List (Nat × Row)), (∀ q ∈ st, q.1 < L ∧ q.2.Ok n) → (∀ q ∈ d, q.1 < L ∧ q.2.Ok n) → ∀ p ∈ st.foldl (fun d p => putA d p.1 (product (getA d p.1) p.2)) d, p.1 < L ∧ p.2.Ok n := by
    intro st
    induction st with
    | nil => intro d _ hd; exact hd
    | cons q st ih =>
      intro d hs hd
      refine ih _ (fun x hx => hs x (List.mem_cons_of_mem _ hx)) fun x hx => ?_
      obtain ⟨q1, q2⟩ := hs q List.mem_cons_self
      rcases putA_mem hx with z | z
      · exact hd x z
      · rw [z]; exact ⟨q1, product_ok (getA_ok q.1 fun y hy => (hd y hy).2) q2⟩
  exact this st [] h fun q hq => by cases hq
theorem joinD_len (st : List (Nat × Row)) : (joinD st).length ≤ st.length := by
  have : ∀ (st : List (Nat × Row)) (d : List (Nat × Row)), (st.foldl (fun d p => putA d p.1 (product (getA d p.1) p.2)) d).length ≤ d.length + st.length := by
    intro st
    induction st with
    | nil => intro d; exact Nat.le_refl _
    | cons q st ih =>
      intro d
      have h1 := ih (putA d q.1 (product (getA d q.1) q.2))
      have h2 := putA_len d q.1 (product (getA d q.1) q.2)
      rw [List.length_cons]
      show (st.foldl _ (putA d q.1 (product (getA d q.1) q.2))).length ≤ _
      omega
  have := this st []
  rw [List.length_nil, Nat.zero_add] at this
  exact this
theorem whens_ok {n L : Nat} {d : List (Nat × Row)} (h : ∀ p ∈ d, p.1 < L ∧ p.2.Ok n) : ∀ (ks : List Nat), (∀ k ∈ ks, k ∈ d.map (·.1)) → WOk n L (whensOf d ks) ∧ (whensOf d ks).length ≤ ks.length
  | [], _ => ⟨trivial, Nat.le_refl _⟩
  | k :: ks, hk => by
    obtain ⟨i1, i2⟩ := whens_ok h ks fun x hx => hk x (List.mem_cons_of_mem _ hx)
    have e0 : whensOf d (k :: ks) = whenOf d k ++ whensOf d ks := by unfold whensOf; rw [List.flatMap_cons]
    rw [e0]
    unfold whenOf
    split
    · exact ⟨i1, by rw [List.nil_append, List.length_cons]; omega⟩
    · refine ⟨⟨⟨?_, ?_⟩, i1⟩, by rw [List.length_append, List.length_cons]; simp; omega⟩
      · obtain ⟨p, hp, e⟩ := List.mem_map.mp (hk k List.mem_cons_self)
        rw [← e]; exact (h p hp).1
      · have := getA_ok k fun p hp => (h p hp).2
        exact ⟨Nat.mod_lt _ (by decide), this.x, this.z⟩
theorem mvs_ok {n : Nat} : ∀ (ms : List Mv) (L : Nat), MsOk n ms → WOk n L (ms.map .mv)
  | [], _, _ => trivial
  | m :: ms, L, h => ⟨h m List.mem_cons_self, mvs_ok ms _ fun x hx => h x (List.mem_cons_of_mem _ hx)⟩
theorem whens_looks (d : List (Nat × Row)) : ∀ ks : List Nat, ((whensOf d ks).map Deed.looks).sum = 0
  | [] => rfl
  | k :: ks => by
    have e0 : whensOf d (k :: ks) = whenOf d k ++ whensOf d ks := by unfold whensOf; rw [List.flatMap_cons]
    rw [e0, List.map_append, List.sum_append, whens_looks d ks]
    unfold whenOf
    split <;> rfl
theorem lst_other {α : Type} {R : Hp → V → α → Prop} (mono : ∀ H H' v d, Tp H H' → R H v d → R H' v d) {H : Hp} {a l : Addr} {vs us : List V} {ds : List α} (ha : H a = some (.lst vs)) (hne : l ≠ a) (h : ∃ ws, H l = some (.lst ws) ∧ All2 (R H) ws ds) :
    ∃ ws, upd H a (.lst us) l = some (.lst ws) ∧ All2 (R (upd H a (.lst us))) ws ds := by
  obtain ⟨ws, h1, h2⟩ := h
  exact ⟨ws, by rw [upd_ne hne]; exact h1, h2.mono fun v d => mono _ _ v d (tp_put ha)⟩
theorem lst_push {α : Type} {R : Hp → V → α → Prop} (mono : ∀ H H' v d, Tp H H' → R H v d → R H' v d) {H : Hp} {l : Addr} {ws : List V} {ds : List α} {y : V} {d : α} (h1 : H l = some (.lst ws)) (h2 : All2 (R H) ws ds) (r : R H y d) :
    ∃ ws', upd H l (.lst (ws ++ [y])) l = some (.lst ws') ∧ All2 (R (upd H l (.lst (ws ++ [y])))) ws' (ds ++ [d]) :=
  ⟨ws ++ [y], upd_same, (h2.mono fun v d => mono _ _ v d (tp_put h1)).snoc (mono _ _ y d (tp_put h1) r)⟩
theorem all_mv {H : Hp} : ∀ {vs : List V} {ms : List Mv}, All2 (IMv H) vs ms → All2 (IDeed H) vs (ms.map .mv)
  | [], [], _ => trivial
  | _ :: _, _ :: _, h => ⟨h.1, all_mv h.2⟩
/-- the parts of a pulled word while it is made -/
structure PAt (H : Hp) (ai a1 a2 a3 : Addr) (p : PSt) : Prop where
  im : IRows H ai p.im
  as : IDeeds H a1 p.asks
  ss : IStr H a2 p.strikes
  ms : IMvs H a3 p.moves
  n1 : ai ≠ a1
  n2 : ai ≠ a2
  n3 : ai ≠ a3
theorem PAt.same {H H' : Hp} {ai a1 a2 a3 : Addr} {p : PSt} (h : PAt H ai a1 a2 a3 p) (s : Same H H') : PAt H' ai a1 a2 a3 p := ⟨h.im.mono s, h.as.mono s, h.ss.mono s, h.ms.mono s, h.n1, h.n2, h.n3⟩
section
variable {P : Program} {w : World} {K : PySem.W.Frag} {mg : Str → Option Value} {base : Heap} {f : Addr} {fd : FuncData}
abbrev s_pulled : Stmt := top 34
theorem sc_pulled : FnScope ["wires", "word", "images", "asks", "strikes", "moves", "deed"] ["wires", "word"] (defScope s_pulled) := ⟨rfl, rfl, rfl, by decide +kernel, rfl, by decide +kernel, by decide +kernel⟩
theorem ok_pulled (T : Tx K mg w) (F : Fun K "pulled" "pulled" s_pulled f fd) (D_doing : Df P w K mg base 4 "doing" ["wires", "word"] spDoing) (D_is_move : Df P w K mg base 1 "is_move" ["deed"] spIsMove) (D_is_look : Df P w K mg base 1 "is_look" ["deed"] spIsLook)
    (D_further : Df P w K mg base 4 "further" ["images", "move"] spFurther) (D_pulled_ask : Df P w K mg base 4 "pulled_ask" ["images", "deed", "strikes"] spAsk) (D_carried : Df P w K mg base 3 "carried" ["images", "row"] spCarried)
    (D_joined_whens : Df P w K mg base 3 "joined_whens" ["strikes"] spJoined) (D_fair : Df P w K mg base 7 "fair" ["wires", "word"] spFair) : FnOk P w K mg base CX0 8 f fd ["wires", "word"] spPulled := by
  refine F.ok sc_pulled (fun vs H Q E h => ?_) (fun cdv A outer s H vs Q E hr h => ?_)
  · obtain ⟨n, l, wd, rfl, _⟩ := h
    rfl
  · obtain ⟨n, l, wd, rfl, hn, ⟨vs, hvs, hall⟩, hw, h40, k⟩ := h
    have hvl := hall.len
    refine ⟨_, (pss_cons (ps_set (i := 2) sc_pulled.nd rfl (Or.inl rfl) (pe_fn D_doing (hr.mono (by decide)) (pa_cons (pv 0) (pa_cons (pe_lst pa_nil) pa_nil))))
  (pss_cons (ps_set (i := 3) sc_pulled.nd rfl (Or.inl rfl) (pe_lst pa_nil))
  (pss_cons (ps_set (i := 4) sc_pulled.nd rfl (Or.inl rfl) (pe_lst pa_nil))
  (pss_cons (ps_set (i := 5) sc_pulled.nd rfl (Or.inl rfl) (pe_lst pa_nil))
  (pss_cons (ps_for PassesOwn.never rfl (pi_list (pv 1)) (pg_name (i := 6) sc_pulled.nd rfl (Or.inl rfl))
    (pss_one (ps_if (pt_val (pe_fn D_is_move (hr.mono (by decide)) (pa_cons (pv 6) pa_nil)))
    (pss_cons (ps_set (i := 2) sc_pulled.nd rfl (Or.inl rfl) (pe_fn D_further (hr.mono (by decide)) (pa_cons (pv 2) (pa_cons (pv 6) pa_nil))))
  (pss_one (ps_expr (pe_bm PySem.F.plainAttrs_list PySem.F.slot_list_append PySem.F.type_list_append mt_append (pv 5) (pa_cons (pv 6) pa_nil)))))
    (pss_one (ps_if (pt_val (pe_fn D_is_look (hr.mono (by decide)) (pa_cons (pv 6) pa_nil)))
    (pss_one (ps_expr (pe_bm PySem.F.plainAttrs_list PySem.F.slot_list_append PySem.F.type_list_append mt_append (pv 3) (pa_cons (pe_fn D_pulled_ask (hr.mono (by decide)) (pa_cons (pv 2) (pa_cons (pv 6) (pa_cons (pv 4) pa_nil)))) pa_nil))))
    (pss_one (ps_expr (pe_bm PySem.F.plainAttrs_list PySem.F.slot_list_append PySem.F.type_list_append mt_append (pv 4) (pa_cons (pe_tup (pa_cons (pe_ix ix_tup (pv 6) (pe_nat 1) (fun _ _ => rfl)) (pa_cons (pe_fn D_carried (hr.mono (by decide)) (pa_cons (pv 2) (pa_cons (pe_ix ix_tup (pv 6) (pe_nat 2) (fun _ _ => rfl)) pa_nil))) pa_nil))) pa_nil)))))))))
  (pss_one (ps_ret (pe_op op_catA (pe_op op_catA (pv 3) (pe_fn D_joined_whens (hr.mono (by decide)) (pa_cons (pv 4) pa_nil))) (pe_fn D_fair (hr.mono (by decide)) (pa_cons (pv 0) (pa_cons (pv 5) pa_nil))))))))))),
      st_norm (σ' := [some _, some _, none, none, none, none, none]) rfl ?_⟩
    walk_at "rd"
    refine ⟨Nat.zero_le _, rd_new fun e0 H0 n0 z0 h0 => ?_⟩
    walk_at "rd"
    refine ⟨n, e0, [], rfl, by omega, ⟨[], h0, trivial⟩, (fun x hx => by cases hx), fun ai H1 z1 nai him => ?_⟩
    have hai : ∃ o, H1 ai = some o := let ⟨_, e, _⟩ := him; ⟨_, e⟩
    obtain ⟨oi, hoi⟩ := hai
    walk_at "rd"
    refine ⟨Nat.zero_le _, rd_new fun a1 H2 n1 z2 h1 => ?_⟩
    walk_at "rd"
    refine ⟨Nat.zero_le _, rd_new fun a2 H3 n2 z3 h2 => ?_⟩
    walk_at "rd"
    refine ⟨Nat.zero_le _, rd_new fun a3 H4 n3 z4 h3 => ?_⟩
    walk_at "rd"
    have z04 : Same H H4 := (((z0.trans z1).trans z2).trans z3).trans z4
    have d12 : a1 ≠ a2 := ne_of_none h1 n2
    have d13 : a1 ≠ a3 := ne_of_none (z3 _ _ h1) n3
    have d23 : a2 ≠ a3 := ne_of_none h2 n3
    have m1 : H a1 = none := (z0.trans z1).free n1
    have m2 : H a2 = none := ((z0.trans z1).trans z2).free n2
    have m3 : H a3 = none := (((z0.trans z1).trans z2).trans z3).free n3
    have keep : ∀ (H5 : Hp) (o : HO) (a : Addr), (a = a1 ∨ a = a2 ∨ a = a3) → Same H H5 → Same H (upd H5 a o) := fun H5 o a ha z c u hc => by
      have : c ≠ a := by rcases ha with rfl | rfl | rfl; exact ne_of_none hc m1; exact ne_of_none hc m2; exact ne_of_none hc m3
      rw [upd_ne this]; exact z _ _ hc
    have P0 : PAt H4 ai a1 a2 a3 ⟨doing n [], [], [], []⟩ := ⟨him.mono ((z2.trans z3).trans z4), ⟨[], (z3.trans z4) _ _ h1, trivial⟩, ⟨[], z4 _ _ h2, trivial⟩, ⟨[], h3, trivial⟩,
      ne_of_none hoi n1, ne_of_none (z2 _ _ hoi) n2, ne_of_none (z3 _ _ (z2 _ _ hoi)) n3⟩
    refine ⟨l, rfl, ⟨vs, SqL.of (z04 _ _ hvs)⟩, for_list (xs := vs) (fun i σ H5 => ∃ ai x6, σ = [some (.int (n : Int)), some (.ref l), some (.ref ai), some (.ref a1), some (.ref a2), some (.ref a3), x6] ∧ Same H H5 ∧ PAt H5 ai a1 a2 a3 ((wd.take i).foldl pullStep ⟨doing n [], [], [], []⟩))
      ⟨ai, none, rfl, z04, P0⟩ (fun i σ H5 _ ⟨_, _, _, z, _⟩ => SqL.of (z _ _ hvs)) ?_ ?_⟩
    · rintro i y σ H5 hi ⟨ai, x6, rfl, z5, P5⟩
      obtain ⟨d, ed, hd⟩ := hall.get hi
      have hi' : i < wd.length := (List.getElem?_eq_some_iff.mp ed).1
      have pf := pf_take hw i (by omega)
      have dok := wok_get hw ed
      rw [Nat.zero_add] at dok
      have hL : looksOf (wd.take i) ≤ 1000 := by have := looks_le (wd.take i); rw [List.length_take] at this; omega
      have hlen := pull_len (wd.take i) ⟨doing n [], [], [], []⟩
      rw [List.length_take] at hlen
      simp only [List.length_nil, Nat.zero_add] at hlen
      rw [foldl_take _ _ ed]
      generalize (wd.take i).foldl pullStep ⟨doing n [], [], [], []⟩ = p at *
      generalize looksOf (wd.take i) = L at *
      have hd5 := hd.mono (tp_of z5)
      obtain ⟨v1, hv1, ha1⟩ := P5.as
      obtain ⟨v2, hv2, ha2⟩ := P5.ss
      obtain ⟨v3, hv3, ha3⟩ := P5.ms
      have l1 := ha1.len
      have l2 := ha2.len
      have l3 := ha3.len
      walk_at "rd"
      refine ⟨y, d, rfl, hd5, ?_⟩
      walk_at "rd"
      have lookCase : ∀ (hk : d.isLk = true) (nm : d.isMv = false), True := fun _ _ => trivial
      cases d with
      | mv m =>
        refine rd_bT rfl ?_
        walk_at "rd"
        refine ⟨ai, p.im, y, m, n, rfl, P5.im, pf.imok, by omega, hd5, dok, fun ai' H6 z6 nai' him' => ?_⟩
        walk_at "rd"
        refine rd_app (z6 _ _ hv3) (by omega) ?_
        refine ⟨ai', _, rfl, keep _ _ a3 (.inr (.inr rfl)) (z5.trans z6), ?_⟩
        have q1 : ai' ≠ a1 := (ne_of_none hv1 nai').symm
        have q2 : ai' ≠ a2 := (ne_of_none hv2 nai').symm
        have q3 : ai' ≠ a3 := (ne_of_none hv3 nai').symm
        exact ⟨lst_other mRow (z6 _ _ hv3) q3 him', lst_other mDeed (z6 _ _ hv3) d13 (P5.as.mono z6), lst_other mStrike (z6 _ _ hv3) d23 (P5.ss.mono z6),
          lst_push mMv (z6 _ _ hv3) (ha3.mono fun _ _ => IMv.mono (tp_of z6)) (hd5.mono (tp_of z6)), q1, q2, q3⟩
      | look wi =>
        refine rd_bF rfl ?_
        walk_at "rd"
        refine ⟨y, .look wi, rfl, hd5, ?_⟩
        walk_at "rd"
        refine rd_bT rfl ?_
        walk_at "rd"
        refine ⟨ai, a2, p.im, y, .look wi, n, L, p.strikes, rfl, P5.im, pf.imok, by omega, hd5, rfl, dok, hL, P5.ss, fun q hq => (pf.st q hq).1, fun q H6 z6 r6 => ?_⟩
        walk_at "rd"
        refine rd_app (z6 _ _ hv1) (by omega) ?_
        refine ⟨ai, _, rfl, keep _ _ a1 (.inl rfl) (z5.trans z6), ?_⟩
        exact ⟨lst_other mRow (z6 _ _ hv1) P5.n1 (P5.im.mono z6), lst_push mDeed (z6 _ _ hv1) (ha1.mono fun _ _ => IDeed.mono (tp_of z6)) r6, lst_other mStrike (z6 _ _ hv1) d12.symm (P5.ss.mono z6),
          lst_other mMv (z6 _ _ hv1) d13.symm (P5.ms.mono z6), P5.n1, P5.n2, P5.n3⟩
      | ask r ns =>
        refine rd_bF rfl ?_
        walk_at "rd"
        refine ⟨y, .ask r ns, rfl, hd5, ?_⟩
        walk_at "rd"
        refine rd_bT rfl ?_
        walk_at "rd"
        refine ⟨ai, a2, p.im, y, .ask r ns, n, L, p.strikes, rfl, P5.im, pf.imok, by omega, hd5, rfl, dok, hL, P5.ss, fun q hq => (pf.st q hq).1, fun q H6 z6 r6 => ?_⟩
        walk_at "rd"
        refine rd_app (z6 _ _ hv1) (by omega) ?_
        refine ⟨ai, _, rfl, keep _ _ a1 (.inl rfl) (z5.trans z6), ?_⟩
        exact ⟨lst_other mRow (z6 _ _ hv1) P5.n1 (P5.im.mono z6), lst_push mDeed (z6 _ _ hv1) (ha1.mono fun _ _ => IDeed.mono (tp_of z6)) r6, lst_other mStrike (z6 _ _ hv1) d12.symm (P5.ss.mono z6),
          lst_other mMv (z6 _ _ hv1) d13.symm (P5.ms.mono z6), P5.n1, P5.n2, P5.n3⟩
      | strk kk r =>
        refine rd_bF rfl ?_
        walk_at "rd"
        refine ⟨y, .strk kk r, rfl, hd5, ?_⟩
        walk_at "rd"
        refine rd_bF rfl ?_
        obtain ⟨a, x, rfl, ha, hx⟩ := hd5
        walk_at "rd"
        refine ⟨ai, p.im, x, r, rfl, P5.im, by have := pf.imok.1; omega, hx, fun q H6 z6 r6 => ?_⟩
        walk_at "rd"
        refine ⟨by show 2 ≤ sizeLine; decide, rd_new fun t7 H7 n7 z7 h7 => ?_⟩
        walk_at "rd"
        have z67 := z6.trans z7
        refine rd_app (z67 _ _ hv2) (by omega) ?_
        refine ⟨ai, _, rfl, keep _ _ a2 (.inr (.inl rfl)) (z5.trans z67), ?_⟩
        exact ⟨lst_other mRow (z67 _ _ hv2) P5.n2 (P5.im.mono z67), lst_other mDeed (z67 _ _ hv2) d12 (P5.as.mono z67), lst_push mStrike (z67 _ _ hv2) (ha2.mono fun _ _ => IStrike.mono (tp_of z67)) ⟨t7, q, rfl, h7, r6.mono (tp_of z7)⟩,
          lst_other mMv (z67 _ _ hv2) d23.symm (P5.ms.mono z67), P5.n1, P5.n2, P5.n3⟩
    · rintro σ H5 ⟨ai, x6, rfl, z5, P5⟩
      rw [List.take_of_length_le (by omega)] at P5
      have pf := pf_take hw wd.length (Nat.le_refl _)
      rw [List.take_of_length_le (Nat.le_refl _)] at pf
      have hlen := pull_len wd ⟨doing n [], [], [], []⟩
      simp only [List.length_nil, Nat.zero_add] at hlen
      have eP : wd.foldl pullStep ⟨doing n [], [], [], []⟩ = pullAll n wd := rfl
      rw [eP] at P5 pf hlen
      have hW : ∀ ks, pulledW n wd ks = (pullAll n wd).asks ++ whensOf (joinD (pullAll n wd).strikes) ks ++ (fair n (pullAll n wd).moves).map .mv := fun _ => rfl
      generalize pullAll n wd = p at *
      obtain ⟨v1, hv1, ha1⟩ := P5.as
      have l1 := ha1.len
      walk_at "rd"
      refine ⟨a2, p.strikes, rfl, P5.ss, by omega, fun ks q1 H6 z6 nq1 hperm hq1 => ?_⟩
      obtain ⟨u1, hu1, hb1⟩ := hq1
      have jl := joinD_len p.strikes
      have kl : ks.length ≤ 40 := by rw [hperm.length_eq, List.length_map]; omega
      obtain ⟨wk1, wk2⟩ := whens_ok (joinD_ok pf.st) ks fun x hx => hperm.mem_iff.mp hx
      have bl := hb1.len
      refine ⟨a1, q1, v1, u1, rfl, rfl, z6 _ _ hv1, hu1, Nat.le_trans (show v1.length + u1.length ≤ 1000 by omega) (by decide), rd_new fun q2 H7 nq2 z7 hq2 => ?_⟩
      walk_at "rd"
      refine ⟨n, a3, p.moves, rfl, by omega, P5.ms.mono (z6.trans z7), pf.ms, fun q3 H8 z8 nq3 hq3 fl => ?_⟩
      obtain ⟨u3, hu3, hb3⟩ := hq3
      have bl3 := hb3.len
      have fl' : (fair n p.moves).length ≤ 4 * (4 * 4 + 6) := Nat.le_trans fl (Nat.mul_le_mul (by omega) (by omega))
      refine ⟨q2, q3, v1 ++ u1, u3, rfl, rfl, z8 _ _ hq2, hu3, Nat.le_trans (show (v1 ++ u1).length + u3.length ≤ 10000 by rw [List.length_append]; omega) (by decide), rd_new fun q4 H9 nq4 z9 hq4 => ?_⟩
      walk_at "rd"
      have z69 := ((z6.trans z7).trans z8).trans z9
      refine k ks q4 H9 (z5.trans z69) ((z5.trans ((z6.trans z7).trans z8)).free nq4) hperm ?_ ?_ ?_
      · rw [hW]
        refine ⟨v1 ++ u1 ++ u3, hq4, ((ha1.mono fun _ _ => IDeed.mono (tp_of z69)).append (hb1.mono fun _ _ => IDeed.mono (tp_of ((z7.trans z8).trans z9)))).append (all_mv (hb3.mono fun _ _ => IMv.mono (tp_of z9)))⟩
      · rw [hW]
        refine wok_append (wok_append pf.aok ?_) ?_
        · rw [pf.asum, Nat.zero_add]; exact wk1
        · exact mvs_ok _ _ (fair_ok pf.ms)
      · rw [hW, List.length_append, List.length_append, List.length_map]
        omega
end

/-! ### numbers -/
section
variable {P : Program} {w : World} {K : PySem.W.Frag} {mg : Str → Option Value} {base : Heap} {f : Addr} {fd : FuncData}
abbrev s_plus : Stmt := top 38
theorem sc_plus : FnScope ["one", "other"] ["one", "other"] (defScope s_plus) := ⟨rfl, rfl, rfl, by decide +kernel, rfl, by decide +kernel, by decide +kernel⟩
theorem ok_plus (F : Fun K "plus" "plus" s_plus f fd) : FnOk P w K mg base CX0 1 f fd ["one", "other"] spPlus := by
  refine F.ok sc_plus (fun vs H Q E h => ?_) (fun cdv A outer s H vs Q E hr h => ?_)
  · obtain ⟨v, u, a, b, rfl, _⟩ := h
    rfl
  · obtain ⟨v, u, a, b, rfl, ⟨p, rfl, hp⟩, ⟨q, rfl, hq⟩, k⟩ := h
    refine ⟨_, (pss_one (ps_ret (pe_tup (pa_cons (pe_op op_add (pe_ix ix_tup (pv 0) pe_int (fun _ _ => rfl)) (pe_ix ix_tup (pv 1) pe_int (fun _ _ => rfl))) (pa_cons (pe_op op_add (pe_ix ix_tup (pv 0) pe_int (fun _ _ => rfl)) (pe_ix ix_tup (pv 1) pe_int (fun _ _ => rfl))) pa_nil))))),
      st_norm (σ' := [some _, some _]) rfl ?_⟩
    walk_at "rd"
    refine ⟨by show 2 ≤ sizeLine; decide, rd_new fun t H1 n1 z1 h1 => ?_⟩
    exact k _ _ z1 ⟨t, rfl, h1⟩
abbrev s_minus : Stmt := top 39
theorem sc_minus : FnScope ["one", "other"] ["one", "other"] (defScope s_minus) := ⟨rfl, rfl, rfl, by decide +kernel, rfl, by decide +kernel, by decide +kernel⟩
theorem ok_minus (F : Fun K "minus" "minus" s_minus f fd) : FnOk P w K mg base CX0 1 f fd ["one", "other"] spMinus := by
  refine F.ok sc_minus (fun vs H Q E h => ?_) (fun cdv A outer s H vs Q E hr h => ?_)
  · obtain ⟨v, u, a, b, rfl, _⟩ := h
    rfl
  · obtain ⟨v, u, a, b, rfl, ⟨p, rfl, hp⟩, ⟨q, rfl, hq⟩, k⟩ := h
    refine ⟨_, (pss_one (ps_ret (pe_tup (pa_cons (pe_op op_sub (pe_ix ix_tup (pv 0) pe_int (fun _ _ => rfl)) (pe_ix ix_tup (pv 1) pe_int (fun _ _ => rfl))) (pa_cons (pe_op op_sub (pe_ix ix_tup (pv 0) pe_int (fun _ _ => rfl)) (pe_ix ix_tup (pv 1) pe_int (fun _ _ => rfl))) pa_nil))))),
      st_norm (σ' := [some _, some _]) rfl ?_⟩
    walk_at "rd"
    refine ⟨by show 2 ≤ sizeLine; decide, rd_new fun t H1 n1 z1 h1 => ?_⟩
    exact k _ _ z1 ⟨t, rfl, h1⟩
theorem bigmul {a b : Int} (ha : a.natAbs < 2 ^ 400000) (hb : b.natAbs < 2 ^ 400000) : CMulW a b := wide_mul ha hb (by decide) (by decide) (by decide)
theorem rd_mulW {a b : Int} {H : Hp} {Q : VK} (c : CMulW a b) (k : Q (.int (a * b)) H) : rI CMulW (fun i j => V.int (i * j)) (.int a) (.int b) H Q := ⟨a, b, rfl, rfl, c, k⟩
abbrev s_norm : Stmt := top 41
theorem sc_norm : FnScope ["number"] ["number"] (defScope s_norm) := ⟨rfl, rfl, rfl, by decide +kernel, rfl, by decide +kernel, by decide +kernel⟩
theorem ok_norm (F : Fun K "norm" "norm" s_norm f fd) : FnOk P w K mg base CX0 1 f fd ["number"] spNorm := by
  refine F.ok sc_norm (fun vs H Q E h => ?_) (fun cdv A outer s H vs Q E hr h => ?_)
  · obtain ⟨v, g, rfl, _⟩ := h
    rfl
  · obtain ⟨v, g, rfl, ⟨p, rfl, hp⟩, h1, h2, k⟩ := h
    refine ⟨_, (pss_one (ps_ret (pe_op op_add (pe_op op_mulW (pe_ix ix_tup (pv 0) pe_int (fun _ _ => rfl)) (pe_ix ix_tup (pv 0) pe_int (fun _ _ => rfl))) (pe_op op_mulW (pe_ix ix_tup (pv 0) pe_int (fun _ _ => rfl)) (pe_ix ix_tup (pv 0) pe_int (fun _ _ => rfl)))))),
      st_norm (σ' := [some _]) rfl ?_⟩
    walk_at "rd"
    refine rd_mulW (bigmul h1 h1) ?_
    walk_at "rd"
    refine rd_mulW (bigmul h2 h2) ?_
    walk_at "rd"
    exact k
abbrev s_spun : Stmt := top 40
theorem sc_spun : FnScope ["number", "turn", "a", "b", "left"] ["number", "turn"] (defScope s_spun) := ⟨rfl, rfl, rfl, by decide +kernel, rfl, by decide +kernel, by decide +kernel⟩
theorem ok_spun (F : Fun K "spun" "spun" s_spun f fd) : FnOk P w K mg base CX0 1 f fd ["number", "turn"] spSpun := by
  refine F.ok sc_spun (fun vs H Q E h => ?_) (fun cdv A outer s H vs Q E hr h => ?_)
  · obtain ⟨v, g, t, rfl, _⟩ := h
    rfl
  · obtain ⟨v, g, t, rfl, ⟨p, rfl, hp⟩, k⟩ := h
    refine ⟨_, (pss_cons (ps_asg (pv 0) (pg_tup rfl (pgs_cons (pg_name (i := 2) sc_spun.nd rfl (Or.inl rfl)) (pgs_cons (pg_name (i := 3) sc_spun.nd rfl (Or.inl rfl)) pgs_nil))))
  (pss_cons (ps_set (i := 4) sc_spun.nd rfl (Or.inl rfl) (pe_op op_modN' (pv 1) (pe_nat 4)))
  (pss_cons (ps_if (pt_cmpR op_eqN (pv 4) (pe_nat 1) (nomark _))
    (pss_one (ps_ret (pe_tup (pa_cons (pe_un un_neg (pv 3)) (pa_cons (pv 2) pa_nil)))))
    pss_nil)
  (pss_cons (ps_if (pt_cmpR op_eqN (pv 4) (pe_nat 2) (nomark _))
    (pss_one (ps_ret (pe_tup (pa_cons (pe_un un_neg (pv 2)) (pa_cons (pe_un un_neg (pv 3)) pa_nil)))))
    pss_nil)
  (pss_cons (ps_if (pt_cmpR op_eqN (pv 4) (pe_nat 3) (nomark _))
    (pss_one (ps_ret (pe_tup (pa_cons (pv 3) (pa_cons (pe_un un_neg (pv 2)) pa_nil)))))
    pss_nil)
  (pss_one (ps_ret (pe_tup (pa_cons (pv 2) (pa_cons (pv 3) pa_nil)))))))))),
      st_norm (σ' := [some _, some _, none, none, none]) rfl ?_⟩
    walk_at "rd"
    unfold spun at k
    refine rd_dec (fun h1 => ?_) (fun h1 => ?_)
    · rw [if_pos h1] at k
      walk_at "rd"
      refine ⟨by show 2 ≤ sizeLine; decide, rd_new fun t H1 n1 z1 h1 => ?_⟩
      exact k _ _ z1 ⟨t, rfl, h1⟩
    · rw [if_neg h1] at k
      walk_at "rd"
      refine rd_dec (fun h2 => ?_) (fun h2 => ?_)
      · rw [if_pos h2] at k
        walk_at "rd"
        refine ⟨by show 2 ≤ sizeLine; decide, rd_new fun t H1 n1 z1 h1 => ?_⟩
        exact k _ _ z1 ⟨t, rfl, h1⟩
      · rw [if_neg h2] at k
        walk_at "rd"
        refine rd_dec (fun h3 => ?_) (fun h3 => ?_)
        · rw [if_pos h3] at k
          walk_at "rd"
          refine ⟨by show 2 ≤ sizeLine; decide, rd_new fun t H1 n1 z1 h1 => ?_⟩
          exact k _ _ z1 ⟨t, rfl, h1⟩
        · rw [if_neg h3] at k
          walk_at "rd"
          refine ⟨by show 2 ≤ sizeLine; decide, rd_new fun t H1 n1 z1 h1 => ?_⟩
          exact k _ _ z1 ⟨t, rfl, h1⟩
/-! ### vectors -/
theorem tab_get {N k : Nat} (f : Vec) (h : k < N) : (tab N f)[k]? = some (f k) := by
  unfold tab
  rw [List.getElem?_map, List.getElem?_range h]; rfl
theorem tab_len (N : Nat) (f : Vec) : (tab N f).length = N := by unfold tab; simp
theorem tab_congr {N : Nat} {f g : Vec} (h : ∀ k, k < N → f k = g k) : tab N f = tab N g := by
  unfold tab
  exact List.map_congr_left fun k hk => h k (List.mem_range.mp hk)
theorem IVec.row {H : Hp} {l : Addr} {N : Nat} {f : Vec} (h : IVec H l N f) : ∃ us, H l = some (.lst us) ∧ us.length = N ∧ (∀ k, k < N → ∃ u, us[k]? = some u ∧ INum H u (f k)) ∧ ∀ k u, us[k]? = some u → k < N ∧ INum H u (f k) := by
  obtain ⟨us, hus, hu⟩ := h
  have hl := hu.len
  rw [tab_len] at hl
  refine ⟨us, hus, hl, fun k hk => ?_, fun k u e => ?_⟩
  · obtain ⟨u, eu, r⟩ := hu.get' (tab_get f hk)
    exact ⟨u, eu, r⟩
  · have hk : k < N := by rw [← hl]; exact (List.getElem?_eq_some_iff.mp e).1
    obtain ⟨d, ed, r⟩ := hu.get e
    rw [tab_get f hk] at ed
    have : f k = d := Option.some.inj ed
    rw [this]; exact ⟨hk, r⟩
theorem pow6 {n : Nat} (h : n ≤ 6) : 2 ^ n ≤ 64 := Nat.pow_le_pow_right (n := 2) (by decide) h
theorem tab_succ (N : Nat) (f : Vec) : tab (N + 1) f = tab N f ++ [f N] := by unfold tab; rw [List.range_succ, List.map_append]; rfl
theorem all_rep {H : Hp} {t : V} {g : G} (h : INum H t g) : ∀ n, All2 (INum H) (List.replicate n t) (List.replicate n g)
  | 0 => trivial
  | n + 1 => ⟨h, all_rep h n⟩
theorem tab_unit : ∀ N, 0 < N → tab N (unit 0) = (1, 0) :: List.replicate (N - 1) (0, 0)
  | 0, h => absurd h (by decide)
  | 1, _ => rfl
  | N + 2, _ => by
    rw [tab_succ, tab_unit (N + 1) (by omega)]
    have e : unit 0 (N + 1) = (0, 0) := by unfold unit; rw [if_neg (by omega)]
    rw [e, List.cons_append]
    congr 1
    show _ = List.replicate (N + 1) (0, 0)
    rw [List.replicate_succ']; rfl
abbrev s_start : Stmt := top 45
theorem sc_start : FnScope ["wires"] ["wires"] (defScope s_start) := ⟨rfl, rfl, rfl, by decide +kernel, rfl, by decide +kernel, by decide +kernel⟩
theorem ok_start (T : Tx K mg w) (F : Fun K "start" "start" s_start f fd) : FnOk P w K mg base CX0 1 f fd ["wires"] spStart := by
  refine F.ok sc_start (fun vs H Q E h => ?_) (fun cdv A outer s H vs Q E hr h => ?_)
  · obtain ⟨n, rfl, _⟩ := h
    rfl
  · obtain ⟨n, rfl, h1, h6, k⟩ := h
    obtain ⟨tk, hMo⟩ := T.most
    refine ⟨_, (pss_cons (ps_if (PW.pt (pw_or (pt_cmpR op_ltN (pv 0) (pe_nat 1) (nomark _)) (pw_or1 (pt_cmpR op_gtN (pv 0) (pe_glob (v := .int ((6 : Nat) : Int)) rfl hMo ⟨_, rfl⟩) (nomark _)))))
    (pss_one ps_never)
    pss_nil)
  (pss_one (ps_ret (pe_op op_catA (pe_lst (pa_cons (pe_tup (pa_cons (pe_nat 1) (pa_cons (pe_nat 0) pa_nil))) pa_nil)) (pe_op op_repA (pe_lst (pa_cons (pe_tup (pa_cons (pe_nat 0) (pa_cons (pe_nat 0) pa_nil))) pa_nil)) (pe_op op_subN (pe_op op_shlN (pe_nat 1) (pv 0)) (pe_nat 1))))))),
      st_norm (σ' := [some _]) rfl ?_⟩
    have p6 := pow6 h6
    have pp := Nat.two_pow_pos n
    walk_at "rd"
    refine rd_decF (by omega) ?_
    walk_at "rd"
    refine rd_decF (by omega) ?_
    walk_at "rd"
    refine ⟨by show 2 ≤ sizeLine; decide, rd_new fun t1 H1 n1 z1 h1' => ?_⟩
    walk_at "rd"
    refine ⟨by show 1 ≤ sizeLine; decide, rd_new fun l1 H2 n2 z2 h2 => ?_⟩
    walk_at "rd"
    refine ⟨by show 2 ≤ sizeLine; decide, rd_new fun t3 H3 n3 z3 h3 => ?_⟩
    walk_at "rd"
    refine ⟨by show 1 ≤ sizeLine; decide, rd_new fun l4 H4 n4 z4 h4 => ?_⟩
    walk_at "rd"
    have e1 : 1 <<< n = 2 ^ n := Nat.one_shiftLeft n
    rw [e1]
    refine ⟨l4, 2 ^ n - 1, .ref t3, rfl, rfl, h4, by omega, rd_new fun l5 H5 n5 z5 h5 => ?_⟩
    refine ⟨l1, l5, _, _, rfl, rfl, z5 _ _ (z4 _ _ (z3 _ _ h2)), h5, Nat.le_trans (show _ ≤ 1000 by rw [List.length_replicate]; simp; omega) (by decide), rd_new fun l6 H6 n6 z6 h6' => ?_⟩
    have z16 : Same H1 H6 := (((z2.trans z3).trans z4).trans z5).trans z6
    refine k l6 H6 (z1.trans z16) ((z1.trans (((z2.trans z3).trans z4).trans z5)).free n6) ⟨_, h6', ?_⟩
    rw [tab_unit _ pp]
    exact ⟨⟨t1, rfl, z16 _ _ h1'⟩, all_rep ⟨t3, rfl, ((z4.trans z5).trans z6) _ _ h3⟩ _⟩
theorem xor_lt {n k x : Nat} (hk : k < 2 ^ n) (hx : x < 2 ^ n) : k ^^^ x < 2 ^ n := Nat.xor_lt_two_pow hk hx
theorem and_mask (k wi : Nat) : (k &&& (1 <<< wi) = 0) ↔ k.testBit wi = false := by
  constructor
  · intro h
    have e := congrArg (fun x => x.testBit wi) h
    simp only [Nat.testBit_and, Nat.zero_testBit, shl_bit, Bool.and_true] at e
    exact e
  · intro h
    apply xor_eq_of_bits
    intro i
    rw [Nat.testBit_and, Nat.zero_testBit, one_shl, testBit_sh]
    by_cases q : i = wi
    · subst q; rw [h]; rfl
    · simp [q]
abbrev s_after_mix : Stmt := top 46
theorem sc_after_mix : FnScope ["vector", "mask", "found", "at", "number"] ["vector", "mask"] (defScope s_after_mix) := ⟨rfl, rfl, rfl, by decide +kernel, rfl, by decide +kernel, by decide +kernel⟩
theorem ok_after_mix (T : Tx K mg w) (F : Fun K "after_mix" "after_mix" s_after_mix f fd) (D_plus : Df P w K mg base 1 "plus" ["one", "other"] spPlus) (D_minus : Df P w K mg base 1 "minus" ["one", "other"] spMinus) : FnOk P w K mg base CX0 2 f fd ["vector", "mask"] spAfterMix := by
  refine F.ok sc_after_mix (fun vs H Q E h => ?_) (fun cdv A outer s H vs Q E hr h => ?_)
  · obtain ⟨l, n, wi, g, rfl, _⟩ := h
    rfl
  · obtain ⟨l, n, wi, g, rfl, hn, hwi, hv, k⟩ := h
    obtain ⟨us, hus, hul, hget, hget'⟩ := hv.row
    have p6 := pow6 hn
    have hm : 1 <<< wi < 2 ^ n := by rw [one_shl]; exact sh_lt hwi
    refine ⟨_, (pss_cons (ps_set (i := 2) sc_after_mix.nd rfl (Or.inl rfl) (pe_lst pa_nil))
  (pss_cons (ps_for PassesOwn.never rfl (pi_enum (by rfl) T.b_enumerate (pa_cons (pv 0) pa_nil)) (pg_tup rfl (pgs_cons (pg_name (i := 3) sc_after_mix.nd rfl (Or.inl rfl)) (pgs_cons (pg_name (i := 4) sc_after_mix.nd rfl (Or.inl rfl)) pgs_nil)))
    (pss_one (ps_if (pt_cmpR op_eqN (pe_op op_andN (pv 3) (pv 1)) (pe_nat 0) (nomark _))
    (pss_one (ps_expr (pe_bm PySem.F.plainAttrs_list PySem.F.slot_list_append PySem.F.type_list_append mt_append (pv 2) (pa_cons (pe_fn D_plus (hr.mono (by decide)) (pa_cons (pv 4) (pa_cons (pe_ix ix_list (pv 0) (pe_op op_xorN (pv 3) (pv 1)) (fun _ _ => rfl)) pa_nil))) pa_nil))))
    (pss_one (ps_expr (pe_bm PySem.F.plainAttrs_list PySem.F.slot_list_append PySem.F.type_list_append mt_append (pv 2) (pa_cons (pe_fn D_minus (hr.mono (by decide)) (pa_cons (pe_ix ix_list (pv 0) (pe_op op_xorN (pv 3) (pv 1)) (fun _ _ => rfl)) (pa_cons (pv 4) pa_nil))) pa_nil)))))))
  (pss_one (ps_ret (pv 2))))),
      st_norm (σ' := [some _, some _, none, none, none]) rfl ?_⟩
    walk_at "rd"
    refine ⟨Nat.zero_le _, fun fo nfo => ?_⟩
    have b0 : Bld H (upd H fo (.lst [])) fo [] := Bld.mk0 nfo
    generalize upd H fo (.lst []) = H1 at *
    walk_at "rd"
    refine ⟨l, us, rfl, SqL.of (b0.same _ _ hus), for_it (walk_enum (K := K) (a := l) (xs := us)) (fun i σ H2 => ∃ x3 x4 ws, σ = [some (.ref l), some (.int ((1 <<< wi : Nat) : Int)), some (.ref fo), x3, x4] ∧ Bld H H2 fo ws ∧ All2 (INum H2) ws (tab i (chg g (.one .mix wi))))
      ⟨none, none, [], rfl, b0, trivial⟩ (fun i σ H2 _ ⟨_, _, _, _, b, _⟩ => SqL.of (b.same _ _ hus)) ?_ ?_⟩
    · rintro i v σ H2 H3 hi ⟨x3, x4, ws, rfl, b2, hw⟩ ⟨t, x, y, rfl, nt, rfl, ex, ey⟩
      have ex' : V.int ((i : Nat) : Int) = x := Option.some.inj ex
      subst ex'
      obtain ⟨hi2, hy⟩ := hget' i y ey
      have b3 := b2.more (same_new (o := .tup [V.int (i : Int), y]) nt)
      have z3 : Same H2 (upd H2 t (.tup [V.int (i : Int), y])) := same_new nt
      have h3 : upd H2 t (.tup [V.int (i : Int), y]) t = some (.tup [V.int (i : Int), y]) := upd_same
      generalize upd H2 t (.tup [V.int (i : Int), y]) = H3 at *
      have hat := b3.at_
      have hus3 := b3.same _ _ hus
      have hwl := hw.len
      rw [tab_len] at hwl
      obtain ⟨u, eu, hu⟩ := hget (i ^^^ (1 <<< wi)) (xor_lt hi2 hm)
      have hu3 := hu.mono (tp_of b3.same)
      have hy3 := hy.mono (tp_of b3.same)
      rw [tab_succ]
      have ech : chg g (.one .mix wi) i = if i.testBit wi then gsub (g (i ^^^ (1 <<< wi))) (g i) else gadd (g i) (g (i ^^^ (1 <<< wi))) := rfl
      rw [ech]
      walk_at "rd"
      refine rd_dec (fun hb => ?_) (fun hb => ?_)
      · have hb' := (and_mask i wi).mp hb
        rw [if_neg (by rw [hb']; exact Bool.false_ne_true)]
        walk_at "rd"
        refine rd_ixL hus3 (atI_nat eu) ?_
        walk_at "rd"
        refine ⟨y, u, _, _, rfl, hy3, hu3, fun p H4 z4 r4 => ?_⟩
        walk_at "rd"
        obtain ⟨b5, hw5⟩ := Bld.push mNum b2 hw (z3.trans z4) (y := p) r4
        refine rd_app (z4 _ _ hat) (by omega) ?_
        exact ⟨_, _, _, rfl, b5, hw5⟩
      · have hb' : i.testBit wi = true := by
          cases q : i.testBit wi
          · exact absurd ((and_mask i wi).mpr q) hb
          · rfl
        rw [if_pos hb']
        walk_at "rd"
        refine rd_ixL hus3 (atI_nat eu) ?_
        walk_at "rd"
        refine ⟨u, y, _, _, rfl, hu3, hy3, fun p H4 z4 r4 => ?_⟩
        walk_at "rd"
        obtain ⟨b5, hw5⟩ := Bld.push mNum b2 hw (z3.trans z4) (y := p) r4
        refine rd_app (z4 _ _ hat) (by omega) ?_
        exact ⟨_, _, _, rfl, b5, hw5⟩
    · rintro σ H2 ⟨x3, x4, ws, rfl, b2, hw⟩
      walk_at "rd"
      rw [hul] at hw
      exact k fo H2 b2.same b2.new ⟨ws, b2.at_, hw⟩
abbrev s_after_spin : Stmt := top 47
theorem sc_after_spin : FnScope ["vector", "mask", "turn", "found", "at", "number"] ["vector", "mask", "turn"] (defScope s_after_spin) := ⟨rfl, rfl, rfl, by decide +kernel, rfl, by decide +kernel, by decide +kernel⟩
theorem ok_after_spin (T : Tx K mg w) (F : Fun K "after_spin" "after_spin" s_after_spin f fd) (D_spun : Df P w K mg base 1 "spun" ["number", "turn"] spSpun) : FnOk P w K mg base CX0 2 f fd ["vector", "mask", "turn"] spAfterSpin := by
  refine F.ok sc_after_spin (fun vs H Q E h => ?_) (fun cdv A outer s H vs Q E hr h => ?_)
  · obtain ⟨l, n, mask, t, g, rfl, _⟩ := h
    rfl
  · obtain ⟨l, n, mask, tn, g, rfl, hn, hv, k⟩ := h
    obtain ⟨us, hus, hul, hget, hget'⟩ := hv.row
    have p6 := pow6 hn
    refine ⟨_, (pss_cons (ps_set (i := 3) sc_after_spin.nd rfl (Or.inl rfl) (pe_lst pa_nil))
  (pss_cons (ps_for PassesOwn.never rfl (pi_enum (by rfl) T.b_enumerate (pa_cons (pv 0) pa_nil)) (pg_tup rfl (pgs_cons (pg_name (i := 4) sc_after_spin.nd rfl (Or.inl rfl)) (pgs_cons (pg_name (i := 5) sc_after_spin.nd rfl (Or.inl rfl)) pgs_nil)))
    (pss_cons (ps_if (pt_cmpR op_eqN (pe_op op_andN (pv 4) (pv 1)) (pv 1) (nomark _))
    (pss_one (ps_set (i := 5) sc_after_spin.nd rfl (Or.inl rfl) (pe_fn D_spun (hr.mono (by decide)) (pa_cons (pv 5) (pa_cons (pv 2) pa_nil)))))
    pss_nil)
  (pss_one (ps_expr (pe_bm PySem.F.plainAttrs_list PySem.F.slot_list_append PySem.F.type_list_append mt_append (pv 3) (pa_cons (pv 5) pa_nil))))))
  (pss_one (ps_ret (pv 3))))),
      st_norm (σ' := [some _, some _, some _, none, none, none]) rfl ?_⟩
    walk_at "rd"
    refine ⟨Nat.zero_le _, fun fo nfo => ?_⟩
    have b0 : Bld H (upd H fo (.lst [])) fo [] := Bld.mk0 nfo
    generalize upd H fo (.lst []) = H1 at *
    walk_at "rd"
    refine ⟨l, us, rfl, SqL.of (b0.same _ _ hus), for_it (walk_enum (K := K) (a := l) (xs := us)) (fun i σ H2 => ∃ x3 x4 ws, σ = [some (.ref l), some (.int (mask : Int)), some (.int (tn : Int)), some (.ref fo), x3, x4] ∧ Bld H H2 fo ws ∧ All2 (INum H2) ws (tab i (spinM g mask tn)))
      ⟨none, none, [], rfl, b0, trivial⟩ (fun i σ H2 _ ⟨_, _, _, _, b, _⟩ => SqL.of (b.same _ _ hus)) ?_ ?_⟩
    · rintro i v σ H2 H3 hi ⟨x3, x4, ws, rfl, b2, hw⟩ ⟨t, x, y, rfl, nt, rfl, ex, ey⟩
      have ex' : V.int ((i : Nat) : Int) = x := Option.some.inj ex
      subst ex'
      obtain ⟨hi2, hy⟩ := hget' i y ey
      have b3 := b2.more (same_new (o := .tup [V.int (i : Int), y]) nt)
      have z3 : Same H2 (upd H2 t (.tup [V.int (i : Int), y])) := same_new nt
      have h3 : upd H2 t (.tup [V.int (i : Int), y]) t = some (.tup [V.int (i : Int), y]) := upd_same
      generalize upd H2 t (.tup [V.int (i : Int), y]) = H3 at *
      have hat := b3.at_
      have hwl := hw.len
      rw [tab_len] at hwl
      have hy3 := hy.mono (tp_of b3.same)
      rw [tab_succ]
      have ech : spinM g mask tn i = if i &&& mask = mask then spun (g i) tn else g i := rfl
      rw [ech]
      walk_at "rd"
      refine rd_dec (fun hb => ?_) (fun hb => ?_)
      · rw [if_pos hb]
        walk_at "rd"
        refine ⟨y, _, tn, rfl, hy3, fun p H4 z4 r4 => ?_⟩
        have hat4 := z4 _ _ hat
        walk_at "rd"
        obtain ⟨b5, hw5⟩ := Bld.push mNum b2 hw (z3.trans z4) (y := p) r4
        refine rd_app hat4 (by omega) ?_
        exact ⟨_, _, _, rfl, b5, hw5⟩
      · rw [if_neg hb]
        walk_at "rd"
        obtain ⟨b5, hw5⟩ := Bld.push mNum b2 hw z3 (y := y) hy3
        refine rd_app hat (by omega) ?_
        exact ⟨_, _, _, rfl, b5, hw5⟩
    · rintro σ H2 ⟨x3, x4, ws, rfl, b2, hw⟩
      walk_at "rd"
      rw [hul] at hw
      exact k fo H2 b2.same b2.new ⟨ws, b2.at_, hw⟩
end

section
variable {P : Program} {w : World} {K : PySem.W.Frag} {mg : Str → Option Value} {base : Heap} {f : Addr} {fd : FuncData}
abbrev s_source : Stmt := top 48
theorem sc_source : FnScope ["at", "move", "one", "other"] ["at", "move"] (defScope s_source) := ⟨rfl, rfl, rfl, by decide +kernel, rfl, by decide +kernel, by decide +kernel⟩
theorem ok_source (F : Fun K "source" "source" s_source f fd) : FnOk P w K mg base CX0 1 f fd ["at", "move"] spSource := by
  refine F.ok sc_source (fun vs H Q E h => ?_) (fun cdv A outer s H vs Q E hr h => ?_)
  · obtain ⟨i, v, m, rfl, _⟩ := h
    rfl
  · obtain ⟨i, v, m, rfl, hm, hp, ok, k⟩ := h
    refine ⟨_, (pss_cons (ps_set (i := 2) sc_source.nd rfl (Or.inl rfl) (pe_op op_andN (pe_op op_shrN (pv 0) (pe_ix ix_tup (pv 1) (pe_nat 1) (fun _ _ => rfl))) (pe_nat 1)))
  (pss_cons (ps_if (pt_cmpR op_eq (pe_ix ix_tup (pv 1) (pe_nat 0) (fun _ _ => rfl)) pe_str (nomark _))
    (pss_one (ps_ret (pe_op op_xorN (pv 0) (pe_op op_shlN (pe_nat 1) (pe_ix ix_tup (pv 1) (pe_nat 1) (fun _ _ => rfl))))))
    pss_nil)
  (pss_cons (ps_if (pt_cmpR op_eq (pe_ix ix_tup (pv 1) (pe_nat 0) (fun _ _ => rfl)) pe_str (nomark _))
    (pss_one (ps_ret (pe_op op_xorN (pv 0) (pe_op op_shlN (pv 2) (pe_ix ix_tup (pv 1) (pe_nat 2) (fun _ _ => rfl))))))
    pss_nil)
  (pss_cons (ps_set (i := 3) sc_source.nd rfl (Or.inl rfl) (pe_op op_andN (pe_op op_shrN (pv 0) (pe_ix ix_tup (pv 1) (pe_nat 2) (fun _ _ => rfl))) (pe_nat 1)))
  (pss_cons (ps_if (pt_cmpR op_eqN (pv 2) (pv 3) (nomark _))
    (pss_one (ps_ret (pv 0)))
    pss_nil)
  (pss_one (ps_ret (pe_op op_xorN (pe_op op_xorN (pv 0) (pe_op op_shlN (pe_nat 1) (pe_ix ix_tup (pv 1) (pe_nat 1) (fun _ _ => rfl)))) (pe_op op_shlN (pe_nat 1) (pe_ix ix_tup (pv 1) (pe_nat 2) (fun _ _ => rfl))))))))))),
      st_norm (σ' := [some _, some _, none, none]) rfl ?_⟩
    cases m with
    | one q wi =>
      obtain ⟨a, rfl, ha⟩ := hm
      have hwi : wi < 1000 := ok
      cases q with
      | flip =>
        walk_at "rd"
        exact k
      | mix => cases hp
      | quarter => cases hp
      | back => cases hp
      | sign => cases hp
    | two q wi vi =>
      obtain ⟨a, rfl, ha⟩ := hm
      have hwi : wi < 1000 := ok.1
      have hvi : vi < 1000 := ok.2.1
      have hb := bt_le i wi
      rw [← bt_eq] at hb
      cases q with
      | join =>
        walk_at "rd"
        rw [bt_eq]
        exact k
      | both => cases hp
      | swap =>
        walk_at "rd"
        rw [bt_eq, bt_eq]
        have e : src i (.two .swap wi vi) = if bt i wi = bt i vi then i else i ^^^ (1 <<< wi) ^^^ (1 <<< vi) := rfl
        rw [e] at k
        refine rd_dec (fun h => ?_) (fun h => ?_)
        · rw [if_pos h] at k
          walk_at "rd"
          exact k
        · rw [if_neg h] at k
          walk_at "rd"
          exact k
theorem and_maskT (k wi : Nat) : (k &&& (1 <<< wi) = 1 <<< wi) ↔ k.testBit wi = true := by
  constructor
  · intro h
    have e := congrArg (fun x => x.testBit wi) h
    simp only [Nat.testBit_and, shl_bit, Bool.and_true] at e
    exact e
  · intro h
    apply xor_eq_of_bits
    intro i
    rw [Nat.testBit_and, one_shl, testBit_sh]
    by_cases q : i = wi
    · subst q; rw [h]; rfl
    · simp [q]
theorem and_mask2 (k wi vi : Nat) : (k &&& (1 <<< wi ||| 1 <<< vi) = (1 <<< wi ||| 1 <<< vi)) ↔ (k.testBit wi && k.testBit vi) = true := by
  constructor
  · intro h
    have e1 := congrArg (fun x => x.testBit wi) h
    have e2 := congrArg (fun x => x.testBit vi) h
    simp only [Nat.testBit_and, Nat.testBit_or, shl_bit, Bool.true_or, Bool.or_true, Bool.and_true] at e1 e2
    rw [e1, e2]; rfl
  · intro h
    rw [Bool.and_eq_true] at h
    apply xor_eq_of_bits
    intro i
    rw [Nat.testBit_and, Nat.testBit_or, one_shl, one_shl, testBit_sh, testBit_sh]
    by_cases q : i = wi
    · subst q; rw [h.1]; simp
    · by_cases q2 : i = vi
      · subst q2; rw [h.2]; simp
      · simp [q, q2]
theorem spin_chg (g : Vec) (q : K1) (wi : Nat) (h1 : q ≠ .mix) (h2 : q ≠ .flip) : spinM g (1 <<< wi) (spinOf q) = chg g (.one q wi) := by
  funext k
  unfold spinM
  rw [chg_spin g q wi h1 h2]
  by_cases c : k.testBit wi = true
  · rw [if_pos ((and_maskT k wi).mpr c), c]; simp
  · rw [if_neg fun z => c ((and_maskT k wi).mp z)]
    have c' : k.testBit wi = false := by simpa using c
    rw [c']; simp [spun_zero]
theorem both_chg (g : Vec) (wi vi : Nat) : spinM g (1 <<< wi ||| 1 <<< vi) 2 = chg g (.two .both wi vi) := by
  funext k
  show (if _ then _ else _) = (if (k.testBit wi && k.testBit vi) = true then spun (g k) 2 else g k)
  by_cases c : (k.testBit wi && k.testBit vi) = true
  · rw [if_pos c, if_pos ((and_mask2 k wi vi).mpr c)]
  · rw [if_neg c, if_neg fun z => c ((and_mask2 k wi vi).mp z)]
theorem src_chg (g : Vec) (m : Mv) (h : isPerm m = true) (k : Nat) : chg g m k = g (src k m) := by
  cases m with
  | one q wi => cases q <;> first | (cases h; done) | rfl
  | two q wi vi =>
    cases q with
    | join => rfl
    | both => cases h
    | swap =>
      show (if k.testBit wi = k.testBit vi then g k else g (k ^^^ (1 <<< wi) ^^^ (1 <<< vi))) = g (if bt k wi = bt k vi then k else _)
      unfold bt
      cases k.testBit wi <;> cases k.testBit vi <;> rfl
theorem src_lt {n k : Nat} {m : Mv} (hk : k < 2 ^ n) (hm : m.Ok n) (h : isPerm m = true) : src k m < 2 ^ n := by
  cases m with
  | one q wi => exact xor_lt hk (by rw [one_shl]; exact sh_lt hm)
  | two q wi vi =>
    cases q with
    | join => exact xor_lt hk (by rw [bt_shl]; exact sh_lt hm.2.1)
    | both => cases h
    | swap =>
      show (if bt k wi = bt k vi then k else k ^^^ (1 <<< wi) ^^^ (1 <<< vi)) < 2 ^ n
      split
      · exact hk
      · exact xor_lt (xor_lt hk (by rw [one_shl]; exact sh_lt hm.1)) (by rw [one_shl]; exact sh_lt hm.2.1)
theorem okK {n : Nat} {m : Mv} (hn : n ≤ 1000) (h : m.Ok n) : m.Ok 1000 := by
  cases m with
  | one q wi => have : wi < n := h; show wi < 1000; omega
  | two q wi vi => exact ⟨by have := h.1; omega, by have := h.2.1; omega, h.2.2⟩
abbrev s_changed : Stmt := top 49
theorem sc_changed : FnScope ["vector", "move", "mask", "at"] ["vector", "move"] (defScope s_changed) := ⟨rfl, rfl, rfl, by decide +kernel, rfl, by decide +kernel, by decide +kernel⟩
theorem ok_changed (T : Tx K mg w) (F : Fun K "changed" "changed" s_changed f fd) (D_after_mix : Df P w K mg base 2 "after_mix" ["vector", "mask"] spAfterMix) (D_after_spin : Df P w K mg base 2 "after_spin" ["vector", "mask", "turn"] spAfterSpin)
    (D_source : Df P w K mg base 1 "source" ["at", "move"] spSource) : FnOk P w K mg base CX0 3 f fd ["vector", "move"] spChanged := by
  refine F.ok sc_changed (fun vs H Q E h => ?_) (fun cdv A outer s H vs Q E hr h => ?_)
  · obtain ⟨l, n, g, v, m, rfl, _⟩ := h
    rfl
  · obtain ⟨l, n, g, v, m, rfl, hn, hv, hm, ok, k⟩ := h
    obtain ⟨aS, hS, ⟨tq, kq⟩, ⟨ts, ks⟩, ⟨tb, kb⟩, kf, kj, kbo, ksw⟩ := T.spins
    refine ⟨_, (pss_cons (ps_set (i := 2) sc_changed.nd rfl (Or.inl rfl) (pe_op op_shlN (pe_nat 1) (pe_ix ix_tup (pv 1) (pe_nat 1) (fun _ _ => rfl))))
  (pss_cons (ps_if (pt_cmpR op_eq (pe_ix ix_tup (pv 1) (pe_nat 0) (fun _ _ => rfl)) pe_str (nomark _))
    (pss_one (ps_ret (pe_fn D_after_mix (hr.mono (by decide)) (pa_cons (pv 0) (pa_cons (pv 2) pa_nil)))))
    pss_nil)
  (pss_cons (ps_if (pt_cmpR op_inKd (pe_ix ix_tup (pv 1) (pe_nat 0) (fun _ _ => rfl)) (pe_glob (v := .ref aS) rfl hS rfl) (by rfl))
    (pss_one (ps_ret (pe_fn D_after_spin (hr.mono (by decide)) (pa_cons (pv 0) (pa_cons (pv 2) (pa_cons (pe_ix ix_kdict (pe_glob (v := .ref aS) rfl hS rfl) (pe_ix ix_tup (pv 1) (pe_nat 0) (fun _ _ => rfl)) (fun _ _ => rfl)) pa_nil))))))
    pss_nil)
  (pss_cons (ps_if (pt_cmpR op_eq (pe_ix ix_tup (pv 1) (pe_nat 0) (fun _ _ => rfl)) pe_str (nomark _))
    (pss_one (ps_ret (pe_fn D_after_spin (hr.mono (by decide)) (pa_cons (pv 0) (pa_cons (pe_op op_orN (pv 2) (pe_op op_shlN (pe_nat 1) (pe_ix ix_tup (pv 1) (pe_nat 2) (fun _ _ => rfl)))) (pa_cons (pe_nat 2) pa_nil))))))
    pss_nil)
  (pss_one (ps_ret (pe_lc (own := [("at", 3)]) (g := gName 3) rfl sc_changed.nd (pi_range1 (by rfl) T.b_range (pa_cons (pe_callB call_lenS (by rfl) T.b_len PySem.boot_len (pa_cons (pv 0) pa_nil)) pa_nil)) (blkOk_by (N := ["vector", "move", "mask", "at"]) (sc := defScope s_changed) (by decide +kernel)) (fun _ _ _ _ _ => pg_name (i := 3) sc_changed.nd rfl (Or.inl rfl)) (fun _ _ _ _ _ => pts_nil) (fun _ _ _ _ _ => (pe_ix (show IxR _ (rIxL K) from ix_list) (pv 0) (pe_fn D_source (hr.mono (by decide)) (pa_cons (pv 3) (pa_cons (pv 1) pa_nil))) (fun _ _ => rfl)))))))))),
      st_norm (σ' := [some _, some _, none, none]) rfl ?_⟩
    obtain ⟨us, hus, hul, hget, hget'⟩ := hv.row
    have p6 := pow6 hn
    cases m with
    | one q wi =>
      obtain ⟨a, rfl, ha⟩ := hm
      have hwi : wi < n := ok
      cases q with
      | mix =>
        walk_at "rd"
        exact ⟨l, n, wi, g, rfl, hn, hwi, hv, fun p H1 z1 n1 r1 => k p H1 z1 n1 r1⟩
      | quarter =>
        walk_at "rd"
        refine ⟨aS, _, _, rfl, rfl, kq, rd_bl (rd_bT rfl ?_)⟩
        walk_at "rd"
        refine ⟨aS, _, .int ((1 : Nat) : Int), rfl, rfl, kq.get ⟨_, rfl⟩, ?_⟩
        walk_at "rd"
        exact ⟨l, n, _, 1, g, rfl, hn, hv, fun p H1 z1 n1 r1 => k p H1 z1 n1 (by rw [← spin_chg g .quarter wi (by decide) (by decide)]; exact r1)⟩
      | sign =>
        walk_at "rd"
        refine ⟨aS, _, _, rfl, rfl, ks, rd_bl (rd_bT rfl ?_)⟩
        walk_at "rd"
        refine ⟨aS, _, .int ((2 : Nat) : Int), rfl, rfl, ks.get ⟨_, rfl⟩, ?_⟩
        walk_at "rd"
        exact ⟨l, n, _, 2, g, rfl, hn, hv, fun p H1 z1 n1 r1 => k p H1 z1 n1 (by rw [← spin_chg g .sign wi (by decide) (by decide)]; exact r1)⟩
      | back =>
        walk_at "rd"
        refine ⟨aS, _, _, rfl, rfl, kb, rd_bl (rd_bT rfl ?_)⟩
        walk_at "rd"
        refine ⟨aS, _, .int ((3 : Nat) : Int), rfl, rfl, kb.get ⟨_, rfl⟩, ?_⟩
        walk_at "rd"
        exact ⟨l, n, _, 3, g, rfl, hn, hv, fun p H1 z1 n1 r1 => k p H1 z1 n1 (by rw [← spin_chg g .back wi (by decide) (by decide)]; exact r1)⟩
      | flip =>
        walk_at "rd"
        refine ⟨aS, _, _, rfl, rfl, kf, rd_bl (rd_bF rfl ?_)⟩
        walk_at "rd"
        rw [hul]
        refine ⟨_, rfl, by omega, by omega, fun D hD => lc_map (walk_range (lo := 0) (n := 2 ^ n)) (R := INum) mNum (tab (2 ^ n) (chg g (.one .flip wi))) (tab_len _ _) hD (by omega) (fun _ => by rfl) (fun _ _ => trivial)
          (fun i x H1 H1' d hi s1 hx ed QQ kq => ?_) (fun H1 ws s1 hws ha1 => ?_)⟩
        · obtain ⟨rfl, rfl⟩ := hx
          have e0 : (0 : Int) + (i : Int) = (i : Int) := Int.zero_add _
          dsimp only
          rw [e0]
          rw [tab_get _ hi] at ed
          have ed' := Option.some.inj ed
          rw [src_chg g (.one .flip wi) rfl] at ed'
          obtain ⟨u, eu, hu⟩ := hget _ (src_lt (m := .one .flip wi) hi ok rfl)
          have hus1 := s1 _ _ hus
          walk_at "rd"
          refine ⟨i, .ref a, .one .flip wi, rfl, ⟨a, rfl, s1 _ _ ha⟩, rfl, okK (by omega) ok, ?_⟩
          refine rd_ixL hus1 (atI_nat eu) ?_
          exact kq u H1' (Same.refl _) (by rw [← ed']; exact hu.mono (tp_of s1))
        · exact k D H1 s1 hD ⟨ws, hws, ha1⟩
    | two q wi vi =>
      obtain ⟨a, rfl, ha⟩ := hm
      have hwi : wi < n := ok.1
      have hvi : vi < n := ok.2.1
      cases q with
      | both =>
        walk_at "rd"
        refine ⟨aS, _, _, rfl, rfl, kbo, rd_bl (rd_bF rfl ?_)⟩
        walk_at "rd"
        exact ⟨l, n, _, 2, g, rfl, hn, hv, fun p H1 z1 n1 r1 => k p H1 z1 n1 (by rw [← both_chg]; exact r1)⟩
      | join =>
        walk_at "rd"
        refine ⟨aS, _, _, rfl, rfl, kj, rd_bl (rd_bF rfl ?_)⟩
        walk_at "rd"
        rw [hul]
        refine ⟨_, rfl, by omega, by omega, fun D hD => lc_map (walk_range (lo := 0) (n := 2 ^ n)) (R := INum) mNum (tab (2 ^ n) (chg g (.two .join wi vi))) (tab_len _ _) hD (by omega) (fun _ => by rfl) (fun _ _ => trivial)
          (fun i x H1 H1' d hi s1 hx ed QQ kq => ?_) (fun H1 ws s1 hws ha1 => ?_)⟩
        · obtain ⟨rfl, rfl⟩ := hx
          have e0 : (0 : Int) + (i : Int) = (i : Int) := Int.zero_add _
          dsimp only
          rw [e0]
          rw [tab_get _ hi] at ed
          have ed' := Option.some.inj ed
          rw [src_chg g (.two .join wi vi) rfl] at ed'
          obtain ⟨u, eu, hu⟩ := hget _ (src_lt (m := .two .join wi vi) hi ok rfl)
          have hus1 := s1 _ _ hus
          walk_at "rd"
          refine ⟨i, .ref a, .two .join wi vi, rfl, ⟨a, rfl, s1 _ _ ha⟩, rfl, okK (by omega) ok, ?_⟩
          refine rd_ixL hus1 (atI_nat eu) ?_
          exact kq u H1' (Same.refl _) (by rw [← ed']; exact hu.mono (tp_of s1))
        · exact k D H1 s1 hD ⟨ws, hws, ha1⟩
      | swap =>
        walk_at "rd"
        refine ⟨aS, _, _, rfl, rfl, ksw, rd_bl (rd_bF rfl ?_)⟩
        walk_at "rd"
        rw [hul]
        refine ⟨_, rfl, by omega, by omega, fun D hD => lc_map (walk_range (lo := 0) (n := 2 ^ n)) (R := INum) mNum (tab (2 ^ n) (chg g (.two .swap wi vi))) (tab_len _ _) hD (by omega) (fun _ => by rfl) (fun _ _ => trivial)
          (fun i x H1 H1' d hi s1 hx ed QQ kq => ?_) (fun H1 ws s1 hws ha1 => ?_)⟩
        · obtain ⟨rfl, rfl⟩ := hx
          have e0 : (0 : Int) + (i : Int) = (i : Int) := Int.zero_add _
          dsimp only
          rw [e0]
          rw [tab_get _ hi] at ed
          have ed' := Option.some.inj ed
          rw [src_chg g (.two .swap wi vi) rfl] at ed'
          obtain ⟨u, eu, hu⟩ := hget _ (src_lt (m := .two .swap wi vi) hi ok rfl)
          have hus1 := s1 _ _ hus
          walk_at "rd"
          refine ⟨i, .ref a, .two .swap wi vi, rfl, ⟨a, rfl, s1 _ _ ha⟩, rfl, okK (by omega) ok, ?_⟩
          refine rd_ixL hus1 (atI_nat eu) ?_
          exact kq u H1' (Same.refl _) (by rw [← ed']; exact hu.mono (tp_of s1))
        · exact k D H1 s1 hD ⟨ws, hws, ha1⟩
abbrev s_struck : Stmt := top 50
theorem sc_struck : FnScope ["vector", "row", "turn", "xs", "zs", "found", "at", "other"] ["vector", "row"] (defScope s_struck) := ⟨rfl, rfl, rfl, by decide +kernel, rfl, by decide +kernel, by decide +kernel⟩
theorem ok_struck (T : Tx K mg w) (F : Fun K "struck" "struck" s_struck f fd) (D_spun : Df P w K mg base 1 "spun" ["number", "turn"] spSpun) (D_ones : Df P w K mg base 1 "ones" ["number"] spOnes) : FnOk P w K mg base CX0 2 f fd ["vector", "row"] spStruck := by
  refine F.ok sc_struck (fun vs H Q E h => ?_) (fun cdv A outer s H vs Q E hr h => ?_)
  · obtain ⟨l, n, g, v, r, rfl, _⟩ := h
    rfl
  · obtain ⟨l, n, g, v, r, rfl, hn, hv, ⟨ar, rfl, har⟩, hx, k⟩ := h
    obtain ⟨us, hus, hul, hget, hget'⟩ := hv.row
    have p6 := pow6 hn
    refine ⟨_, (pss_cons (ps_asg (pv 1) (pg_tup rfl (pgs_cons (pg_name (i := 2) sc_struck.nd rfl (Or.inl rfl)) (pgs_cons (pg_name (i := 3) sc_struck.nd rfl (Or.inl rfl)) (pgs_cons (pg_name (i := 4) sc_struck.nd rfl (Or.inl rfl)) pgs_nil)))))
  (pss_cons (ps_set (i := 5) sc_struck.nd rfl (Or.inl rfl) (pe_lst pa_nil))
  (pss_cons (ps_for PassesOwn.never rfl (pi_range1 (by rfl) T.b_range (pa_cons (pe_callB call_lenS (by rfl) T.b_len PySem.boot_len (pa_cons (pv 0) pa_nil)) pa_nil)) (pg_name (i := 6) sc_struck.nd rfl (Or.inl rfl))
    (pss_cons (ps_set (i := 7) sc_struck.nd rfl (Or.inl rfl) (pe_op op_xorN (pv 6) (pv 3)))
  (pss_one (ps_expr (pe_bm PySem.F.plainAttrs_list PySem.F.slot_list_append PySem.F.type_list_append mt_append (pv 5) (pa_cons (pe_fn D_spun (hr.mono (by decide)) (pa_cons (pe_ix ix_list (pv 0) (pv 7) (fun _ _ => rfl)) (pa_cons (pe_op op_addN (pv 2) (pe_op op_mulN (pe_nat 2) (pe_fn D_ones (hr.mono (by decide)) (pa_cons (pe_op op_andN (pv 4) (pv 7)) pa_nil)))) pa_nil))) pa_nil))))))
  (pss_one (ps_ret (pv 5)))))),
      st_norm (σ' := [some _, some _, none, none, none, none, none, none]) rfl ?_⟩
    walk_at "rd"
    refine ⟨Nat.zero_le _, fun fo nfo => ?_⟩
    have b0 : Bld H (upd H fo (.lst [])) fo [] := Bld.mk0 nfo
    generalize upd H fo (.lst []) = H1 at *
    have hus1 := b0.same _ _ hus
    walk_at "rd"
    rw [hul]
    refine ⟨_, rfl, by omega, by omega, for_range (lo := 0) (n := 2 ^ n) (fun i σ H2 => ∃ x6 x7 ws, σ = [some (.ref l), some (.ref ar), some (.int (r.t : Int)), some (.int (r.x : Int)), some (.int (r.z : Int)), some (.ref fo), x6, x7] ∧ Bld H H2 fo ws ∧ All2 (INum H2) ws (tab i (strike g r)))
      ⟨none, none, [], rfl, b0, trivial⟩ ?_ ?_⟩
    · rintro i σ H2 hi ⟨x6, x7, ws, rfl, b2, hw⟩
      have e0 : (0 : Int) + (i : Int) = (i : Int) := Int.zero_add _
      rw [e0]
      have hat := b2.at_
      have hus2 := b2.same _ _ hus
      have hwl := hw.len
      rw [tab_len] at hwl
      obtain ⟨u, eu, hu⟩ := hget (i ^^^ r.x) (xor_lt hi hx)
      rw [tab_succ]
      walk_at "rd"
      refine rd_ixL hus2 (atI_nat eu) ?_
      walk_at "rd"
      refine ⟨u, _, _, rfl, hu.mono (tp_of b2.same), fun p H3 z3 r3 => ?_⟩
      walk_at "rd"
      obtain ⟨b5, hw5⟩ := Bld.push mNum b2 hw z3 (y := p) (d := strike g r i) r3
      refine rd_app (z3 _ _ hat) (by omega) ?_
      exact ⟨_, _, _, rfl, b5, hw5⟩
    · rintro σ H2 ⟨x6, x7, ws, rfl, b2, hw⟩
      walk_at "rd"
      exact k fo H2 b2.same b2.new ⟨ws, b2.at_, hw⟩
abbrev s_parted : Stmt := top 51
theorem sc_parted : FnScope ["vector", "row", "answer", "found", "number", "other"] ["vector", "row", "answer"] (defScope s_parted) := ⟨rfl, rfl, rfl, by decide +kernel, rfl, by decide +kernel, by decide +kernel⟩
theorem ok_parted (T : Tx K mg w) (F : Fun K "parted" "parted" s_parted f fd) (D_struck : Df P w K mg base 2 "struck" ["vector", "row"] spStruck) (D_plus : Df P w K mg base 1 "plus" ["one", "other"] spPlus) (D_minus : Df P w K mg base 1 "minus" ["one", "other"] spMinus) : FnOk P w K mg base CX0 3 f fd ["vector", "row", "answer"] spParted := by
  refine F.ok sc_parted (fun vs H Q E h => ?_) (fun cdv A outer s H vs Q E hr h => ?_)
  · obtain ⟨l, n, g, v, r, c, rfl, _⟩ := h
    rfl
  · obtain ⟨l, n, g, v, r, c, rfl, hn, hv, hrow, hx, k⟩ := h
    obtain ⟨us, hus, hul, hget, hget'⟩ := hv.row
    have p6 := pow6 hn
    refine ⟨_, (pss_cons (ps_set (i := 3) sc_parted.nd rfl (Or.inl rfl) (pe_lst pa_nil))
  (pss_cons (ps_for PassesOwn.never rfl (pi_zip (by rfl) T.b_zip (pa_cons (pv 0) (pa_cons (pe_fn D_struck (hr.mono (by decide)) (pa_cons (pv 0) (pa_cons (pv 1) pa_nil))) pa_nil))) (pg_tup rfl (pgs_cons (pg_name (i := 4) sc_parted.nd rfl (Or.inl rfl)) (pgs_cons (pg_name (i := 5) sc_parted.nd rfl (Or.inl rfl)) pgs_nil)))
    (pss_one (ps_if (pt_cmpR op_eqN (pv 2) (pe_nat 0) (nomark _))
    (pss_one (ps_expr (pe_bm PySem.F.plainAttrs_list PySem.F.slot_list_append PySem.F.type_list_append mt_append (pv 3) (pa_cons (pe_fn D_plus (hr.mono (by decide)) (pa_cons (pv 4) (pa_cons (pv 5) pa_nil))) pa_nil))))
    (pss_one (ps_expr (pe_bm PySem.F.plainAttrs_list PySem.F.slot_list_append PySem.F.type_list_append mt_append (pv 3) (pa_cons (pe_fn D_minus (hr.mono (by decide)) (pa_cons (pv 4) (pa_cons (pv 5) pa_nil))) pa_nil)))))))
  (pss_one (ps_ret (pv 3))))),
      st_norm (σ' := [some _, some _, some _, none, none, none]) rfl ?_⟩
    walk_at "rd"
    refine ⟨Nat.zero_le _, fun fo nfo => ?_⟩
    have b0 : Bld H (upd H fo (.lst [])) fo [] := Bld.mk0 nfo
    generalize upd H fo (.lst []) = H1 at *
    walk_at "rd"
    refine ⟨l, n, g, v, r, rfl, hn, hv.mono b0.same, hrow.mono (tp_of b0.same), hx, fun m H2 z2 nm hm => ?_⟩
    obtain ⟨ws0, hws0, hwl0, hgetw, hgetw'⟩ := hm.row
    have b1 := b0.more z2
    have hne : m ≠ fo := (ne_of_none b0.at_ nm).symm
    have hus2 := b1.same _ _ hus
    refine ⟨l, m, us, ws0, rfl, SqL.of hus2, SqL.of hws0, RZ.for_zipL (K := K) (a := l) (b := m) (xs := us) (ys := ws0) (by rw [hul, hwl0]) (fun i σ H3 => ∃ x4 x5 ws, σ = [some (.ref l), some v, some (.int (c : Int)), some (.ref fo), x4, x5] ∧ Bld H H3 fo ws ∧ H3 m = some (.lst ws0) ∧ Tp H2 H3 ∧ All2 (INum H3) ws (tab i (part g r c)))
      ⟨none, none, [], rfl, b1, hws0, Tp.refl _, trivial⟩ (fun i σ H3 ⟨_, _, _, _, b, h3, _⟩ => ⟨SqL.of (b.same _ _ hus), SqL.of h3⟩) ?_ ?_⟩
    · rintro i x y t σ H3 ex ey ⟨x4, x5, ws, rfl, b3, h3, tp3, hw⟩ nt
      obtain ⟨hi, hx3⟩ := hget' i x ex
      obtain ⟨_, hy3⟩ := hgetw' i y ey
      have z4 : Same H3 (upd H3 t (.tup [x, y])) := same_new nt
      have h4 : upd H3 t (.tup [x, y]) t = some (.tup [x, y]) := upd_same
      generalize upd H3 t (.tup [x, y]) = H4 at *
      have hat := b3.at_
      have hwl := hw.len
      rw [tab_len] at hwl
      have hx4 := hx3.mono (tp_of (b3.same.trans z4))
      have hy4 := hy3.mono (tp3.trans (tp_of z4))
      rw [tab_succ]
      walk_at "rd"
      have tail : ∀ (p : V) (H5 : Hp) (z5 : Same H4 H5) (gg : G) (r5 : INum H5 p gg) (e : part g r c i = gg), ∃ x4 x5 ws', [some (.ref l), some v, some (.int (c : Int)), some (.ref fo), some x, some y] = [some (.ref l), some v, some (.int (c : Int)), some (.ref fo), x4, x5] ∧ Bld H (upd H5 fo (.lst (ws ++ [p]))) fo ws' ∧ upd H5 fo (.lst (ws ++ [p])) m = some (.lst ws0) ∧ Tp H2 (upd H5 fo (.lst (ws ++ [p]))) ∧ All2 (INum (upd H5 fo (.lst (ws ++ [p])))) ws' (tab i (part g r c) ++ [part g r c i]) := fun p H5 z5 gg r5 e => by
        obtain ⟨b6, hw6⟩ := Bld.push mNum b3 hw (z4.trans z5) (y := p) (d := part g r c i) (by rw [e]; exact r5)
        refine ⟨_, _, _, rfl, b6, ?_, ?_, hw6⟩
        · rw [upd_ne hne]; exact z5 _ _ (z4 _ _ h3)
        · exact (tp3.trans (tp_of (z4.trans z5))).trans (tp_put ((z4.trans z5) _ _ hat))
      refine rd_dec (fun hc => ?_) (fun hc => ?_)
      · walk_at "rd"
        refine ⟨x, y, _, _, rfl, hx4, hy4, fun p H5 z5 r5 => ?_⟩
        walk_at "rd"
        refine rd_app (z5 _ _ (z4 _ _ hat)) (by omega) ?_
        exact tail p H5 z5 _ r5 (by unfold part; rw [if_pos hc]; rfl)
      · walk_at "rd"
        refine ⟨x, y, _, _, rfl, hx4, hy4, fun p H5 z5 r5 => ?_⟩
        walk_at "rd"
        refine rd_app (z5 _ _ (z4 _ _ hat)) (by omega) ?_
        exact tail p H5 z5 _ r5 (by unfold part; rw [if_neg hc]; rfl)
    · rintro σ H3 ⟨x4, x5, ws, rfl, b3, h3, tp3, hw⟩
      walk_at "rd"
      rw [hul] at hw
      exact k fo H3 b3.same b3.new ⟨ws, b3.at_, hw⟩
theorem bd_add {a b : G} {n : Nat} (h1 : a.1.natAbs < 2 ^ n ∧ a.2.natAbs < 2 ^ n) (h2 : b.1.natAbs < 2 ^ n ∧ b.2.natAbs < 2 ^ n) : ((gadd a b).1.natAbs < 2 ^ (n + 1) ∧ (gadd a b).2.natAbs < 2 ^ (n + 1)) ∧ ((gsub a b).1.natAbs < 2 ^ (n + 1) ∧ (gsub a b).2.natAbs < 2 ^ (n + 1)) := by
  have e : 2 ^ (n + 1) = 2 ^ n + 2 ^ n := by rw [Nat.pow_succ]; omega
  rw [e]
  generalize 2 ^ n = N at *
  show ((a.1 + b.1).natAbs < _ ∧ (a.2 + b.2).natAbs < _) ∧ ((a.1 - b.1).natAbs < _ ∧ (a.2 - b.2).natAbs < _)
  omega
theorem bd_spun {a : G} {n : Nat} (t : Nat) (h : a.1.natAbs < 2 ^ n ∧ a.2.natAbs < 2 ^ n) : (spun a t).1.natAbs < 2 ^ n ∧ (spun a t).2.natAbs < 2 ^ n := by
  generalize 2 ^ n = N at *
  unfold spun
  split
  · exact ⟨by show (-a.2).natAbs < N; omega, h.1⟩
  · split
    · exact ⟨by show (-a.1).natAbs < N; omega, by show (-a.2).natAbs < N; omega⟩
    · split
      · exact ⟨h.2, by show (-a.1).natAbs < N; omega⟩
      · exact h
theorem Bd.strike {n b : Nat} {g : Vec} (h : Bd n b g) {r : Row} (hx : r.x < 2 ^ n) : Bd n b (strike g r) := fun k hk => bd_spun _ (h _ (xor_lt hk hx))
theorem small400 {a n : Nat} (h : a < 2 ^ n) (hn : n ≤ 400000) : a < 2 ^ 400000 := Nat.lt_of_lt_of_le h (Nat.pow_le_pow_right (by decide) hn)
abbrev s_weights : Stmt := top 52
theorem sc_weights : FnScope ["vector", "row", "zero", "one", "number", "other"] ["vector", "row"] (defScope s_weights) := ⟨rfl, rfl, rfl, by decide +kernel, rfl, by decide +kernel, by decide +kernel⟩
theorem ok_weights (T : Tx K mg w) (F : Fun K "weights" "weights" s_weights f fd) (D_struck : Df P w K mg base 2 "struck" ["vector", "row"] spStruck) (D_plus : Df P w K mg base 1 "plus" ["one", "other"] spPlus) (D_minus : Df P w K mg base 1 "minus" ["one", "other"] spMinus) (D_norm : Df P w K mg base 1 "norm" ["number"] spNorm) : FnOk P w K mg base CX0 3 f fd ["vector", "row"] spWeights := by
  refine F.ok sc_weights (fun vs H Q E h => ?_) (fun cdv A outer s H vs Q E hr h => ?_)
  · obtain ⟨l, n, b, g, v, r, rfl, _⟩ := h
    rfl
  · obtain ⟨l, n, b, g, v, r, rfl, hn, hv, bd, hb5, hrow, hx, k⟩ := h
    obtain ⟨us, hus, hul, hget, hget'⟩ := hv.row
    have p6 := pow6 hn
    refine ⟨_, (pss_cons (ps_set (i := 2) sc_weights.nd rfl (Or.inl rfl) pe_int)
  (pss_cons (ps_set (i := 3) sc_weights.nd rfl (Or.inl rfl) pe_int)
  (pss_cons (ps_for PassesOwn.never rfl (pi_zip (by rfl) T.b_zip (pa_cons (pv 0) (pa_cons (pe_fn D_struck (hr.mono (by decide)) (pa_cons (pv 0) (pa_cons (pv 1) pa_nil))) pa_nil))) (pg_tup rfl (pgs_cons (pg_name (i := 4) sc_weights.nd rfl (Or.inl rfl)) (pgs_cons (pg_name (i := 5) sc_weights.nd rfl (Or.inl rfl)) pgs_nil)))
    (pss_cons (ps_aug (i := 2) sc_weights.nd rfl (Or.inl rfl) (pe_fn D_norm (hr.mono (by decide)) (pa_cons (pe_fn D_plus (hr.mono (by decide)) (pa_cons (pv 4) (pa_cons (pv 5) pa_nil))) pa_nil)) ip_add)
  (pss_one (ps_aug (i := 3) sc_weights.nd rfl (Or.inl rfl) (pe_fn D_norm (hr.mono (by decide)) (pa_cons (pe_fn D_minus (hr.mono (by decide)) (pa_cons (pv 4) (pa_cons (pv 5) pa_nil))) pa_nil)) ip_add))))
  (pss_one (ps_ret (pe_tup (pa_cons (pv 2) (pa_cons (pv 3) pa_nil)))))))),
      st_norm (σ' := [some _, some _, none, none, none, none]) rfl ?_⟩
    walk_at "rd"
    refine ⟨l, n, g, v, r, rfl, hn, hv, hrow, hx, fun m H2 z2 nm hm => ?_⟩
    obtain ⟨ws0, hws0, hwl0, hgetw, hgetw'⟩ := hm.row
    have hus2 := z2 _ _ hus
    refine ⟨l, m, us, ws0, rfl, SqL.of hus2, SqL.of hws0, RZ.for_zipL (K := K) (a := l) (b := m) (xs := us) (ys := ws0) (by rw [hul, hwl0]) (fun i σ H3 => ∃ x4 x5, σ = [some (.ref l), some v, some (.int (sumN (fun k => gnorm (gadd (g k) (strike g r k))) i)), some (.int (sumN (fun k => gnorm (gsub (g k) (strike g r k))) i)), x4, x5] ∧ Same H2 H3)
      ⟨none, none, rfl, Same.refl _⟩ (fun i σ H3 ⟨_, _, _, z⟩ => ⟨SqL.of (z _ _ hus2), SqL.of (z _ _ hws0)⟩) ?_ ?_⟩
    · rintro i x y t σ H3 ex ey ⟨x4, x5, rfl, z3⟩ nt
      obtain ⟨hi, hx3⟩ := hget' i x ex
      obtain ⟨_, hy3⟩ := hgetw' i y ey
      have z4 : Same H3 (upd H3 t (.tup [x, y])) := same_new nt
      have h4 : upd H3 t (.tup [x, y]) t = some (.tup [x, y]) := upd_same
      generalize upd H3 t (.tup [x, y]) = H4 at *
      have hx4 := hx3.mono (tp_of ((z2.trans z3).trans z4))
      have hy4 := hy3.mono (tp_of (z3.trans z4))
      obtain ⟨⟨q1, q2⟩, q3, q4⟩ := bd_add (bd i hi) (bd.strike hx i hi)
      have e1 : sumN (fun k => gnorm (gadd (g k) (strike g r k))) (i + 1) = sumN (fun k => gnorm (gadd (g k) (strike g r k))) i + gnorm (gadd (g i) (strike g r i)) := rfl
      have e2 : sumN (fun k => gnorm (gsub (g k) (strike g r k))) (i + 1) = sumN (fun k => gnorm (gsub (g k) (strike g r k))) i + gnorm (gsub (g i) (strike g r i)) := rfl
      rw [e1, e2]
      generalize sumN (fun k => gnorm (gadd (g k) (strike g r k))) i = A1 at *
      generalize sumN (fun k => gnorm (gsub (g k) (strike g r k))) i = A2 at *
      walk_at "rd"
      refine ⟨x, y, _, _, rfl, hx4, hy4, fun p H5 z5 r5 => ?_⟩
      walk_at "rd"
      refine ⟨p, _, rfl, r5, small400 q1 (by omega), small400 q2 (by omega), ?_⟩
      walk_at "rd"
      refine ⟨x, y, _, _, rfl, hx4.mono (tp_of z5), hy4.mono (tp_of z5), fun p H6 z6 r6 => ?_⟩
      walk_at "rd"
      refine ⟨p, _, rfl, r6, small400 q3 (by omega), small400 q4 (by omega), ?_⟩
      walk_at "rd"
      exact ⟨_, _, rfl, ((z3.trans z4).trans z5).trans z6⟩
    · rintro σ H3 ⟨x4, x5, rfl, z3⟩
      rw [hul]
      walk_at "rd"
      refine ⟨by show 2 ≤ sizeLine; decide, rd_new fun t H4 n4 z4 h4 => ?_⟩
      exact k t H4 ((z2.trans z3).trans z4) h4
end

/-! ### the class Great as the module holds it -/
structure Gx (K : PySem.W.Frag) (mg : Str → Option Value) (C B : Addr) : Prop where
  cl : Cls K C
  gC : mg "Great" = some (.ref C)
  gB : mg "Bench" = some (.ref B)
  nW : NoAttr K C "wires"
  nA : NoAttr K C "answers"
  nS : NoAttr K C "state"
/-- a method of instances of C: dvs are the values of the parameters that the call leaves out -/
structure Dm (P : Program) (w : World) (K : PySem.W.Frag) (mg : Str → Option Value) (base : Heap) (C : Addr) (k : Nat) (m : Str) (ps : List Str) (dvs : List V) (sp : Sp) : Prop where
  ex : ∃ f fd ds, FnOk P w K mg base CX0 k f fd ps sp ∧ Meth K C m f ∧ Vals dvs ds ∧ Binds K fd ps ds
/-- a def of the class at B, called by its class -/
structure Dc (P : Program) (w : World) (K : PySem.W.Frag) (mg : Str → Option Value) (base : Heap) (B : Addr) (k : Nat) (m : Str) (ps : List Str) (sp : Sp) : Prop where
  ex : ∃ f fd mc, FnOk P w K mg base CX0 k f fd ps sp ∧ CFn K B mc m f ∧ PySem.W.keepIn K (.ref f) = true ∧ Binds K fd ps []
/-- the making of an instance -/
structure Dk (P : Program) (w : World) (K : PySem.W.Frag) (mg : Str → Option Value) (base : Heap) (C : Addr) (k : Nat) (ps : List Str) (dvs : List V) (sp : Sp) : Prop where
  ex : ∃ f fd ds, FnOk P w K mg base CX0 k f fd ps sp ∧ Mk K C f ∧ Vals dvs ds ∧ Binds K fd ps ds
section
variable {X : Cx} {k : Nat} {x m : Str} {ps : List Str} {sp : Sp} {p pos apos : Pos} {e o : Expr} {es : List Expr} {t : TA} {to : TE} {C B : Addr} {dvs : List V}
theorem pe_me {pl : Sem Bool} (D : Dm X.prog X.w X.K X.mg X.base C k m ps dvs sp) (c : Cls X.K C) (hr : Room k X.A) (he : PE X o to) (ha : PA X (e :: es) t)
    (hst : starEach (e :: es) X.env = (false, eval e X.env) :: starEach es X.env := by rfl) (hpl : (backTo pos (starEach es X.env)).any (·.1) = false := by rfl)
    (ht : eval (.Call (.Attribute o m apos) (e :: es) [] pos) X.env = (do
      let ov ← eval o X.env
      standAt apos.atName
      let (f, first) ← holding [ov] (getMethod ov m pl)
      callWith pos f first (backTo pos (starEach (e :: es) X.env)) (backToKw pos (keywordEach [] X.env))) := by rfl) :
    PE X (.Call (.Attribute o m apos) (e :: es) [] pos) (tMeth C m sp dvs E0 to t) := by
  obtain ⟨f, fd, ds, F, M, v, b⟩ := D.ex
  exact pe_meth he c M F hr b v pass0 ha hst hpl ht
theorem pe_me0 {pl : Sem Bool} (D : Dm X.prog X.w X.K X.mg X.base C k m ps dvs sp) (c : Cls X.K C) (hr : Room k X.A) (he : PE X o to)
    (ht : eval (.Call (.Attribute o m apos) [] [] pos) X.env = (do
      let ov ← eval o X.env
      standAt apos.atName
      let (f, first) ← holding [ov] (getMethod ov m pl)
      callWith pos f first (backTo pos (starEach [] X.env)) (backToKw pos (keywordEach [] X.env))) := by rfl) :
    PE X (.Call (.Attribute o m apos) [] [] pos) (tMeth C m sp dvs E0 to tNil) := by
  obtain ⟨f, fd, ds, F, M, v, b⟩ := D.ex
  exact pe_meth0 he c M F hr b v pass0 ht
theorem pe_cme {pl : Sem Bool} (D : Dc X.prog X.w X.K X.mg X.base B k m ps sp) (hr : Room k X.A) (he : PE X o (tC (.ref B))) (ha : PA X (e :: es) t)
    (hst : starEach (e :: es) X.env = (false, eval e X.env) :: starEach es X.env := by rfl) (hpl : (backTo pos (starEach es X.env)).any (·.1) = false := by rfl)
    (ht : eval (.Call (.Attribute o m apos) (e :: es) [] pos) X.env = (do
      let ov ← eval o X.env
      standAt apos.atName
      let (f, first) ← holding [ov] (getMethod ov m pl)
      callWith pos f first (backTo pos (starEach (e :: es) X.env)) (backToKw pos (keywordEach [] X.env))) := by rfl) :
    PE X (.Call (.Attribute o m apos) (e :: es) [] pos) (tCall sp [] E0 t) := by
  obtain ⟨f, fd, mc, F, c, kp, b⟩ := D.ex
  exact pe_cfn he c kp F hr b .nil pass0 ha hst hpl ht
theorem pe_mk (D : Dk X.prog X.w X.K X.mg X.base C k ps dvs sp) (hr : Room (k + 1) X.A) (ha : PA X (e :: es) t) (hm : X.mg x = some (.ref C)) (hg : Gl X x := by rfl) (hdb : (x == ("__debug__" : Str)) = false := by decide)
    (he : starEach (e :: es) X.env = (false, eval e X.env) :: starEach es X.env := by rfl) (hpl : (backTo pos (starEach es X.env)).any (·.1) = false := by rfl) :
    PE X (.Call (.Name x p) (e :: es) [] pos) (tMake C sp dvs E0 t) := by
  obtain ⟨f, fd, ds, F, M, v, b⟩ := D.ex
  exact pe_make M F hr hg hm b v pass0 ha hdb he hpl
end
section
variable {σ : L2.St} {H : Hp} {Q : VK} {ta tv : TE} {t : TA} {K : PySem.W.Frag} {mg : Str → Option Value} {D : Ends} {p C B dx : Addr} {m f : Str} {sp : Sp} {dvs : List V} {fs : List (Str × V)} {v y : V}
theorem rd_fldE (k : ta σ H fun x H1 => ∃ a C dx fs v, x = .ref a ∧ H1 a = some (.ins C dx fs) ∧ Cls K C ∧ NoAttr K C f ∧ fs.lookup f = some v ∧ Q v H1) : tFld K ta f σ H Q := k
theorem rd_pfld (k : tv σ H fun y H1 => ta σ H1 fun x H2 => ∃ a C dx fs, x = .ref a ∧ H2 a = some (.ins C dx fs) ∧ Cls K C ∧ NoAttr K C f ∧ fs.length < 1000 ∧ D.nx σ (upd H2 a (.ins C dx (putF f y fs)))) : sFld K ta tv f D σ H := k
theorem rd_fldA (h : H p = some (.ins C dx fs)) (c : Cls K C) (n : NoAttr K C f) (l : fs.lookup f = some v) {R : V → Prop} (k : R v) : ∃ a C dx fs v, V.ref p = .ref a ∧ H a = some (.ins C dx fs) ∧ Cls K C ∧ NoAttr K C f ∧ fs.lookup f = some v ∧ R v := ⟨p, C, dx, fs, v, rfl, h, c, n, l, k⟩
theorem rd_pfldA (h : H p = some (.ins C dx fs)) (c : Cls K C) (n : NoAttr K C f) (l : fs.length < 1000) {R : Addr → Addr → Addr → List (Str × V) → Prop} (k : R p C dx fs) : ∃ a C dx fs, V.ref p = .ref a ∧ H a = some (.ins C dx fs) ∧ Cls K C ∧ NoAttr K C f ∧ fs.length < 1000 ∧ R a C dx fs := ⟨p, C, dx, fs, rfl, h, c, n, l, k⟩
theorem rd_methA (h : H p = some (.ins C dx fs)) (l : fs.lookup m = none) {A : Prop} (k : A) : ∃ a dx fs, V.ref p = .ref a ∧ H a = some (.ins C dx fs) ∧ fs.lookup m = none ∧ A := ⟨p, dx, fs, rfl, h, l, k⟩
theorem rd_meth (k : ta σ H fun x H1 => ∃ a dx fs, x = .ref a ∧ H1 a = some (.ins C dx fs) ∧ fs.lookup m = none ∧ t σ H1 fun vs H2 => sp (x :: (vs ++ dvs)) H2 Q E0) : tMeth C m sp dvs E0 ta t σ H Q := k
theorem rd_make (k : t σ H fun vs H1 => ∀ x dx, H1 x = none → H1 dx = none → dx ≠ x → sp (.ref x :: (vs ++ dvs)) (upd (upd H1 dx (.own x)) x (.ins C dx [])) (fun v H2 => v = .non ∧ Q (.ref x) H2) E0) : tMake C sp dvs E0 t σ H Q := k
end
/-- an answer by its number -/
theorem nI_an {ans : List Nat} {k : Nat} (h : k < ans.length) : (nI ans)[k]? = some (.int ((an ans k : Nat) : Int)) := by
  unfold nI an
  rw [List.getElem?_map, List.getElem?_eq_getElem h, List.getD_eq_getElem?_getD, List.getElem?_eq_getElem h]
  rfl
theorem nI_snoc (ans : List Nat) (k : Nat) : nI (ans ++ [k]) = nI ans ++ [.int (k : Int)] := by unfold nI; rw [List.map_append]; rfl
theorem GAt.mono {C : Addr} {H H' : Hp} {p l : Addr} {n : Nat} {f : Vec} {ans : List Nat} (s : Same H H') (g : GAt C H p l n f ans) : GAt C H' p l n f ans := by
  obtain ⟨⟨dx, sl, h1, h2, h3⟩, h4⟩ := g
  exact ⟨⟨dx, sl, s _ _ h1, h2.mono s, h3⟩, s _ _ h4⟩
theorem GAt.ne {C : Addr} {H : Hp} {p l : Addr} {n : Nat} {f : Vec} {ans : List Nat} (g : GAt C H p l n f ans) : p ≠ l := by
  obtain ⟨⟨dx, sl, h1, h2, h3⟩, h4⟩ := g
  intro e
  subst e
  rw [h4] at h1
  cases h1
/-- a great bench: its tuples stay through what keeps all but two places that hold no tuples -/
theorem Keep2.tp {C : Addr} {H H' : Hp} {p l : Addr} {n : Nat} {f : Vec} {ans : List Nat} (g : GAt C H p l n f ans) (k : Keep2 p l H H') : Tp H H' := fun b xs e => by
  obtain ⟨⟨dx, sl, h1, h2, h3⟩, h4⟩ := g
  refine k b _ e ?_ ?_
  · intro q; subst q; rw [h1] at e; cases e
  · intro q; subst q; rw [h4] at e; cases e
/-- a new state -/
theorem GAt.put {C : Addr} {H H1 : Hp} {p l dx sl s1 : Addr} {n : Nat} {f : Vec} {ans : List Nat} (hp : H p = some (.ins C dx (gf n l sl))) (hl : H l = some (.lst (nI ans))) (z : Same H H1) (nw : H s1 = none) (v : IVec H1 s1 (2 ^ n) f) :
    Keep2 p l H (upd H1 p (.ins C dx (putF "state" (.ref s1) (gf n l sl)))) ∧ GAt C (upd H1 p (.ins C dx (putF "state" (.ref s1) (gf n l sl)))) p l n f ans := by
  have e : putF "state" (.ref s1) (gf n l sl) = gf n l s1 := rfl
  rw [e]
  have np : s1 ≠ p := (ne_of_none hp nw).symm
  have nl : s1 ≠ l := (ne_of_none hl nw).symm
  have npl : l ≠ p := by intro q; subst q; rw [hl] at hp; cases hp
  refine ⟨fun b o eb q _ => by rw [upd_ne q]; exact z b o eb, ⟨dx, s1, upd_same, ?_, nl⟩, by rw [upd_ne npl]; exact z _ _ hl⟩
  obtain ⟨us, hu, a⟩ := v
  refine ⟨us, by rw [upd_ne np]; exact hu, a.mono fun v d r => r.mono fun b xs eb => ?_⟩
  rw [upd_ne]
  · exact eb
  · intro q; subst q; have := z _ _ hp; rw [this] at eb; cases eb

local macro_rules | `(tactic| walk_at "rdD") => `(tactic| first
  | (with_reducible refine rd_fldE ?_) | (with_reducible refine rd_pfld ?_) | (with_reducible refine rd_meth ?_) | (with_reducible refine rd_make ?_)
  | ((with_reducible refine' rd_fldA ?hh ?cc ?nn ?ll ?_); (case hh => walk_at "hp"); (case cc => assumption); (case nn => assumption); (case ll => exact rfl))
  | ((with_reducible refine' rd_methA ?hh ?ll ?_); (case hh => walk_at "hp"); (case ll => exact rfl)))
local macro_rules | `(tactic| walk_at "rd") => `(tactic| repeat (first | walk_at "rdA" | walk_at "rdB" | walk_at "rdC" | walk_at "rdD"))

section
variable {P : Program} {w : World} {K : PySem.W.Frag} {mg : Str → Option Value} {base : Heap} {f : Addr} {fd : FuncData} {C B : Addr}
abbrev s_Bench_sign_of : Stmt := inClass (top 36) 3
theorem sc_Bench_sign_of : FnScope ["self", "number"] ["self", "number"] (defScope s_Bench_sign_of) := ⟨rfl, rfl, rfl, by decide +kernel, rfl, by decide +kernel, by decide +kernel⟩
theorem ok_sign_of (T : Tx K mg w) (G : Gx K mg C B) (F : Fun K "sign_of" "Bench.sign_of" s_Bench_sign_of f fd) : FnOk P w K mg base CX0 1 f fd ["self", "number"] (spSignOf C) := by
  refine F.ok sc_Bench_sign_of (fun vs H Q E h => ?_) (fun cdv A outer s H vs Q E hr h => ?_)
  · obtain ⟨p, l, n, i, g, ans, rfl, _⟩ := h
    rfl
  · obtain ⟨p, l, n, i, g, ans, rfl, hg, hi, k⟩ := h
    obtain ⟨⟨dx, sl, hp, hv, hs⟩, ha⟩ := hg
    have hcl := G.cl
    have hnA := G.nA
    refine ⟨_, (pss_one (ps_ret (pe_tup (pa_cons (pe_op op_mulN (pe_nat 2) (pe_ix ix_list (pe_fld (pv 0) rfl) (pv 1) (fun _ _ => rfl))) (pa_cons (pe_nat 0) (pa_cons (pe_nat 0) pa_nil)))))),
      st_norm (σ' := [some _, some _]) rfl ?_⟩
    walk_at "rd"
    refine rd_ixL ha (atI_nat (nI_an hi)) ?_
    walk_at "rd"
    refine ⟨by show 3 ≤ sizeLine; decide, rd_new fun t H1 n1 z1 h1 => ?_⟩
    exact k _ _ z1 ⟨t, rfl, h1⟩
abbrev s_Bench_signed : Stmt := inClass (top 36) 4
theorem sc_Bench_signed : FnScope ["self", "row", "numbers", "number"] ["self", "row", "numbers"] (defScope s_Bench_signed) := ⟨rfl, rfl, rfl, by decide +kernel, rfl, by decide +kernel, by decide +kernel⟩
theorem ok_signed (T : Tx K mg w) (G : Gx K mg C B) (F : Fun K "signed" "Bench.signed" s_Bench_signed f fd) (D_product : Df P w K mg base 2 "product" ["first", "second"] spProduct) (M_sign_of : Dm P w K mg base C 1 "sign_of" ["self", "number"] [] (spSignOf C)) :
    FnOk P w K mg base CX0 3 f fd ["self", "row", "numbers"] (spSignedG C) := by
  refine F.ok sc_Bench_signed (fun vs H Q E h => ?_) (fun cdv A outer s H vs Q E hr h => ?_)
  · obtain ⟨p, l, n, g, ans, v, u, r, ns, rfl, _⟩ := h
    rfl
  · obtain ⟨p, l, n, g, ans, v, u, r, ns, rfl, hg, hr0, ⟨b, rfl, hb⟩, hns, k⟩ := h
    have hcl := G.cl
    refine ⟨_, (pss_cons (ps_for PassesOwn.never rfl (pi_tup (pv 2)) (pg_name (i := 3) sc_Bench_signed.nd rfl (Or.inl rfl))
    (pss_one (ps_set (i := 1) sc_Bench_signed.nd rfl (Or.inl rfl) (pe_fn D_product (hr.mono (by decide)) (pa_cons (pv 1) (pa_cons (pe_me M_sign_of G.cl (hr.mono (by decide)) (pv 0) (pa_cons (pv 3) pa_nil)) pa_nil))))))
  (pss_one (ps_ret (pv 1)))),
      st_norm (σ' := [some _, some _, some _, none]) rfl ?_⟩
    walk_at "rd"
    refine ⟨b, rfl, ⟨_, SqT.of hb⟩, for_it (walk_tup (K := K) (a := b) (xs := nI ns)) (fun i σ H2 => ∃ v x3, σ = [some (.ref p), some v, some (.ref b), x3] ∧ Same H H2 ∧ IRow H2 v (signed ans r (ns.take i)))
      ⟨v, none, rfl, Same.refl _, by rw [List.take_zero]; exact hr0⟩ (fun i σ H2 _ ⟨_, _, _, z, _⟩ => SqT.of (z _ _ hb)) ?_ ?_⟩
    · rintro i x σ H2 H3 hi ⟨v2, x3, rfl, z2, r2⟩ hx
      obtain ⟨rfl, ex⟩ := hx
      rw [nI_len] at hi
      have ei : (nI ns)[i]? = some (V.int ((ns[i]'hi : Nat) : Int)) := by unfold nI; rw [List.getElem?_map, List.getElem?_eq_getElem hi]; rfl
      rw [ei] at ex
      have ex' := Option.some.inj ex
      subst ex'
      have hmem : ns[i]'hi ∈ ns := List.getElem_mem hi
      have hg2 := hg.mono z2
      obtain ⟨⟨dx, sl, hp, hv, hs⟩, ha⟩ := _root_.id hg2
      walk_at "rd"
      refine ⟨p, l, n, _, g, ans, rfl, hg2, hns _ hmem, fun q H4 z4 r4 => ?_⟩
      walk_at "rd"
      refine ⟨v2, q, _, _, rfl, r2.mono (tp_of z4), r4, fun q2 H5 z5 r5 => ?_⟩
      refine ⟨q2, _, rfl, (z2.trans z4).trans z5, ?_⟩
      have e : ns.take (i + 1) = ns.take i ++ [ns[i]'hi] := by rw [List.take_add_one, List.getElem?_eq_getElem hi]; rfl
      rw [e]
      unfold signed
      rw [List.foldl_append]
      exact r5
    · rintro σ H2 ⟨v2, x3, rfl, z2, r2⟩
      rw [nI_len, List.take_of_length_le (Nat.le_refl _)] at r2
      walk_at "rd"
      exact k _ _ z2 r2
abbrev s_Great_vector : Stmt := inClass (top 54) 1
theorem sc_Great_vector : FnScope ["self"] ["self"] (defScope s_Great_vector) := ⟨rfl, rfl, rfl, by decide +kernel, rfl, by decide +kernel, by decide +kernel⟩
theorem ok_vector (T : Tx K mg w) (G : Gx K mg C B) (F : Fun K "vector" "Great.vector" s_Great_vector f fd) : FnOk P w K mg base CX0 1 f fd ["self"] (spVector C) := by
  refine F.ok sc_Great_vector (fun vs H Q E h => ?_) (fun cdv A outer s H vs Q E hr h => ?_)
  · obtain ⟨p, l, n, g, ans, rfl, _⟩ := h
    rfl
  · obtain ⟨p, l, n, g, ans, rfl, hg, k⟩ := h
    obtain ⟨⟨dx, sl, hp, ⟨us, hus, hu⟩, hs⟩, ha⟩ := hg
    have hcl := G.cl
    have hnS := G.nS
    refine ⟨_, (pss_one (ps_ret (pe_callTy call_listA (by rfl) T.b_list (by decide +kernel) (pa_cons (pe_fld (pv 0) rfl) pa_nil)))),
      st_norm (σ' := [some _]) rfl ?_⟩
    walk_at "rd"
    refine ⟨sl, us, rfl, .inl (SqL.of hus), rd_new fun t H1 n1 z1 h1 => ?_⟩
    exact k t H1 z1 n1 ⟨us, h1, hu.mono fun _ _ => INum.mono (tp_of z1)⟩
abbrev s_Great_move : Stmt := inClass (top 54) 2
theorem sc_Great_move : FnScope ["self", "deed"] ["self", "deed"] (defScope s_Great_move) := ⟨rfl, rfl, rfl, by decide +kernel, rfl, by decide +kernel, by decide +kernel⟩
theorem ok_moveG (T : Tx K mg w) (G : Gx K mg C B) (F : Fun K "move" "Great.move" s_Great_move f fd) (D_changed : Df P w K mg base 3 "changed" ["vector", "move"] spChanged) : FnOk P w K mg base CX0 4 f fd ["self", "deed"] (spMoveG C) := by
  refine F.ok sc_Great_move (fun vs H Q E h => ?_) (fun cdv A outer s H vs Q E hr h => ?_)
  · obtain ⟨p, l, n, g, ans, v, m, rfl, _⟩ := h
    rfl
  · obtain ⟨p, l, n, g, ans, v, m, rfl, hn, hg, hm, ok, k⟩ := h
    obtain ⟨⟨dx, sl, hp, hv, hs⟩, ha⟩ := hg
    have hcl := G.cl
    have hnS := G.nS
    refine ⟨_, (pss_one (ps_fld (pv 0) (pe_fn D_changed (hr.mono (by decide)) (pa_cons (pe_fld (pv 0) rfl) (pa_cons (pv 1) pa_nil))) rfl)),
      st_norm (σ' := [some _, some _]) rfl ?_⟩
    walk_at "rd"
    refine ⟨sl, n, g, v, m, rfl, hn, hv, hm, ok, fun t H1 z1 n1 r1 => ?_⟩
    walk_at "rd"
    refine rd_pfldA (z1 _ _ hp) hcl hnS (by show 3 < 1000; decide) ?_
    obtain ⟨k1, g1⟩ := GAt.put hp ha z1 n1 r1
    exact k _ k1 g1
abbrev s_Great_strike : Stmt := inClass (top 54) 3
theorem sc_Great_strike : FnScope ["self", "number", "row"] ["self", "number", "row"] (defScope s_Great_strike) := ⟨rfl, rfl, rfl, by decide +kernel, rfl, by decide +kernel, by decide +kernel⟩
theorem ok_strikeG (T : Tx K mg w) (G : Gx K mg C B) (F : Fun K "strike" "Great.strike" s_Great_strike f fd) (D_struck : Df P w K mg base 2 "struck" ["vector", "row"] spStruck) : FnOk P w K mg base CX0 3 f fd ["self", "number", "row"] (spStrikeG C) := by
  refine F.ok sc_Great_strike (fun vs H Q E h => ?_) (fun cdv A outer s H vs Q E hr h => ?_)
  · obtain ⟨p, l, n, g, ans, v, i, r, rfl, _⟩ := h
    rfl
  · obtain ⟨p, l, n, g, ans, v, i, r, rfl, hn, hg, hrw, hx, hi, k⟩ := h
    obtain ⟨⟨dx, sl, hp, hv, hs⟩, ha⟩ := hg
    have hcl := G.cl
    have hnS := G.nS
    have hnA := G.nA
    refine ⟨_, (pss_one (ps_if (pt_cmpR op_eqN (pe_ix ix_list (pe_fld (pv 0) rfl) (pv 1) (fun _ _ => rfl)) (pe_nat 1) (nomark _))
    (pss_one (ps_fld (pv 0) (pe_fn D_struck (hr.mono (by decide)) (pa_cons (pe_fld (pv 0) rfl) (pa_cons (pv 2) pa_nil))) rfl))
    pss_nil)),
      st_norm (σ' := [some _, some _, some _]) rfl ?_⟩
    walk_at "rd"
    refine rd_ixL ha (atI_nat (nI_an hi)) ?_
    walk_at "rd"
    refine rd_dec (fun h1 => ?_) (fun h1 => ?_)
    · rw [if_pos h1] at k
      walk_at "rd"
      refine ⟨sl, n, g, v, r, rfl, hn, hv, hrw, hx, fun t H1 z1 n1 r1 => ?_⟩
      walk_at "rd"
      refine rd_pfldA (z1 _ _ hp) hcl hnS (by show 3 < 1000; decide) ?_
      obtain ⟨k1, g1⟩ := GAt.put hp ha z1 n1 r1
      exact k _ k1 g1
    · rw [if_neg h1] at k
      walk_at "rd"
      exact k H (Keep2.refl _ _ _) ⟨⟨dx, sl, hp, hv, hs⟩, ha⟩
/-! bounds along a run -/
theorem Bd.mono {n b c : Nat} {g : Vec} (h : Bd n b g) (hc : b ≤ c) : Bd n c g := fun k hk => by
  have := Nat.pow_le_pow_right (n := 2) (by decide) hc
  exact ⟨Nat.lt_of_lt_of_le (h k hk).1 this, Nat.lt_of_lt_of_le (h k hk).2 this⟩
theorem Bd.chg {n b : Nat} {g : Vec} (h : Bd n b g) {m : Mv} (ok : m.Ok n) : Bd n (b + 1) (chg g m) := by
  have sp : ∀ (q : K1) (wi : Nat), q ≠ .mix → q ≠ .flip → Bd n (b + 1) (Sg.chg g (.one q wi)) := fun q wi h1 h2 => Bd.mono (fun k hk => by rw [chg_spin g q wi h1 h2]; exact bd_spun _ (h k hk)) (Nat.le_succ b)
  have pm : ∀ m : Mv, m.Ok n → isPerm m = true → Bd n (b + 1) (Sg.chg g m) := fun m ok hp => Bd.mono (fun k hk => by rw [src_chg g m hp]; exact h _ (src_lt hk ok hp)) (Nat.le_succ b)
  cases m with
  | one q wi =>
    cases q with
    | mix =>
      intro k hk
      have hm : 1 <<< wi < 2 ^ n := by rw [one_shl]; exact sh_lt ok
      obtain ⟨h1, h2⟩ := bd_add (h k hk) (h _ (xor_lt hk hm))
      obtain ⟨h3, h4⟩ := bd_add (h _ (xor_lt hk hm)) (h k hk)
      show (if k.testBit wi then gsub (g (k ^^^ (1 <<< wi))) (g k) else gadd (g k) (g (k ^^^ (1 <<< wi)))).1.natAbs < _ ∧ (if k.testBit wi then gsub (g (k ^^^ (1 <<< wi))) (g k) else gadd (g k) (g (k ^^^ (1 <<< wi)))).2.natAbs < _
      split
      · exact h4
      · exact h1
    | flip => exact pm _ ok rfl
    | quarter => exact sp .quarter wi (by decide) (by decide)
    | back => exact sp .back wi (by decide) (by decide)
    | sign => exact sp .sign wi (by decide) (by decide)
  | two q wi vi =>
    cases q with
    | join => exact pm _ ok rfl
    | swap => exact pm _ ok rfl
    | both =>
      refine Bd.mono (fun k hk => ?_) (Nat.le_succ b)
      show (if k.testBit wi && k.testBit vi then spun (g k) 2 else g k).1.natAbs < _ ∧ (if k.testBit wi && k.testBit vi then spun (g k) 2 else g k).2.natAbs < _
      split
      · exact bd_spun _ (h k hk)
      · exact h k hk
theorem Bd.part {n b : Nat} {g : Vec} (h : Bd n b g) {r : Row} (hx : r.x < 2 ^ n) (c : Nat) : Bd n (b + 1) (part g r c) := fun k hk => by
  obtain ⟨h1, h2⟩ := bd_add (h k hk) (h.strike hx k hk)
  unfold Sg.part
  split
  · exact h1
  · exact h2
theorem signed_x (ans : List Nat) : ∀ (ns : List Nat) (r : Row), (signed ans r ns).x = r.x := by
  intro ns
  induction ns with
  | nil => intro r; rfl
  | cons k ns ih =>
    intro r
    show (signed ans (product r ⟨2 * an ans k, 0, 0⟩) ns).x = r.x
    rw [ih]
    exact Nat.xor_zero _
theorem Bd.doB {n b c : Nat} {t : BS} {d : Deed} (h : Bd n b t.f) (ok : d.Ok n t.ans.length) : Bd n (b + 1) (doB n c t d).f := by
  cases d with
  | mv m => exact h.chg ok
  | look wi => exact h.part (r := ⟨0, 0, 1 <<< wi⟩) (Nat.two_pow_pos n) _
  | ask r ns => exact h.part (r := signed t.ans r ns) (by rw [signed_x]; exact ok.1.x) _
  | strk i r =>
    show Bd n (b + 1) (if an t.ans i = 1 then (⟨Sg.strike t.f r, t.ans, t.told⟩ : BS) else t).f
    split
    · exact (h.strike ok.2.x).mono (Nat.le_succ b)
    · exact h.mono (Nat.le_succ b)
theorem doB_ans {n c : Nat} {t : BS} {d : Deed} : (Sg.doB n c t d).ans.length = t.ans.length + d.looks := by
  cases d with
  | mv m => rfl
  | look wi => exact List.length_append ..
  | ask r ns => exact List.length_append ..
  | strk i r =>
    show (if an t.ans i = 1 then (⟨Sg.strike t.f r, t.ans, t.told⟩ : BS) else t).ans.length = _
    split <;> rfl
theorem ran_ans {n : Nat} {cs : List Nat} : ∀ (ds : List Deed) (t : BS), (ranB n cs t ds).ans.length = t.ans.length + (ds.map Deed.looks).sum := by
  intro ds
  induction ds with
  | nil => intro t; rfl
  | cons d ds ih =>
    intro t
    show (ranB n cs (stepB n cs t d) ds).ans.length = _
    rw [ih, show (stepB n cs t d).ans.length = _ from doB_ans, List.map_cons, List.sum_cons]
    omega
theorem wok_at {n : Nat} : ∀ {ds : List Deed} {L i : Nat} {d : Deed}, WOk n L ds → ds[i]? = some d → d.Ok n (L + ((ds.take i).map Deed.looks).sum)
  | [], _, _, _, _, e => by simp at e
  | d :: ds, L, 0, d', h, e => by
    have e' := Option.some.inj e
    subst e'
    exact h.1
  | d :: ds, L, i + 1, d', h, e => by
    have := wok_at (ds := ds) h.2 (i := i) e
    rw [List.take_succ_cons, List.map_cons, List.sum_cons, ← Nat.add_assoc]
    exact this
theorem looks_leW : ∀ (ds : List Deed), (ds.map Deed.looks).sum ≤ ds.length
  | [] => Nat.le_refl _
  | d :: ds => by
    have h1 := looks_leW ds
    have h2 : d.looks ≤ 1 := by cases d <;> first | exact Nat.zero_le _ | exact Nat.le_refl _
    rw [List.map_cons, List.sum_cons, List.length_cons]
    omega
/-- an answer more -/
theorem GAt.answer {H : Hp} {p l : Addr} {n : Nat} {g : Vec} {ans : List Nat} (h : GAt C H p l n g ans) (a : Nat) :
    Keep2 p l H (upd H l (.lst (nI ans ++ [.int (a : Int)]))) ∧ GAt C (upd H l (.lst (nI ans ++ [.int (a : Int)]))) p l n g (ans ++ [a]) := by
  have npl := h.ne
  obtain ⟨⟨dx, sl, hp, ⟨us, hus, hu⟩, hs⟩, ha⟩ := h
  refine ⟨fun b o eb _ q => by rw [upd_ne q]; exact eb, ⟨dx, sl, by rw [upd_ne npl]; exact hp, ⟨us, by rw [upd_ne hs]; exact hus, hu.mono fun _ _ => INum.mono (tp_put ha)⟩, hs⟩, by rw [nI_snoc]; exact upd_same⟩
abbrev s_Great_look : Stmt := inClass (top 54) 4
theorem sc_Great_look : FnScope ["self", "row", "choice", "zero", "one", "kind", "answer"] ["self", "row", "choice"] (defScope s_Great_look) := ⟨rfl, rfl, rfl, by decide +kernel, rfl, by decide +kernel, by decide +kernel⟩
theorem ok_lookG (T : Tx K mg w) (G : Gx K mg C B) (F : Fun K "look" "Great.look" s_Great_look f fd) (D_weights : Df P w K mg base 3 "weights" ["vector", "row"] spWeights) (D_parted : Df P w K mg base 3 "parted" ["vector", "row", "answer"] spParted) :
    FnOk P w K mg base CX0 4 f fd ["self", "row", "choice"] (spLookG C) := by
  refine F.ok sc_Great_look (fun vs H Q E h => ?_) (fun cdv A outer s H vs Q E hr h => ?_)
  · obtain ⟨p, l, n, b, t, v, c, r, rfl, _⟩ := h
    rfl
  · obtain ⟨p, l, n, b, t, v, c, r, rfl, hn1, hn, hg, hal, hrw, hx, bd, hb, k⟩ := h
    obtain ⟨⟨dx, sl, hp, hv, hs⟩, ha⟩ := _root_.id hg
    have hcl := G.cl
    have hnS := G.nS
    have hnA := G.nA
    refine ⟨_, (pss_cons (ps_asg (pe_fn D_weights (hr.mono (by decide)) (pa_cons (pe_fld (pv 0) rfl) (pa_cons (pv 1) pa_nil))) (pg_tup rfl (pgs_cons (pg_name (i := 3) sc_Great_look.nd rfl (Or.inl rfl)) (pgs_cons (pg_name (i := 4) sc_Great_look.nd rfl (Or.inl rfl)) pgs_nil))))
  (pss_cons (ps_set (i := 5) sc_Great_look.nd rfl (Or.inl rfl) pe_str)
  (pss_cons (ps_set (i := 6) sc_Great_look.nd rfl (Or.inl rfl) (pv 2))
  (Evl.pss_cut (ps_if (pt_cmpR op_eq (pv 3) (pv 4) (nomark _))
    (pss_one (ps_set (i := 5) sc_Great_look.nd rfl (Or.inl rfl) pe_str))
    pss_nil)
  (Evl.pss_cut (ps_if (pt_cmpR op_eq (pv 4) pe_int (nomark _))
    (pss_cons (ps_set (i := 5) sc_Great_look.nd rfl (Or.inl rfl) pe_str)
  (pss_one (ps_set (i := 6) sc_Great_look.nd rfl (Or.inl rfl) pe_int)))
    (pss_one (ps_if (pt_cmpR op_eq (pv 3) pe_int (nomark _))
    (pss_cons (ps_set (i := 5) sc_Great_look.nd rfl (Or.inl rfl) pe_str)
  (pss_one (ps_set (i := 6) sc_Great_look.nd rfl (Or.inl rfl) pe_int)))
    pss_nil)))
  (pss_cons (ps_fld (pv 0) (pe_fn D_parted (hr.mono (by decide)) (pa_cons (pe_fld (pv 0) rfl) (pa_cons (pv 1) (pa_cons (pv 6) pa_nil)))) rfl)
  (pss_cons (ps_expr (pe_bm PySem.F.plainAttrs_list PySem.F.slot_list_append PySem.F.type_list_append mt_append (pe_fld (pv 0) rfl) (pa_cons (pv 6) pa_nil)))
  (pss_one (ps_ret (pe_tup (pa_cons (pv 5) (pa_cons (pv 6) (pa_cons (pe_lst (pa_cons (pv 3) (pa_cons (pv 4) pa_nil))) pa_nil))))))))))))),
      st_norm (σ' := [some _, some _, some _, none, none, none, none]) rfl ?_⟩
    walk_at "rd"
    refine ⟨sl, n, b, t.f, v, r, rfl, hn, hv, bd, hb, hrw, hx, fun tw H1 z1 h1 => ?_⟩
    walk_at "rd"
    generalize hZ : zeroW n t.f r = Z at *
    generalize hO : oneW n t.f r = O at *
    refine rd_cut (fun σ H' => H' = H1 ∧ σ = [some (.ref p), some v, some (.int (c : Int)), some (.int Z), some (.int O), some (.str (kname (if Z = O then 1 else 2))), some (.int (c : Int))]) ?_ ?_
    · walk_at "rd"
      refine rd_dec (fun hc => ?_) (fun hc => ?_)
      · rw [if_pos hc]
        walk_at "rd"
        exact ⟨rfl, rfl⟩
      · rw [if_neg hc]
        walk_at "rd"
        exact ⟨rfl, rfl⟩
    · rintro σ H' ⟨rfl, rfl⟩
      walk_at "rd"
      refine rd_cut (fun σ H'' => H'' = H' ∧ σ = [some (.ref p), some v, some (.int (c : Int)), some (.int Z), some (.int O), some (.str (kname (kindAns Z O c).1)), some (.int (((kindAns Z O c).2 : Nat) : Int))]) ?_ ?_
      · unfold kindAns
        walk_at "rd"
        refine rd_dec (fun hc => ?_) (fun hc => ?_)
        · rw [if_pos hc]
          walk_at "rd"
          exact ⟨rfl, rfl⟩
        · rw [if_neg hc]
          walk_at "rd"
          refine rd_dec (fun hd => ?_) (fun hd => ?_)
          · rw [if_pos hd]
            walk_at "rd"
            exact ⟨rfl, rfl⟩
          · rw [if_neg hd]
            walk_at "rd"
            refine ⟨rfl, ?_⟩
            by_cases e : Z = O
            · rw [if_pos e, if_pos e]
            · rw [if_neg e, if_neg e]
      · rintro σ H'' ⟨rfl, rfl⟩
        generalize hka : kindAns Z O c = ka at *
        have hlk : lookB n c t r = ⟨part t.f r ka.2, t.ans ++ [ka.2], t.told ++ [ka]⟩ := by unfold lookB; rw [hZ, hO, hka]
        rw [hlk] at k
        walk_at "rd"
        refine ⟨sl, n, t.f, v, r, ka.2, rfl, hn, hv.mono z1, hrw.mono (tp_of z1), hx, fun t2 H2 z2 n2 r2 => ?_⟩
        walk_at "rd"
        have z12 := z1.trans z2
        refine rd_pfldA (z12 _ _ hp) hcl hnS (by show 3 < 1000; decide) ?_
        obtain ⟨k3, g3⟩ := GAt.put hp ha z12 (z1.free n2) r2
        generalize upd H2 p (.ins C dx (putF "state" (.ref t2) (gf n l sl))) = H3 at *
        obtain ⟨⟨dx3, sl3, hp3, hv3, hs3⟩, ha3⟩ := _root_.id g3
        walk_at "rd"
        refine rd_app ha3 (by rw [nI_len]; omega) ?_
        obtain ⟨k4, g4⟩ := g3.answer ka.2
        generalize upd H3 l (.lst (nI t.ans ++ [.int (ka.2 : Int)])) = H4 at *
        walk_at "rd"
        refine ⟨by show 2 ≤ sizeLine; decide, rd_new fun t5 H5 n5 z5 h5 => ?_⟩
        walk_at "rd"
        refine ⟨by show 3 ≤ sizeLine; decide, rd_new fun t6 H6 n6 z6 h6 => ?_⟩
        exact k _ _ ((k3.trans k4).trans (Keep2.of (z5.trans z6))) (g4.mono (z5.trans z6)) ⟨t6, _, rfl, h6⟩
/-- the name at a move's head -/
theorem IMv.hd {H : Hp} {v : V} {m : Mv} (h : IMv H v m) : ∃ a nm rest, v = .ref a ∧ H a = some (.tup (.str nm :: rest)) ∧ ¬ nm = ("look" : Str) ∧ ¬ nm = ("ask" : Str) ∧ ¬ nm = ("when" : Str) := by
  cases m with
  | one q wi =>
    obtain ⟨a, e, h⟩ := h
    exact ⟨a, _, _, e, h, by cases q <;> decide +kernel, by cases q <;> decide +kernel, by cases q <;> decide +kernel⟩
  | two q wi vi =>
    obtain ⟨a, e, h⟩ := h
    exact ⟨a, _, _, e, h, by cases q <;> decide +kernel, by cases q <;> decide +kernel, by cases q <;> decide +kernel⟩
abbrev s_Bench_do : Stmt := inClass (top 36) 1
theorem sc_Bench_do : FnScope ["self", "deed", "choice"] ["self", "deed", "choice"] (defScope s_Bench_do) := ⟨rfl, rfl, rfl, by decide +kernel, rfl, by decide +kernel, by decide +kernel⟩
theorem ok_do (T : Tx K mg w) (G : Gx K mg C B) (F : FunD K "do" "Bench.do" (defArgs s_Bench_do) (defBody s_Bench_do) (defScope s_Bench_do) [.int 0] [] f fd) (M_look : Dm P w K mg base C 4 "look" ["self", "row", "choice"] [] (spLookG C))
    (M_signed : Dm P w K mg base C 3 "signed" ["self", "row", "numbers"] [] (spSignedG C)) (M_strike : Dm P w K mg base C 3 "strike" ["self", "number", "row"] [] (spStrikeG C)) (M_move : Dm P w K mg base C 4 "move" ["self", "deed"] [] (spMoveG C)) :
    FnOk P w K mg base CX0 5 f fd ["self", "deed", "choice"] (spDo C) := by
  refine F.ok (CX := CX0) sc_Bench_do (fun vs H Q E h => ?_) (fun cdv A outer s H vs Q E hr h => ?_)
  · obtain ⟨p, l, n, b, t, v, c, d, rfl, _⟩ := h
    rfl
  · obtain ⟨p, l, n, b, t, v, c, d, rfl, hn1, hn, hg, hal, hd, ok, bd, hb, k1, k2⟩ := h
    obtain ⟨⟨dx, sl, hp, hv, hs⟩, ha⟩ := _root_.id hg
    have hcl := G.cl
    suffices hh : ∃ t', PSs (cxOf CX0 P w K mg base _ _ (defScope s_Bench_do) f cdv A outer s H E).nox (defBody s_Bench_do) t' ∧ t' { nx := fun _ H' => Q .non H', rt := Q } _ H by
      obtain ⟨t', h1, h2⟩ := hh
      exact ⟨t', h1.nox, h2⟩
    refine ⟨_, (pss_cons (ps_if (pt_cmpR op_eq (pe_ix ix_tup (pv 1) (pe_nat 0) (fun _ _ => rfl)) pe_str (nomark _))
    (pss_one (ps_ret (pe_me M_look G.cl (hr.mono (by decide)) (pv 0) (pa_cons (pe_tup (pa_cons (pe_nat 0) (pa_cons (pe_nat 0) (pa_cons (pe_op op_shlN (pe_nat 1) (pe_ix ix_tup (pv 1) (pe_nat 1) (fun _ _ => rfl))) pa_nil)))) (pa_cons (pv 2) pa_nil)))))
    pss_nil)
  (pss_cons (ps_if (pt_cmpR op_eq (pe_ix ix_tup (pv 1) (pe_nat 0) (fun _ _ => rfl)) pe_str (nomark _))
    (pss_one (ps_ret (pe_me M_look G.cl (hr.mono (by decide)) (pv 0) (pa_cons (pe_me M_signed G.cl (hr.mono (by decide)) (pv 0) (pa_cons (pe_ix ix_tup (pv 1) (pe_nat 1) (fun _ _ => rfl)) (pa_cons (pe_ix ix_tup (pv 1) (pe_nat 2) (fun _ _ => rfl)) pa_nil))) (pa_cons (pv 2) pa_nil)))))
    pss_nil)
  (pss_cons (ps_if (pt_cmpR op_eq (pe_ix ix_tup (pv 1) (pe_nat 0) (fun _ _ => rfl)) pe_str (nomark _))
    (pss_one (ps_expr (pe_me M_strike G.cl (hr.mono (by decide)) (pv 0) (pa_cons (pe_ix ix_tup (pv 1) (pe_nat 1) (fun _ _ => rfl)) (pa_cons (pe_ix ix_tup (pv 1) (pe_nat 2) (fun _ _ => rfl)) pa_nil)))))
    (pss_one (ps_expr (pe_me M_move G.cl (hr.mono (by decide)) (pv 0) (pa_cons (pv 1) pa_nil)))))
  (pss_one (ps_ret pe_non))))),
      st_norm (σ' := [some _, some _, some _]) rfl ?_⟩
    cases d with
    | look wi =>
      obtain ⟨a, rfl, hda⟩ := hd
      have hwi : wi < n := ok
      walk_at "rd"
      refine ⟨by show 3 ≤ sizeLine; decide, rd_new fun t1 H1 n1 z1 h1 => ?_⟩
      walk_at "rd"
      refine ⟨p, l, n, b, t, _, c, ⟨0, 0, 1 <<< wi⟩, rfl, hn1, hn, hg.mono z1, hal, ⟨t1, rfl, h1⟩, Nat.two_pow_pos n, bd, hb, fun q H2 kp g2 td => ?_⟩
      obtain ⟨tq, y, rfl, htq⟩ := _root_.id td
      exact k2 tq _ H2 ((Keep2.of z1).trans kp) g2 rfl td
    | ask r ns =>
      obtain ⟨a, x, y, rfl, hda, hx, hy⟩ := hd
      walk_at "rd"
      refine ⟨p, l, n, t.f, t.ans, x, y, r, ns, rfl, hg, hx, hy, ok.2, fun q H1 z1 r1 => ?_⟩
      walk_at "rd"
      refine ⟨p, l, n, b, t, q, c, _, rfl, hn1, hn, hg.mono z1, hal, r1, (by rw [signed_x]; exact ok.1.x), bd, hb, fun q2 H2 kp g2 td => ?_⟩
      obtain ⟨tq, y2, rfl, htq⟩ := _root_.id td
      exact k2 tq _ H2 ((Keep2.of z1).trans kp) g2 rfl td
    | strk i r =>
      obtain ⟨a, x, rfl, hda, hx⟩ := hd
      walk_at "rd"
      refine ⟨p, l, n, t.f, t.ans, x, i, r, rfl, hn, hg, hx, ok.2.x, ok.1, fun H1 kp g1 => ?_⟩
      walk_at "rd"
      have e : doB n c t (.strk i r) = if an t.ans i = 1 then ⟨Sg.strike t.f r, t.ans, t.told⟩ else t := rfl
      rw [e] at k1
      by_cases h1 : an t.ans i = 1
      · rw [if_pos h1] at k1 g1
        exact k1 H1 kp g1 rfl
      · rw [if_neg h1] at k1 g1
        exact k1 H1 kp g1 rfl
    | mv m =>
      obtain ⟨a, nm, rest, rfl, hda, m1, m2, m3⟩ := IMv.hd hd
      walk_at "rd"
      refine rd_ixT hda (atI_nat (show (V.str nm :: rest)[0]? = some (V.str nm) from rfl)) ?_
      walk_at "rd"
      refine rd_sF m1 ?_
      walk_at "rd"
      refine rd_ixT hda (atI_nat (show (V.str nm :: rest)[0]? = some (V.str nm) from rfl)) ?_
      walk_at "rd"
      refine rd_sF m2 ?_
      walk_at "rd"
      refine rd_ixT hda (atI_nat (show (V.str nm :: rest)[0]? = some (V.str nm) from rfl)) ?_
      walk_at "rd"
      refine rd_sF m3 ?_
      walk_at "rd"
      refine ⟨p, l, n, t.f, t.ans, _, m, rfl, hn, hg, hd, ok, fun H1 kp g1 => ?_⟩
      walk_at "rd"
      exact k1 H1 kp g1 rfl
theorem told_le {n : Nat} {cs : List Nat} : ∀ (ds : List Deed) (t : BS), (ranB n cs t ds).told.length ≤ t.told.length + ds.length := by
  intro ds
  induction ds with
  | nil => intro t; exact Nat.le_refl _
  | cons d ds ih =>
    intro t
    have h1 := ih (stepB n cs t d)
    have h2 : (stepB n cs t d).told.length ≤ t.told.length + 1 := by
      unfold stepB
      generalize cs.getD t.told.length 0 = c
      cases d with
      | mv m => exact Nat.le_succ _
      | look wi => exact Nat.le_of_eq (List.length_append ..)
      | ask r ns => exact Nat.le_of_eq (List.length_append ..)
      | strk i r =>
        show (if an t.ans i = 1 then (⟨Sg.strike t.f r, t.ans, t.told⟩ : BS) else t).told.length ≤ _
        split <;> exact Nat.le_succ _
    show (ranB n cs (stepB n cs t d) ds).told.length ≤ _
    rw [List.length_cons]
    omega
/-- what was told is no vector -/
theorem told_ne {H : Hp} {q sl : Addr} {ws : List V} {ts : List (Nat × Nat)} {n : Nat} {g : Vec} (h : H q = some (.lst ws)) (ht : All2 (ITold H) ws ts) (hv : IVec H sl (2 ^ n) g) : sl ≠ q := by
  intro e
  subst e
  obtain ⟨us, hus, hu⟩ := hv
  rw [h] at hus
  injection hus with e
  injection e with e
  subst e
  have pp := Nat.two_pow_pos n
  have e0 : (tab (2 ^ n) g)[0]? = some (g 0) := tab_get g pp
  obtain ⟨u, eu, a, rfl, ha⟩ := hu.get' e0
  obtain ⟨d, ed, b, y, eb, hb⟩ := ht.get eu
  injection eb with eb
  subst eb
  rw [ha] at hb
  injection hb with hb
  injection hb with hb
  injection hb with hb
  cases hb
theorem GAt.told {H : Hp} {p l q : Addr} {ws us : List V} {ts : List (Nat × Nat)} {n : Nat} {g : Vec} {ans : List Nat} (h : GAt C H p l n g ans) (hq : H q = some (.lst ws)) (ht : All2 (ITold H) ws ts) (hl : q ≠ l) : GAt C (upd H q (.lst us)) p l n g ans := by
  obtain ⟨⟨dx, sl, hp, hv, hs⟩, ha⟩ := h
  have hne := told_ne hq ht hv
  obtain ⟨vs, hvs, hvv⟩ := hv
  have hqp : p ≠ q := by intro e; subst e; rw [hp] at hq; cases hq
  exact ⟨⟨dx, sl, by rw [upd_ne hqp]; exact hp, ⟨vs, by rw [upd_ne hne]; exact hvs, hvv.mono fun _ _ => INum.mono (tp_put hq)⟩, hs⟩, by rw [upd_ne hl.symm]; exact ha⟩
abbrev s_Bench_ran : Stmt := inClass (top 36) 2
theorem sc_Bench_ran : FnScope ["self", "word", "choices", "told", "deed", "choice", "found"] ["self", "word", "choices"] (defScope s_Bench_ran) := ⟨rfl, rfl, rfl, by decide +kernel, rfl, by decide +kernel, by decide +kernel⟩
theorem ok_ran (T : Tx K mg w) (G : Gx K mg C B) (F : FunD K "ran" "Bench.ran" (defArgs s_Bench_ran) (defBody s_Bench_ran) (defScope s_Bench_ran) [.non] [] f fd) (M_do : Dm P w K mg base C 5 "do" ["self", "deed", "choice"] [] (spDo C)) :
    FnOk P w K mg base CX0 6 f fd ["self", "word", "choices"] (spRan C) := by
  refine F.ok (CX := CX0) sc_Bench_ran (fun vs H Q E h => ?_) (fun cdv A outer s H vs Q E hr h => ?_)
  · obtain ⟨p, l, lw, lc, n, b, g, wd, cs, rfl, _⟩ := h
    rfl
  · obtain ⟨p, l, lw, lc, n, b, g, wd, cs, rfl, hn1, hn, hg, ⟨ds, hds, hall⟩, wok, hwl, hcs, nlw, nlc, bd, hb, k⟩ := h
    have hcl := G.cl
    have hdl := hall.len
    have hlw_p : lw ≠ p := by
      obtain ⟨⟨dx, sl, hp, _⟩, _⟩ := hg
      intro e; subst e; rw [hp] at hds; cases hds
    have hlc_p : lc ≠ p := by
      obtain ⟨⟨dx, sl, hp, _⟩, _⟩ := hg
      intro e; subst e; rw [hp] at hcs; cases hcs
    suffices hh : ∃ t', PSs (cxOf CX0 P w K mg base _ _ (defScope s_Bench_ran) f cdv A outer s H E).nox (defBody s_Bench_ran) t' ∧ t' { nx := fun _ H' => Q .non H', rt := Q } _ H by
      obtain ⟨t', h1, h2⟩ := hh
      exact ⟨t', h1.nox, h2⟩
    refine ⟨_, (pss_cons (ps_set (i := 3) sc_Bench_ran.nd rfl (Or.inl rfl) (pe_lst pa_nil))
  (pss_cons (ps_for PassesOwn.never rfl (pi_list (pv 1)) (pg_name (i := 4) sc_Bench_ran.nd rfl (Or.inl rfl))
    (pss_cons (ps_set (i := 5) sc_Bench_ran.nd rfl (Or.inl rfl) (pe_nat 0))
  (Evl.pss_cut (ps_if (PW.pt (pw_and (pt_cmpR op_notN (pv 2) pe_non (nomark _)) (pw_and1 (pt_cmpR op_ltN (pe_callB call_lenS (by rfl) T.b_len PySem.boot_len (pa_cons (pv 3) pa_nil)) (pe_callB call_lenS (by rfl) T.b_len PySem.boot_len (pa_cons (pv 2) pa_nil)) (nomark _)))))
    (pss_one (ps_set (i := 5) sc_Bench_ran.nd rfl (Or.inl rfl) (pe_ix ix_list (pv 2) (pe_callB call_lenS (by rfl) T.b_len PySem.boot_len (pa_cons (pv 3) pa_nil)) (fun _ _ => rfl))))
    pss_nil)
  (pss_cons (ps_set (i := 6) sc_Bench_ran.nd rfl (Or.inl rfl) (pe_me M_do G.cl (hr.mono (by decide)) (pv 0) (pa_cons (pv 4) (pa_cons (pv 5) pa_nil))))
  (pss_one (ps_if (pt_cmpR op_notN (pv 6) pe_non (nomark _))
    (pss_one (ps_expr (pe_bm PySem.F.plainAttrs_list PySem.F.slot_list_append PySem.F.type_list_append mt_append (pv 3) (pa_cons (pv 6) pa_nil))))
    pss_nil))))))
  (pss_one (ps_ret (pv 3))))),
      st_norm (σ' := [some _, some _, some _, none, none, none, none]) rfl ?_⟩
    walk_at "rd"
    refine ⟨Nat.zero_le _, fun q nq => ?_⟩
    have z1 : Same H (upd H q (.lst [])) := same_new nq
    have hq1 : upd H q (.lst []) q = some (.lst []) := upd_same
    generalize upd H q (.lst []) = H1 at *
    walk_at "rd"
    refine ⟨lw, rfl, ⟨_, SqL.of (z1 _ _ hds)⟩, for_it (walk_list (K := K) (a := lw) (xs := ds)) (fun i σ H2 => ∃ x4 x5 x6 ws, σ = [some (.ref p), some (.ref lw), some (.ref lc), some (.ref q), x4, x5, x6] ∧ Keep2 p l H H2 ∧ H2 q = some (.lst ws) ∧
        All2 (ITold H2) ws (ranB n cs ⟨g, [], []⟩ (wd.take i)).told ∧ GAt C H2 p l n (ranB n cs ⟨g, [], []⟩ (wd.take i)).f (ranB n cs ⟨g, [], []⟩ (wd.take i)).ans ∧ Bd n (b + i) (ranB n cs ⟨g, [], []⟩ (wd.take i)).f)
      ⟨none, none, none, [], rfl, Keep2.of z1, hq1, trivial, hg.mono z1, bd⟩ (fun i σ H2 _ ⟨_, _, _, _, _, kp, _⟩ => SqL.of (kp _ _ hds hlw_p nlw)) ?_ ?_⟩
    · rintro i x σ H2 H2' hi ⟨x4, x5, x6, ws, rfl, kp, hq, hws, hg2, bd2⟩ hx
      obtain ⟨rfl, ex⟩ := hx
      obtain ⟨d, ed, hd⟩ := hall.get ex
      have hd2 := hd.mono (kp.tp hg)
      have hok := wok_at wok ed
      have hc2 := kp _ _ hcs hlc_p nlc
      have ha1 := ran_ans (n := n) (cs := cs) (wd.take i) ⟨g, [], []⟩
      have ht1 := told_le (n := n) (cs := cs) (wd.take i) ⟨g, [], []⟩
      have hlk := looks_leW (wd.take i)
      have hl1 : (wd.take i).length ≤ i := List.length_take_le ..
      have e : wd.take (i + 1) = wd.take i ++ [d] := by rw [List.take_add_one, ed]; rfl
      rw [e]
      rw [ranB_snoc]
      generalize ranB n cs ⟨g, [], []⟩ (wd.take i) = t at *
      have ha2 : t.ans.length = 0 + ((wd.take i).map Deed.looks).sum := ha1
      have ht2 : t.told.length ≤ 0 + (wd.take i).length := ht1
      rw [← ha2] at hok
      have hwsl := hws.len
      have hql : q ≠ l := (ne_of_none hg.an nq).symm
      walk_at "rd"
      refine rd_cut (fun σ H' => H' = H2' ∧ σ = [some (.ref p), some (.ref lw), some (.ref lc), some (.ref q), some x, some (.int ((an cs t.told.length : Nat) : Int)), x6]) ?_ ?_
      · walk_at "rd"
        refine ⟨rfl, rd_bl (rd_bT rfl ?_)⟩
        walk_at "rd"
        refine rd_dec (fun hc => ?_) (fun hc => ?_)
        · walk_at "rd"
          rw [nI_len] at hc
          refine rd_ixL hc2 (atI_nat (nI_an hc)) ?_
          walk_at "rd"
          rw [hwsl]
          exact ⟨rfl, rfl⟩
        · walk_at "rd"
          rw [nI_len] at hc
          refine ⟨rfl, ?_⟩
          have e2 : an cs t.told.length = 0 := by
            unfold an
            rw [List.getD_eq_getElem?_getD, List.getElem?_eq_none (by omega)]; rfl
          rw [e2]
      · rintro σ H' ⟨rfl, rfl⟩
        obtain ⟨⟨dx2, sl2, hp2, hv2, hs2⟩, ha2'⟩ := _root_.id hg2
        walk_at "rd"
        refine ⟨p, l, n, b + i, t, x, an cs t.told.length, d, rfl, hn1, hn, hg2, by omega, hd2, hok, bd2, by omega, fun H3 k3 g3 e3 => ?_, fun tt ka H3 k3 g3 e3 td => ?_⟩
        · walk_at "rd"
          refine ⟨rfl, rd_bl (rd_bF rfl ?_)⟩
          walk_at "rd"
          refine ⟨_, _, _, ws, rfl, kp.trans k3, k3 _ _ hq ?_ hql, ?_, g3, ?_⟩
          · intro e; subst e; rw [hp2] at hq; cases hq
          · rw [show (stepB n cs t d).told = t.told from e3]
            exact hws.mono fun _ _ => ITold.mono (k3.tp hg2)
          · exact bd2.doB hok
        · walk_at "rd"
          have hqp : q ≠ p := by intro e; subst e; rw [hp2] at hq; cases hq
          have hq3 := k3 _ _ hq hqp hql
          have hws3 := hws.mono fun _ _ => ITold.mono (k3.tp hg2)
          have hnz := (kp.trans k3)
          refine ⟨rfl, rd_bl (rd_bT rfl ?_)⟩
          walk_at "rd"
          refine rd_app hq3 (by omega) ?_
          refine ⟨_, _, _, ws ++ [.ref tt], rfl, ?_, upd_same, ?_, g3.told hq3 hws3 hql, ?_⟩
          · intro c o ec n1 n2
            rw [upd_ne (ne_of_none ec nq)]
            exact hnz c o ec n1 n2
          · rw [show (stepB n cs t d).told = t.told ++ [ka] from e3]
            have tp := tp_put (us := ws ++ [V.ref tt]) hq3
            exact (hws3.mono fun _ _ => ITold.mono tp).snoc (td.mono tp)
          · exact bd2.doB hok
    · rintro σ H2 ⟨x4, x5, x6, ws, rfl, kp, hq, hws, hg2, bd2⟩
      rw [hdl, List.take_of_length_le (Nat.le_refl _)] at hws hg2 bd2
      walk_at "rd"
      exact k q H2 kp nq hg2 ⟨ws, hq, hws⟩ bd2
abbrev s_Bench___init__ : Stmt := inClass (top 36) 0
theorem sc_Bench___init__ : FnScope ["self", "wires"] ["self", "wires"] (defScope s_Bench___init__) := ⟨rfl, rfl, rfl, by decide +kernel, rfl, by decide +kernel, by decide +kernel⟩
theorem ok_binit (T : Tx K mg w) (G : Gx K mg C B) (F : Fun K "__init__" "Bench.__init__" s_Bench___init__ f fd) : FnOk P w K mg base CX0 1 f fd ["self", "wires"] (spBInit C) := by
  refine F.ok sc_Bench___init__ (fun vs H Q E h => ?_) (fun cdv A outer s H vs Q E hr h => ?_)
  · obtain ⟨p, dx, n, rfl, _⟩ := h
    rfl
  · obtain ⟨p, dx, n, rfl, hp, k⟩ := h
    have hcl := G.cl
    refine ⟨_, (pss_cons (ps_fld (pv 0) (pv 1) rfl)
  (pss_one (ps_fld (pv 0) (pe_lst pa_nil) rfl))),
      st_norm (σ' := [some _, some _]) rfl ?_⟩
    walk_at "rd"
    refine rd_pfldA hp hcl G.nW (by show 0 < 1000; decide) ?_
    have e1 : putF ("wires" : Str) (V.int (n : Int)) [] = [(("wires" : Str), V.int (n : Int))] := rfl
    rw [e1]
    have z1 : ∀ b o, H b = some o → b ≠ p → upd H p (.ins C dx [(("wires" : Str), V.int (n : Int))]) b = some o := fun b o e q => by rw [upd_ne q]; exact e
    have n1 : ∀ b, upd H p (.ins C dx [(("wires" : Str), V.int (n : Int))]) b = none → H b = none := fun b e => by
      by_cases q : b = p
      · subst q; rw [upd_same] at e; cases e
      · rw [upd_ne q] at e; exact e
    have hp1 : upd H p (.ins C dx [(("wires" : Str), V.int (n : Int))]) p = some (.ins C dx [(("wires" : Str), V.int (n : Int))]) := upd_same
    generalize upd H p (.ins C dx [(("wires" : Str), V.int (n : Int))]) = H1 at *
    walk_at "rd"
    refine ⟨Nat.zero_le _, rd_new fun l H2 n2 z2 h2 => ?_⟩
    walk_at "rd"
    refine rd_pfldA (z2 _ _ hp1) hcl G.nA (by show 1 < 1000; decide) ?_
    have e2 : putF "answers" (.ref l) [(("wires" : Str), V.int (n : Int))] = [(("wires" : Str), V.int (n : Int)), (("answers" : Str), V.ref l)] := rfl
    rw [e2]
    walk_at "rd"
    have hlp : l ≠ p := (ne_of_none hp1 n2).symm
    exact k l _ (n1 _ n2) (by rw [upd_ne hlp]; exact h2) upd_same fun b o e q => by rw [upd_ne q]; exact z2 _ _ (z1 b o e q)
abbrev s_Great___init__ : Stmt := inClass (top 54) 0
theorem sc_Great___init__ : FnScope ["self", "wires", "vector"] ["self", "wires", "vector"] (defScope s_Great___init__) := ⟨rfl, rfl, rfl, by decide +kernel, rfl, by decide +kernel, by decide +kernel⟩
theorem ok_ginit (T : Tx K mg w) (G : Gx K mg C B) (F : FunD K "__init__" "Great.__init__" (defArgs s_Great___init__) (defBody s_Great___init__) (defScope s_Great___init__) [.non] [] f fd) (C___init__ : Dc P w K mg base B 1 "__init__" ["self", "wires"] (spBInit C))
    (D_start : Df P w K mg base 1 "start" ["wires"] spStart) : FnOk P w K mg base CX0 2 f fd ["self", "wires", "vector"] (spGInit C) := by
  refine F.ok (CX := CX0) sc_Great___init__ (fun vs H Q E h => ?_) (fun cdv A outer s H vs Q E hr h => ?_)
  · obtain ⟨p, dx, n, g, v, rfl, _⟩ := h
    rfl
  · obtain ⟨p, dx, n, g, v, rfl, hn1, hn, hp, hv, k⟩ := h
    have hcl := G.cl
    have hnS := G.nS
    suffices hh : ∃ t', PSs (cxOf CX0 P w K mg base _ _ (defScope s_Great___init__) f cdv A outer s H E).nox (defBody s_Great___init__) t' ∧ t' { nx := fun _ H' => Q .non H', rt := Q } _ H by
      obtain ⟨t', h1, h2⟩ := hh
      exact ⟨t', h1.nox, h2⟩
    refine ⟨_, (pss_cons (ps_expr (pe_cme C___init__ (hr.mono (by decide)) (pe_glob (v := .ref B) rfl G.gB rfl) (pa_cons (pv 0) (pa_cons (pv 1) pa_nil))))
  (pss_cons (ps_fld (pv 0) (pe_fn D_start (hr.mono (by decide)) (pa_cons (pv 1) pa_nil)) rfl)
  (pss_one (ps_if (pt_cmpR op_notN (pv 2) pe_non (nomark _))
    (pss_one (ps_fld (pv 0) (pe_callTy call_listA (by rfl) T.b_list (by decide +kernel) (pa_cons (pv 2) pa_nil)) rfl))
    pss_nil)))),
      st_norm (σ' := [some _, some _, some _]) rfl ?_⟩
    walk_at "rd"
    refine ⟨p, dx, n, rfl, hp, fun l H1 nl hl1 hp1 z1 => ?_⟩
    walk_at "rd"
    refine ⟨n, rfl, hn1, hn, fun t2 H2 z2 n2 r2 => ?_⟩
    walk_at "rd"
    refine rd_pfldA (z2 _ _ hp1) hcl hnS (by show 2 < 1000; decide) ?_
    have e1 : putF "state" (.ref t2) [(("wires" : Str), V.int (n : Int)), (("answers" : Str), V.ref l)] = gf n l t2 := rfl
    rw [e1]
    have nt2p : t2 ≠ p := (ne_of_none hp1 n2).symm
    have nt2l : t2 ≠ l := (ne_of_none hl1 n2).symm
    have nlp : l ≠ p := (ne_of_none hp nl).symm
    have g3 : GAt C (upd H2 p (.ins C dx (gf n l t2))) p l n (unit 0) [] := by
      obtain ⟨us, hus, hu⟩ := r2
      refine ⟨⟨dx, t2, upd_same, ⟨us, by rw [upd_ne nt2p]; exact hus, hu.mono fun v d r => r.mono fun b xs eb => ?_⟩, nt2l⟩, by rw [upd_ne nlp]; exact z2 _ _ hl1⟩
      rw [upd_ne]
      · exact eb
      · intro q; subst q; have := z2 _ _ hp1; rw [this] at eb; cases eb
    have z3 : ∀ b o, H b = some o → b ≠ p → upd H2 p (.ins C dx (gf n l t2)) b = some o := fun b o e q => by rw [upd_ne q]; exact z2 _ _ (z1 b o e q)
    generalize upd H2 p (.ins C dx (gf n l t2)) = H3 at *
    walk_at "rd"
    rcases hv with ⟨rfl, rfl⟩ | ⟨lv, rfl, hv⟩
    · refine ⟨rfl, rd_bl (rd_bF rfl ?_)⟩
      walk_at "rd"
      exact k l H3 nl g3 z3
    · refine ⟨rfl, rd_bl (rd_bT rfl ?_)⟩
      walk_at "rd"
      obtain ⟨us, hus, hu⟩ := hv
      have nlv : lv ≠ p := by intro q; subst q; rw [hp] at hus; cases hus
      refine ⟨lv, us, rfl, .inl (SqL.of (z3 _ _ hus nlv)), rd_new fun t4 H4 n4 z4 h4 => ?_⟩
      obtain ⟨⟨dx3, sl3, hp3, hv3, hs3⟩, ha3⟩ := g3
      walk_at "rd"
      refine rd_pfldA (z4 _ _ hp3) hcl hnS (by show 3 < 1000; decide) ?_
      obtain ⟨k5, g5⟩ := GAt.put hp3 ha3 z4 n4 ⟨us, h4, hu.mono fun v d r => r.mono fun b xs eb => z4 _ _ (z3 b _ eb (by intro q; subst q; rw [hp] at eb; cases eb))⟩
      walk_at "rd"
      exact k l _ nl g5 fun b o e q => k5 b o (z3 b o e q) q (ne_of_none e nl)
end

/-! ### operators of the law's own defs -/
def rPowN : R2 := fun x y H Q => ∃ a b : Nat, x = .int (a : Int) ∧ y = .int (b : Int) ∧ (b ≤ 1000000 ∧ a < 2 ^ 64) ∧ Q (.int ((a ^ b : Nat) : Int)) H
def rModI : R2 := fun x y H Q => ∃ (i : Int) (b : Nat), x = .int i ∧ y = .int (b : Int) ∧ 0 < b ∧ ∀ m : Nat, (m : Int) = i % (b : Int) → m < b → Q (.int (m : Int)) H
def rMulNW : R2 := fun x y H Q => ∃ a b : Nat, x = .int (a : Int) ∧ y = .int (b : Int) ∧ (a < 2 ^ 200 ∧ b < 2 ^ 200) ∧ Q (.int ((a * b : Nat) : Int)) H
section
variable {X : Cx}
theorem op_powN : OpR X (binaryOp .Pow) rPowN := of_op op_pow fun x y H Q ⟨a, b, e1, e2, c, q⟩ => ⟨a, b, e1, e2, ⟨by omega, by omega, by omega⟩, by
  show Q (V.int ((a : Int) ^ ((b : Int)).toNat)) H
  rw [Int.toNat_natCast, ← Int.natCast_pow]; exact q⟩
theorem op_modI : OpR X (binaryOp .Mod) rModI := of_op op_mod fun x y H Q ⟨i, b, e1, e2, c, q⟩ => ⟨i, b, e1, e2, (by show (0 : Int) < b; omega), by
  have h0 : 0 ≤ i % (b : Int) := Int.emod_nonneg _ (by omega)
  have h1 : i % (b : Int) < b := Int.emod_lt_of_pos _ (by omega)
  have q' := q (i % (b : Int)).toNat (Int.toNat_of_nonneg h0) (by omega)
  rw [Int.toNat_of_nonneg h0] at q'
  exact q'⟩
theorem op_mulNW : OpR X (binaryOp .Mult) rMulNW := of_op op_mulW fun x y H Q ⟨a, b, e1, e2, c, q⟩ => ⟨a, b, e1, e2, wide_mul (a := 200) (b := 200) (by rw [Int.natAbs_natCast]; exact c.1) (by rw [Int.natAbs_natCast]; exact c.2) (by decide) (by decide) (by decide), q⟩
end
theorem ten30 {m : Nat} (h : m < 10 ^ 30) : m < 2 ^ 200 := Nat.lt_of_lt_of_le h (by decide +kernel)

local macro_rules | `(tactic| walk_at "rdE") => `(tactic| first
  | ((with_reducible show rPowN _ _ _ _); refine ⟨_, _, rfl, rfl, ⟨by decide, by decide⟩, ?_⟩))
local macro_rules | `(tactic| walk_at "rd") => `(tactic| repeat (first | walk_at "rdA" | walk_at "rdB" | walk_at "rdC" | walk_at "rdD" | walk_at "rdE"))

section
variable {P : Program} {w : World} {K : PySem.W.Frag} {mg : Str → Option Value} {base : Heap} {f : Addr} {fd : FuncData} {C B : Addr}
abbrev s__law_cell_at : Stmt := top 56
theorem sc__law_cell_at : FnScope ["_law_script", "_law_k"] ["_law_script", "_law_k"] (defScope s__law_cell_at) := ⟨rfl, rfl, rfl, by decide +kernel, rfl, by decide +kernel, by decide +kernel⟩
theorem ok__law_cell_at (T : Tx K mg w) (F : Fun K "_law_cell_at" "_law_cell_at" s__law_cell_at f fd) : FnOk P w K mg base CX0 1 f fd ["_law_script", "_law_k"] (spCellAt K) := by
  refine F.ok sc__law_cell_at (fun vs H Q E h => ?_) (fun cdv A outer s H vs Q E hr h => ?_)
  · obtain ⟨a, ns, i, rfl, _⟩ := h
    rfl
  · obtain ⟨a, ns, i, rfl, hs, k⟩ := h
    refine ⟨_, (pss_cons (ps_if (pt_cmpR op_ltN (pv 1) (pe_callB call_lenS (by rfl) T.b_len PySem.boot_len (pa_cons (pv 0) pa_nil)) (nomark _))
    (pss_one (ps_ret (pe_ix ix_list (pv 0) (pv 1) (fun _ _ => rfl))))
    pss_nil)
  (pss_one (ps_ret (pe_nat 0)))),
      st_norm (σ' := [some _, some _]) rfl ?_⟩
    walk_at "rd"
    refine ⟨a, _, rfl, .inl hs, ?_⟩
    walk_at "rd"
    refine rd_dec (fun hc => ?_) (fun hc => ?_)
    · walk_at "rd"
      rw [List.length_map] at hc
      exact ⟨a, _, i, .int (ns[i]'hc), rfl, rfl, hs, atI_nat (by rw [List.getElem?_map, List.getElem?_eq_getElem hc]; rfl), k _⟩
    · walk_at "rd"
      exact k _
abbrev s__law_row : Stmt := top 57
theorem sc__law_row : FnScope ["_law_cell", "_law_wires", "_law_m", "_law_xs", "_law_zs", "_law_count", "_law_w"] ["_law_cell", "_law_wires"] (defScope s__law_row) := ⟨rfl, rfl, rfl, by decide +kernel, rfl, by decide +kernel, by decide +kernel⟩
theorem ok__law_row (T : Tx K mg w) (F : Fun K "_law_row" "_law_row" s__law_row f fd) : FnOk P w K mg base CX0 1 f fd ["_law_cell", "_law_wires"] spLawRow := by
  refine F.ok sc__law_row (fun vs H Q E h => ?_) (fun cdv A outer s H vs Q E hr h => ?_)
  · obtain ⟨c, n, rfl, _⟩ := h
    rfl
  · obtain ⟨c, n, rfl, hn, k⟩ := h
    refine ⟨_, (pss_cons (ps_set (i := 2) sc__law_row.nd rfl (Or.inl rfl) (pe_op op_modI (pv 0) (pe_op op_powN (pe_nat 10) (pe_nat 30))))
  (pss_cons (ps_set (i := 3) sc__law_row.nd rfl (Or.inr rfl) (pe_op op_modN' (pe_op op_mulN (pe_op op_modN' (pe_op op_addN (pe_op op_addN (pe_op op_mulNW (pv 2) (pv 2)) (pe_op op_mulN (pe_nat 48271) (pv 2))) (pe_nat 7)) (pe_nat 2147483647)) (pe_ix ix_list (pe_lst (pa_cons (pe_nat 1) (pa_cons (pe_nat 1) (pa_cons (pe_nat 0) (pa_cons (pe_nat 1) (pa_cons (pe_nat 0) pa_nil)))))) (pe_op op_modN' (pv 2) (pe_nat 5)) (fun _ _ => rfl))) (pe_op op_shlN (pe_nat 1) (pv 1))))
  (pss_cons (ps_set (i := 4) sc__law_row.nd rfl (Or.inr rfl) (pe_op op_modN' (pe_op op_mulN (pe_op op_modN' (pe_op op_addN (pe_op op_addN (pe_op op_mulN (pv 2) (pe_nat 69621)) (pe_op op_mulN (pe_op op_divN (pv 2) (pe_nat 1009)) (pe_nat 31))) (pe_nat 11)) (pe_nat 2147483629)) (pe_ix ix_list (pe_lst (pa_cons (pe_nat 1) (pa_cons (pe_nat 0) (pa_cons (pe_nat 1) (pa_cons (pe_nat 1) (pa_cons (pe_nat 0) pa_nil)))))) (pe_op op_modN' (pv 2) (pe_nat 5)) (fun _ _ => rfl))) (pe_op op_shlN (pe_nat 1) (pv 1))))
  (pss_cons (ps_set (i := 5) sc__law_row.nd rfl (Or.inl rfl) (pe_callB call_lenS (by rfl) T.b_len PySem.boot_len (pa_cons (pe_lc (own := [("_law_w", 6)]) (g := gName 6) rfl sc__law_row.nd (pi_range1 (by rfl) T.b_range (pa_cons (pv 1) pa_nil)) (blkOk_by (N := ["_law_cell", "_law_wires", "_law_m", "_law_xs", "_law_zs", "_law_count", "_law_w"]) (sc := defScope s__law_row) (by decide +kernel)) (fun _ _ _ _ _ => pg_name (i := 6) sc__law_row.nd rfl (Or.inl rfl)) (fun _ _ _ _ _ => pts_one (pt_cmpR op_eqN (pe_op op_andN (pe_op op_shrN (pe_op op_andN (pv 3) (pv 4)) (pv 6)) (pe_nat 1)) (pe_nat 1) (nomark _))) (fun _ _ _ _ _ => (pv 6))) pa_nil)))
  (pss_one (ps_ret (pe_tup (pa_cons (pe_op op_modN' (pe_op op_addN (pv 5) (pe_op op_mulN (pe_nat 2) (pe_op op_modN' (pe_op op_divN (pv 2) (pe_nat 5)) (pe_nat 2)))) (pe_nat 4)) (pa_cons (pv 3) (pa_cons (pv 4) pa_nil)))))))))),
      st_norm (σ' := [some _, some _, none, none, none, none, none]) rfl ?_⟩
    have e1 : 1 <<< n = 2 ^ n := Nat.one_shiftLeft n
    have pp := Nat.two_pow_pos n
    have at5 : ∀ (a b c d e : Nat), a ≤ 1 → b ≤ 1 → c ≤ 1 → d ≤ 1 → e ≤ 1 → ∀ m : Nat, ∃ t : Nat, t ≤ 1 ∧ atI [V.int (a : Int), .int (b : Int), .int (c : Int), .int (d : Int), .int (e : Int)] (((m % 5 : Nat)) : Int) = some (.int (t : Int)) := fun a b c d e h1 h2 h3 h4 h5 m => by
      have hm : m % 5 < 5 := Nat.mod_lt _ (by decide)
      generalize m % 5 = q at *
      match q, hm with
      | 0, _ => exact ⟨a, h1, rfl⟩
      | 1, _ => exact ⟨b, h2, rfl⟩
      | 2, _ => exact ⟨c, h3, rfl⟩
      | 3, _ => exact ⟨d, h4, rfl⟩
      | 4, _ => exact ⟨e, h5, rfl⟩
    walk_at "rd"
    refine ⟨_, _, rfl, rfl, by decide +kernel, fun m em hm => ?_⟩
    have hm2 := ten30 hm
    clear hm
    walk_at "rd"
    refine ⟨_, _, rfl, rfl, ⟨hm2, hm2⟩, ?_⟩
    walk_at "rd"
    refine ⟨by show 5 ≤ sizeLine; decide, rd_new fun t1 H1 n1 z1 h1 => ?_⟩
    walk_at "rd"
    obtain ⟨u, hu, eu⟩ := at5 1 1 0 1 0 (by decide) (by decide) (by decide) (by decide) (by decide) m
    refine rd_ixL h1 eu ?_
    walk_at "rd"
    have hX : (m * m + 48271 * m + 7) % 2147483647 * u % 1 <<< n < 2 ^ n := by rw [e1]; exact Nat.mod_lt _ pp
    generalize (m * m + 48271 * m + 7) % 2147483647 * u % 1 <<< n = XS at *
    refine ⟨by show 5 ≤ sizeLine; decide, rd_new fun t2 H2 n2 z2 h2 => ?_⟩
    walk_at "rd"
    obtain ⟨u2, hu2, eu2⟩ := at5 1 0 1 1 0 (by decide) (by decide) (by decide) (by decide) (by decide) m
    refine rd_ixL h2 eu2 ?_
    walk_at "rd"
    have hZ : (m * 69621 + m / 1009 * 31 + 11) % 2147483629 * u2 % 1 <<< n < 2 ^ n := by rw [e1]; exact Nat.mod_lt _ pp
    generalize (m * 69621 + m / 1009 * 31 + 11) % 2147483629 * u2 % 1 <<< n = ZS at *
    refine ⟨_, rfl, by omega, by omega, fun D hD => lc_filter (n := n) (fun k => (XS &&& ZS).testBit k) hD (by omega) (fun _ => by rfl) (fun i H6 hi B hB => ?_) (fun i H6 hi QQ hQ => ?_) (fun H6 z6 h6 => ?_)⟩
    · walk_at "rd"
      rw [test_eq]
      exact hB
    · walk_at "rd"
      exact hQ
    · walk_at "rd"
      refine ⟨by show 3 ≤ sizeLine; decide, rd_new fun t8 H8 n8 z8 h8 => ?_⟩
      exact k ⟨_, XS, ZS⟩ (.ref t8) H8 (((z1.trans z2).trans z6).trans z8) ⟨Nat.mod_lt _ (by decide), hX, hZ⟩ ⟨t8, rfl, h8⟩
def nameAt : Nat → Str
  | 0 => "mix" | 1 => "quarter" | 2 => "back" | 3 => "flip" | 4 => "sign" | 5 => "look" | 6 => "ask" | 7 => "when" | 8 => "join" | 9 => "both" | _ => "swap"
theorem name_at (q : Nat) (hq : q < 11) : atI [V.str "mix", .str "quarter", .str "back", .str "flip", .str "sign", .str "look", .str "ask", .str "when", .str "join", .str "both", .str "swap"] ((q : Nat) : Int) = some (.str (nameAt q)) := by
  match q, hq with
  | 0, _ => rfl
  | 1, _ => rfl
  | 2, _ => rfl
  | 3, _ => rfl
  | 4, _ => rfl
  | 5, _ => rfl
  | 6, _ => rfl
  | 7, _ => rfl
  | 8, _ => rfl
  | 9, _ => rfl
  | 10, _ => rfl
theorem other_ne {o n : Nat} (ho : o < n) (hn : 2 ≤ n) (r : Nat) : (o + 1 + r % (n - 1)) % n < n ∧ o ≠ (o + 1 + r % (n - 1)) % n := by
  have h1 : r % (n - 1) < n - 1 := Nat.mod_lt _ (by omega)
  generalize r % (n - 1) = q at *
  refine ⟨Nat.mod_lt _ (by omega), ?_⟩
  rcases Nat.lt_or_ge (o + 1 + q) n with h | h
  · rw [Nat.mod_eq_of_lt h]; omega
  · rw [Nat.mod_eq_sub_mod h, Nat.mod_eq_of_lt (by omega)]; omega
abbrev s__law_deed : Stmt := top 58
theorem sc__law_deed : FnScope ["_law_cell", "_law_wires", "_law_looks", "_law_m", "_law_names", "_law_name", "_law_one", "_law_numbers", "_law_j"] ["_law_cell", "_law_wires", "_law_looks"] (defScope s__law_deed) := ⟨rfl, rfl, rfl, by decide +kernel, rfl, by decide +kernel, by decide +kernel⟩
theorem ok__law_deed (T : Tx K mg w) (F : Fun K "_law_deed" "_law_deed" s__law_deed f fd) (D__law_row : Df P w K mg base 1 "_law_row" ["_law_cell", "_law_wires"] spLawRow) : FnOk P w K mg base CX0 2 f fd ["_law_cell", "_law_wires", "_law_looks"] spLawDeed := by
  refine F.ok sc__law_deed (fun vs H Q E h => ?_) (fun cdv A outer s H vs Q E hr h => ?_)
  · obtain ⟨c, n, L, rfl, _⟩ := h
    rfl
  · obtain ⟨c, n, L, rfl, hn1, hn, hL, k⟩ := h
    refine ⟨_, (pss_cons (ps_set (i := 3) sc__law_deed.nd rfl (Or.inr rfl) (pe_op op_modI (pv 0) (pe_op op_powN (pe_nat 10) (pe_nat 30))))
  (pss_cons (ps_set (i := 4) sc__law_deed.nd rfl (Or.inl rfl) (pe_lst (pa_cons pe_str (pa_cons pe_str (pa_cons pe_str (pa_cons pe_str (pa_cons pe_str (pa_cons pe_str (pa_cons pe_str (pa_cons pe_str (pa_cons pe_str (pa_cons pe_str (pa_cons pe_str pa_nil)))))))))))))
  (pss_cons (ps_set (i := 5) sc__law_deed.nd rfl (Or.inl rfl) (pe_ix ix_list (pv 4) (pe_op op_modN' (pv 3) (pe_nat 11)) (fun _ _ => rfl)))
  (Evl.pss_cut (ps_if (pt_cmpR op_eqN (pv 1) (pe_nat 1) (nomark _))
    (pss_one (ps_set (i := 5) sc__law_deed.nd rfl (Or.inl rfl) (pe_ix ix_list (pv 4) (pe_op op_modN' (pv 3) (pe_nat 8)) (fun _ _ => rfl))))
    pss_nil)
  (Evl.pss_cut (ps_if (PW.pt (pw_and (pt_cmpR op_eq (pv 5) pe_str (nomark _)) (pw_and1 (pt_cmpR op_eqN (pv 2) (pe_nat 0) (nomark _)))))
    (pss_one (ps_set (i := 5) sc__law_deed.nd rfl (Or.inl rfl) pe_str))
    pss_nil)
  (pss_cons (ps_set (i := 6) sc__law_deed.nd rfl (Or.inl rfl) (pe_op op_modN' (pe_op op_modN' (pe_op op_mulN (pv 3) (pe_nat 7919)) (pe_nat 10007)) (pv 1)))
  (pss_cons (ps_if (pt_cmpR op_eq (pv 5) pe_str (nomark _))
    (pss_cons (ps_setLc (i := 7) (own := [("_law_j", 8)]) (g := gName 8) rfl sc__law_deed.nd rfl rfl (sw_true rfl rfl rfl (by decide +kernel)) (pi_range1 (by rfl) T.b_range (pa_cons (pv 2) pa_nil)) (blkOk_by (N := ["_law_cell", "_law_wires", "_law_looks", "_law_m", "_law_names", "_law_name", "_law_one", "_law_numbers", "_law_j"]) (sc := defScope s__law_deed) (by decide +kernel)) (fun _ _ _ _ _ => pg_name (i := 8) sc__law_deed.nd rfl (Or.inl rfl)) (fun _ _ _ _ _ => pts_one (pt_cmpR op_eqN (pe_op op_andN (pe_op op_shrN (pe_op op_modN' (pe_op op_mulN (pe_op op_divN (pv 3) (pe_nat 11)) (pe_nat 48271)) (pe_nat 2147483647)) (pe_op op_modN' (pv 8) (pe_nat 30))) (pe_nat 1)) (pe_nat 1) (nomark _))) (fun _ _ _ _ _ => (pv 8)))
  (pss_one (ps_ret (pe_tup (pa_cons pe_str (pa_cons (pe_fn D__law_row (hr.mono (by decide)) (pa_cons (pe_op op_divN (pv 3) (pe_nat 11)) (pa_cons (pv 1) pa_nil))) (pa_cons (pe_callTy call_tupleA (by rfl) T.b_tuple (by decide +kernel) (pa_cons (pv 7) pa_nil)) pa_nil)))))))
    pss_nil)
  (pss_cons (ps_if (pt_cmpR op_eq (pv 5) pe_str (nomark _))
    (pss_one (ps_ret (pe_tup (pa_cons pe_str (pa_cons (pe_op op_modN' (pe_op op_modN' (pe_op op_mulN (pv 3) (pe_nat 7919)) (pe_nat 10009)) (pv 2)) (pa_cons (pe_fn D__law_row (hr.mono (by decide)) (pa_cons (pe_op op_divN (pv 3) (pe_nat 11)) (pa_cons (pv 1) pa_nil))) pa_nil))))))
    pss_nil)
  (pss_cons (ps_if (pt_cmpR op_in_seq (pv 5) (pe_tup (pa_cons pe_str (pa_cons pe_str (pa_cons pe_str pa_nil)))) (by rfl))
    (pss_one (ps_ret (pe_tup (pa_cons (pv 5) (pa_cons (pv 6) (pa_cons (pe_op op_modN' (pe_op op_addN (pe_op op_addN (pv 6) (pe_nat 1)) (pe_op op_modN' (pe_op op_modN' (pe_op op_mulN (pv 3) (pe_nat 104729)) (pe_nat 99991)) (pe_op op_subN (pv 1) (pe_nat 1)))) (pv 1)) pa_nil))))))
    pss_nil)
  (pss_one (ps_ret (pe_tup (pa_cons (pv 5) (pa_cons (pv 6) pa_nil)))))))))))))),
      st_norm (σ' := [some _, some _, some _, none, none, none, none, none, none]) rfl ?_⟩
    walk_at "rd"
    refine ⟨_, _, rfl, rfl, by decide +kernel, fun m em hm => ?_⟩
    clear em hm
    walk_at "rd"
    refine ⟨by show 11 ≤ sizeLine; decide, rd_new fun t1 H1 n1 z1 h1 => ?_⟩
    walk_at "rd"
    refine rd_ixL h1 (name_at (m % 11) (Nat.mod_lt _ (by decide))) ?_
    walk_at "rd"
    have h11 : m % 11 < 11 := Nat.mod_lt _ (by decide)
    generalize m % 11 = q0 at *
    refine rd_cut (fun σ H2 => H2 = H1 ∧ ∃ q, q < 11 ∧ (n = 1 → q < 8) ∧ σ = [some (.int c), some (.int (n : Int)), some (.int (L : Int)), some (.int (m : Int)), some (.ref t1), some (.str (nameAt q)), none, none, none]) ?_ ?_
    · walk_at "rd"
      refine rd_dec (fun hc => ?_) (fun hc => ?_)
      · walk_at "rd"
        have h8 : m % 8 < 8 := Nat.mod_lt _ (by decide)
        refine rd_ixL h1 (name_at (m % 8) (by omega)) ?_
        walk_at "rd"
        exact ⟨rfl, _, by omega, fun _ => h8, rfl⟩
      · walk_at "rd"
        exact ⟨rfl, _, h11, fun z => absurd z hc, rfl⟩
    rintro σ H2 ⟨rfl, q1, hq11, hq8, rfl⟩
    clear h11
    refine rd_cut (fun σ H3 => H3 = H2 ∧ ∃ q, q < 11 ∧ (n = 1 → q < 8) ∧ (q = 7 → 0 < L) ∧ σ = [some (.int c), some (.int (n : Int)), some (.int (L : Int)), some (.int (m : Int)), some (.ref t1), some (.str (nameAt q)), none, none, none]) ?_ ?_
    · walk_at "rd"
      refine rd_dec (fun hc => ?_) (fun hc => ?_)
      · walk_at "rd"
        refine rd_dec (fun hd => ?_) (fun hd => ?_)
        · walk_at "rd"
          exact ⟨rfl, 0, by decide, fun _ => by decide, fun z => absurd z (by decide), rfl⟩
        · walk_at "rd"
          exact ⟨rfl, q1, hq11, hq8, fun _ => by omega, rfl⟩
      · walk_at "rd"
        exact ⟨rfl, q1, hq11, hq8, fun z => absurd (by rw [z]; rfl) hc, rfl⟩
    rintro σ H3 ⟨rfl, q, hq11, hq8, hq7, rfl⟩
    have ho : m * 7919 % 10007 % n < n := Nat.mod_lt _ (by omega)
    have z3 := z1
    walk_at "rd"
    generalize m * 7919 % 10007 % n = o at *
    match q, hq11, hq8, hq7 with
      | 0, _, _, _ =>
        walk_at "rd"
        refine ⟨by show 3 ≤ sizeLine; decide, rd_new fun t5 H5 n5 z5 h5 => ?_⟩
        refine ⟨t5, _, rfl, .inr (SqT.of h5), rfl, rfl, rd_bl (rd_bF rfl ?_)⟩
        walk_at "rd"
        refine ⟨by show 2 ≤ sizeLine; decide, rd_new fun t6 H6 n6 z6 h6 => ?_⟩
        exact k (.mv (.one .mix o)) _ H6 ((z3.trans z5).trans z6) ho ⟨t6, rfl, h6⟩
      | 1, _, _, _ =>
        walk_at "rd"
        refine ⟨by show 3 ≤ sizeLine; decide, rd_new fun t5 H5 n5 z5 h5 => ?_⟩
        refine ⟨t5, _, rfl, .inr (SqT.of h5), rfl, rfl, rd_bl (rd_bF rfl ?_)⟩
        walk_at "rd"
        refine ⟨by show 2 ≤ sizeLine; decide, rd_new fun t6 H6 n6 z6 h6 => ?_⟩
        exact k (.mv (.one .quarter o)) _ H6 ((z3.trans z5).trans z6) ho ⟨t6, rfl, h6⟩
      | 2, _, _, _ =>
        walk_at "rd"
        refine ⟨by show 3 ≤ sizeLine; decide, rd_new fun t5 H5 n5 z5 h5 => ?_⟩
        refine ⟨t5, _, rfl, .inr (SqT.of h5), rfl, rfl, rd_bl (rd_bF rfl ?_)⟩
        walk_at "rd"
        refine ⟨by show 2 ≤ sizeLine; decide, rd_new fun t6 H6 n6 z6 h6 => ?_⟩
        exact k (.mv (.one .back o)) _ H6 ((z3.trans z5).trans z6) ho ⟨t6, rfl, h6⟩
      | 3, _, _, _ =>
        walk_at "rd"
        refine ⟨by show 3 ≤ sizeLine; decide, rd_new fun t5 H5 n5 z5 h5 => ?_⟩
        refine ⟨t5, _, rfl, .inr (SqT.of h5), rfl, rfl, rd_bl (rd_bF rfl ?_)⟩
        walk_at "rd"
        refine ⟨by show 2 ≤ sizeLine; decide, rd_new fun t6 H6 n6 z6 h6 => ?_⟩
        exact k (.mv (.one .flip o)) _ H6 ((z3.trans z5).trans z6) ho ⟨t6, rfl, h6⟩
      | 4, _, _, _ =>
        walk_at "rd"
        refine ⟨by show 3 ≤ sizeLine; decide, rd_new fun t5 H5 n5 z5 h5 => ?_⟩
        refine ⟨t5, _, rfl, .inr (SqT.of h5), rfl, rfl, rd_bl (rd_bF rfl ?_)⟩
        walk_at "rd"
        refine ⟨by show 2 ≤ sizeLine; decide, rd_new fun t6 H6 n6 z6 h6 => ?_⟩
        exact k (.mv (.one .sign o)) _ H6 ((z3.trans z5).trans z6) ho ⟨t6, rfl, h6⟩
      | 5, _, _, _ =>
        walk_at "rd"
        refine ⟨by show 3 ≤ sizeLine; decide, rd_new fun t5 H5 n5 z5 h5 => ?_⟩
        refine ⟨t5, _, rfl, .inr (SqT.of h5), rfl, rfl, rd_bl (rd_bF rfl ?_)⟩
        walk_at "rd"
        refine ⟨by show 2 ≤ sizeLine; decide, rd_new fun t6 H6 n6 z6 h6 => ?_⟩
        exact k (.look o) _ H6 ((z3.trans z5).trans z6) ho ⟨t6, rfl, h6⟩
      | 6, _, _, _ =>
        walk_at "rd"
        refine ⟨_, rfl, by omega, by omega, fun D hD => lc_filter (n := L) (fun j => (m / 11 * 48271 % 2147483647).testBit (j % 30)) hD (by omega) (fun _ => by rfl) (fun i H6 hi B hB => ?_) (fun i H6 hi QQ hQ => ?_) (fun H6 z6 h6 => ?_)⟩
        · walk_at "rd"
          rw [test_eq]
          exact hB
        · walk_at "rd"
          exact hQ
        · walk_at "rd"
          refine ⟨_, n, rfl, hn, fun r p H7 z7 ok r7 => ?_⟩
          walk_at "rd"
          refine ⟨D, _, rfl, SqL.of (z7 _ _ h6), rd_new fun t8 H8 n8 z8 h8 => ?_⟩
          walk_at "rd"
          refine ⟨by show 3 ≤ sizeLine; decide, rd_new fun t9 H9 n9 z9 h9 => ?_⟩
          exact k (.ask r _) _ H9 (((z3.trans z6).trans z7).trans (z8.trans z9)) ⟨ok, fun j hj => List.mem_range.mp (List.mem_filter.mp hj).1⟩ ⟨t9, p, _, rfl, h9, r7.mono (tp_of (z8.trans z9)), ⟨t8, rfl, z9 _ _ h8⟩⟩
      | 7, _, _, hL0 =>
        have hL1 : 0 < L := hL0 rfl
        walk_at "rd"
        refine ⟨_, n, rfl, hn, fun r p H7 z7 ok r7 => ?_⟩
        walk_at "rd"
        refine ⟨by show 3 ≤ sizeLine; decide, rd_new fun t9 H9 n9 z9 h9 => ?_⟩
        exact k (.strk (m * 7919 % 10009 % L) r) _ H9 ((z3.trans z7).trans z9) ⟨Nat.mod_lt _ hL1, ok⟩ ⟨t9, p, rfl, h9, r7.mono (tp_of z9)⟩
      | 8, _, hq1, _ =>
        have hn2 : 2 ≤ n := by
          rcases Nat.lt_or_ge n 2 with h2 | h2
          · have := hq1 (by omega); omega
          · exact h2
        walk_at "rd"
        refine ⟨by show 3 ≤ sizeLine; decide, rd_new fun t5 H5 n5 z5 h5 => ?_⟩
        refine ⟨t5, _, rfl, .inr (SqT.of h5), rfl, rfl, rd_bl (rd_bT rfl ?_)⟩
        walk_at "rd"
        refine ⟨by show 3 ≤ sizeLine; decide, rd_new fun t6 H6 n6 z6 h6 => ?_⟩
        obtain ⟨v1, v2⟩ := other_ne ho hn2 (m * 104729 % 99991)
        exact k (.mv (.two .join o ((o + 1 + m * 104729 % 99991 % (n - 1)) % n))) _ H6 ((z3.trans z5).trans z6) ⟨ho, v1, v2⟩ ⟨t6, rfl, h6⟩
      | 9, _, hq1, _ =>
        have hn2 : 2 ≤ n := by
          rcases Nat.lt_or_ge n 2 with h2 | h2
          · have := hq1 (by omega); omega
          · exact h2
        walk_at "rd"
        refine ⟨by show 3 ≤ sizeLine; decide, rd_new fun t5 H5 n5 z5 h5 => ?_⟩
        refine ⟨t5, _, rfl, .inr (SqT.of h5), rfl, rfl, rd_bl (rd_bT rfl ?_)⟩
        walk_at "rd"
        refine ⟨by show 3 ≤ sizeLine; decide, rd_new fun t6 H6 n6 z6 h6 => ?_⟩
        obtain ⟨v1, v2⟩ := other_ne ho hn2 (m * 104729 % 99991)
        exact k (.mv (.two .both o ((o + 1 + m * 104729 % 99991 % (n - 1)) % n))) _ H6 ((z3.trans z5).trans z6) ⟨ho, v1, v2⟩ ⟨t6, rfl, h6⟩
      | 10, _, hq1, _ =>
        have hn2 : 2 ≤ n := by
          rcases Nat.lt_or_ge n 2 with h2 | h2
          · have := hq1 (by omega); omega
          · exact h2
        walk_at "rd"
        refine ⟨by show 3 ≤ sizeLine; decide, rd_new fun t5 H5 n5 z5 h5 => ?_⟩
        refine ⟨t5, _, rfl, .inr (SqT.of h5), rfl, rfl, rd_bl (rd_bT rfl ?_)⟩
        walk_at "rd"
        refine ⟨by show 3 ≤ sizeLine; decide, rd_new fun t6 H6 n6 z6 h6 => ?_⟩
        obtain ⟨v1, v2⟩ := other_ne ho hn2 (m * 104729 % 99991)
        exact k (.mv (.two .swap o ((o + 1 + m * 104729 % 99991 % (n - 1)) % n))) _ H6 ((z3.trans z5).trans z6) ⟨ho, v1, v2⟩ ⟨t6, rfl, h6⟩
end

section
variable {P : Program} {w : World} {K : PySem.W.Frag} {mg : Str → Option Value} {base : Heap} {f : Addr} {fd : FuncData} {C B : Addr}
theorem IDeed.hd {H : Hp} {v : V} {d : Deed} (h : IDeed H v d) : ∃ a nm rest, v = .ref a ∧ H a = some (.tup (.str nm :: rest)) ∧ inV (.str nm) [V.str "look", .str "ask"] = decide (d.looks = 1) := by
  cases d with
  | mv m =>
    cases m with
    | one q wi =>
      obtain ⟨a, e, h⟩ := h
      exact ⟨a, _, _, e, h, by cases q <;> rfl⟩
    | two q wi vi =>
      obtain ⟨a, e, h⟩ := h
      exact ⟨a, _, _, e, h, by cases q <;> rfl⟩
  | look wi =>
    obtain ⟨a, e, h⟩ := h
    exact ⟨a, _, _, e, h, rfl⟩
  | ask r ns =>
    obtain ⟨a, x, y, e, h, _⟩ := h
    exact ⟨a, _, _, e, h, rfl⟩
  | strk i r =>
    obtain ⟨a, x, e, h, _⟩ := h
    exact ⟨a, _, _, e, h, rfl⟩
abbrev s__law_word : Stmt := top 59
theorem sc__law_word : FnScope ["_law_cells", "_law_wires", "_law_word_here", "_law_looks", "_law_cell"] ["_law_cells", "_law_wires"] (defScope s__law_word) := ⟨rfl, rfl, rfl, by decide +kernel, rfl, by decide +kernel, by decide +kernel⟩
theorem ok__law_word (T : Tx K mg w) (F : Fun K "_law_word" "_law_word" s__law_word f fd) (D__law_deed : Df P w K mg base 2 "_law_deed" ["_law_cell", "_law_wires", "_law_looks"] spLawDeed) : FnOk P w K mg base CX0 3 f fd ["_law_cells", "_law_wires"] (spLawWord K) := by
  refine F.ok sc__law_word (fun vs H Q E h => ?_) (fun cdv A outer s H vs Q E hr h => ?_)
  · obtain ⟨a, ns, n, rfl, _⟩ := h
    rfl
  · obtain ⟨a, ns, n, rfl, hs, h40, hn1, hn, k⟩ := h
    refine ⟨_, (pss_cons (ps_set (i := 2) sc__law_word.nd rfl (Or.inl rfl) (pe_lst pa_nil))
  (pss_cons (ps_set (i := 3) sc__law_word.nd rfl (Or.inl rfl) (pe_nat 0))
  (pss_cons (ps_for PassesOwn.never rfl (pi_list (pv 0)) (pg_name (i := 4) sc__law_word.nd rfl (Or.inl rfl))
    (pss_cons (ps_expr (pe_bm PySem.F.plainAttrs_list PySem.F.slot_list_append PySem.F.type_list_append mt_append (pv 2) (pa_cons (pe_fn D__law_deed (hr.mono (by decide)) (pa_cons (pv 4) (pa_cons (pv 1) (pa_cons (pv 3) pa_nil)))) pa_nil)))
  (pss_one (ps_if (pt_cmpR op_in_seq (pe_ix ix_tup (pe_ix ix_list (pv 2) (pe_un un_neg (pe_nat 1)) (fun _ _ => rfl)) (pe_nat 0) (fun _ _ => rfl)) (pe_tup (pa_cons pe_str (pa_cons pe_str pa_nil))) (by rfl))
    (pss_one (ps_set (i := 3) sc__law_word.nd rfl (Or.inl rfl) (pe_op op_addN (pv 3) (pe_nat 1))))
    pss_nil))))
  (pss_one (ps_ret (pv 2)))))),
      st_norm (σ' := [some _, some _, none, none, none]) rfl ?_⟩
    walk_at "rd"
    refine ⟨Nat.zero_le _, fun fo nfo => ?_⟩
    have b0 : Bld H (upd H fo (.lst [])) fo [] := Bld.mk0 nfo
    generalize upd H fo (.lst []) = H1 at *
    walk_at "rd"
    refine ⟨a, rfl, ⟨_, sql_same b0.same hs⟩, for_it (walk_list (K := K) (a := a) (xs := ns.map V.int)) (fun i σ H2 => ∃ (ds : List Deed) (ws : List V) (x4 : Option V), σ = [some (.ref a), some (.int (n : Int)), some (.ref fo), some (.int (((ds.map Deed.looks).sum : Nat) : Int)), x4] ∧
        Bld H H2 fo ws ∧ All2 (IDeed H2) ws ds ∧ ds.length = i ∧ WOk n 0 ds)
      ⟨[], [], none, rfl, b0, trivial, rfl, trivial⟩ (fun i σ H2 _ ⟨_, _, _, _, b, _⟩ => sql_same b.same hs) ?_ ?_⟩
    · rintro i x σ H2 H2' hi ⟨ds, ws, x4, rfl, b2, hw, hdi, wok⟩ hx
      obtain ⟨rfl, ex⟩ := hx
      rw [List.length_map] at hi
      have ei : (ns.map V.int)[i]? = some (V.int (ns[i]'hi)) := by rw [List.getElem?_map, List.getElem?_eq_getElem hi]; rfl
      rw [ei] at ex
      have ex' := Option.some.inj ex
      subst ex'
      have hlk := looks_leW ds
      have hat := b2.at_
      have hwl := hw.len
      generalize hL : (ds.map Deed.looks).sum = L at *
      walk_at "rd"
      refine ⟨_, n, L, rfl, hn1, hn, by omega, fun d p H3 z3 ok r3 => ?_⟩
      walk_at "rd"
      obtain ⟨b5, hw5⟩ := Bld.push mDeed b2 hw z3 (y := p) r3
      have r5 : IDeed (upd H3 fo (.lst (ws ++ [p]))) p d := r3.mono (tp_put (z3 _ _ hat))
      refine rd_app (z3 _ _ hat) (by omega) ?_
      have hat5 : upd H3 fo (.lst (ws ++ [p])) fo = some (.lst (ws ++ [p])) := upd_same
      generalize upd H3 fo (.lst (ws ++ [p])) = H5 at *
      obtain ⟨pa, nm, rest, rfl, hpa, hin⟩ := IDeed.hd r5
      walk_at "rd"
      refine rd_ixL hat5 (atI_last _ _) ?_
      walk_at "rd"
      refine rd_ixT hpa (atI_nat (show (V.str nm :: rest)[0]? = some (V.str nm) from rfl)) ?_
      walk_at "rd"
      refine ⟨by show 2 ≤ sizeLine; decide, rd_new fun t6 H6 n6 z6 h6 => ?_⟩
      refine ⟨t6, _, rfl, .inr (SqT.of h6), rfl, rfl, rd_bl ?_⟩
      have b6 := b5.more z6
      have hw6 := hw5.mono fun _ _ => IDeed.mono (tp_of z6)
      have wok6 : WOk n 0 (ds ++ [d]) := wok_append wok (by rw [hL, Nat.zero_add]; exact ⟨ok, trivial⟩)
      have hsum : ((ds ++ [d]).map Deed.looks).sum = L + d.looks := by rw [List.map_append, List.sum_append, hL]; rfl
      have hlen : (ds ++ [d]).length = i + 1 := by rw [List.length_append, hdi]; rfl
      refine rd_ite (fun hc => ?_) (fun hc => ?_)
      · have hc1 : inV (.str nm) [V.str "look", .str "ask"] = true := hc
        rw [hin] at hc1
        have hc2 : d.looks = 1 := of_decide_eq_true hc1
        walk_at "rd"
        refine ⟨ds ++ [d], _, some (.int (ns[i]'hi)), ?_, b6, hw6, hlen, wok6⟩
        rw [hsum, hc2]
      · have hc1 : inV (.str nm) [V.str "look", .str "ask"] = false := hc
        rw [hin] at hc1
        have hc2 : ¬ d.looks = 1 := of_decide_eq_false hc1
        have hc3 : d.looks = 0 := by cases d <;> first | rfl | exact absurd rfl hc2
        walk_at "rd"
        refine ⟨ds ++ [d], _, some (.int (ns[i]'hi)), ?_, b6, hw6, hlen, wok6⟩
        rw [hsum, hc3, Nat.add_zero]
    · rintro σ H2 ⟨ds, ws, x4, rfl, b2, hw, hdi, wok⟩
      rw [List.length_map] at hdi
      walk_at "rd"
      exact k ds fo H2 b2.same b2.new ⟨ws, b2.at_, hw⟩ wok (by omega)
abbrev s__law_times : Stmt := top 61
theorem sc__law_times : FnScope ["_law_one", "_law_other"] ["_law_one", "_law_other"] (defScope s__law_times) := ⟨rfl, rfl, rfl, by decide +kernel, rfl, by decide +kernel, by decide +kernel⟩
theorem ok__law_times (F : Fun K "_law_times" "_law_times" s__law_times f fd) : FnOk P w K mg base CX0 1 f fd ["_law_one", "_law_other"] spLawTimes := by
  refine F.ok sc__law_times (fun vs H Q E h => ?_) (fun cdv A outer s H vs Q E hr h => ?_)
  · obtain ⟨v, u, a, b, rfl, _⟩ := h
    rfl
  · obtain ⟨v, u, a, b, rfl, ⟨p, rfl, hp⟩, ⟨q, rfl, hq⟩, a1, a2, b1, b2, k⟩ := h
    refine ⟨_, (pss_one (ps_ret (pe_tup (pa_cons (pe_op op_sub (pe_op op_mulW (pe_ix ix_tup (pv 0) pe_int (fun _ _ => rfl)) (pe_ix ix_tup (pv 1) pe_int (fun _ _ => rfl))) (pe_op op_mulW (pe_ix ix_tup (pv 0) pe_int (fun _ _ => rfl)) (pe_ix ix_tup (pv 1) pe_int (fun _ _ => rfl)))) (pa_cons (pe_op op_add (pe_op op_mulW (pe_ix ix_tup (pv 0) pe_int (fun _ _ => rfl)) (pe_ix ix_tup (pv 1) pe_int (fun _ _ => rfl))) (pe_op op_mulW (pe_ix ix_tup (pv 0) pe_int (fun _ _ => rfl)) (pe_ix ix_tup (pv 1) pe_int (fun _ _ => rfl)))) pa_nil))))),
      st_norm (σ' := [some _, some _]) rfl ?_⟩
    walk_at "rd"
    refine rd_mulW (bigmul a1 b1) ?_
    walk_at "rd"
    refine rd_mulW (bigmul a2 b2) ?_
    walk_at "rd"
    refine rd_mulW (bigmul a1 b2) ?_
    walk_at "rd"
    refine rd_mulW (bigmul a2 b1) ?_
    walk_at "rd"
    refine ⟨by show 2 ≤ sizeLine; decide, rd_new fun t H1 n1 z1 h1 => ?_⟩
    exact k _ _ z1 ⟨t, rfl, h1⟩
end

section
variable {P : Program} {w : World} {K : PySem.W.Frag} {mg : Str → Option Value} {base : Heap} {f : Addr} {fd : FuncData} {C B : Addr}
theorem vec_of (gs : List G) : tab gs.length (fun k => gs.getD k (0, 0)) = gs := by
  apply List.ext_getElem?
  intro i
  unfold tab
  rw [List.getElem?_map]
  by_cases h : i < gs.length
  · rw [List.getElem?_range h, List.getElem?_eq_getElem h]
    show some (gs.getD i (0, 0)) = _
    rw [List.getD_eq_getElem?_getD, List.getElem?_eq_getElem h]; rfl
  · rw [List.getElem?_eq_none (by rw [List.length_range]; omega), List.getElem?_eq_none (by omega)]; rfl
abbrev Bd1 (g : G) : Prop := g.1.natAbs < 2 ^ 100 ∧ g.2.natAbs < 2 ^ 100
/-- a list of numbers that a loop writes -/
structure Wr (H0 H : Hp) (l : Addr) (N : Nat) (gs : List G) : Prop where
  new : H0 l = none
  same : Same H0 H
  at_ : ∃ us, H l = some (.lst us) ∧ us.length = N ∧ All2 (INum H) us gs
  bd : ∀ g ∈ gs, Bd1 g
theorem Wr.len {H0 H : Hp} {l : Addr} {N : Nat} {gs : List G} (h : Wr H0 H l N gs) : gs.length = N := by
  obtain ⟨us, _, e, a⟩ := h.at_
  rw [← a.len, e]
theorem Wr.set {H0 H H1 : Hp} {l : Addr} {N i : Nat} {gs : List G} (h : Wr H0 H l N gs) (s : Same H H1) {v : V} {g : G} (r : INum H1 v g) (b : Bd1 g) {us : List V} (hu : H l = some (.lst us)) : Wr H0 (upd H1 l (.lst (us.set i v))) l N (gs.set i g) := by
  obtain ⟨vs, e, el, a⟩ := h.at_
  rw [hu] at e
  injection e with e
  injection e with e
  subst e
  have hat := s _ _ hu
  have tp := tp_put (us := us.set i v) hat
  refine ⟨h.new, fun c o ec => ?_, ⟨_, upd_same, by rw [List.length_set, el], (a.mono fun _ _ q => q.mono ((tp_of s).trans tp)).set (r.mono tp)⟩, fun g' hg => ?_⟩
  · rw [upd_ne (ne_of_none ec h.new)]
    exact s _ _ (h.same c o ec)
  · rcases List.mem_or_eq_of_mem_set hg with hg | hg
    · exact h.bd _ hg
    · rw [hg]; exact b
theorem Wr.done {H0 H : Hp} {l : Addr} {n j : Nat} {gs : List G} {g0 : G} (h : Wr H0 H l (2 ^ n) gs) (hj : gs[j]? = some g0) (h0 : g0 ≠ (0, 0)) : ∃ v : Vec, IVec H l (2 ^ n) v ∧ Bd n 100 v ∧ nrm n v ≠ 0 := by
  have hl := h.len
  obtain ⟨us, e, el, a⟩ := h.at_
  have hjl : j < gs.length := (List.getElem?_eq_some_iff.mp hj).1
  refine ⟨fun k => gs.getD k (0, 0), ⟨us, e, ?_⟩, fun k hk => ?_, ?_⟩
  · rw [← hl, vec_of]; exact a
  · show Bd1 (gs.getD k (0, 0))
    rw [List.getD_eq_getElem?_getD, List.getElem?_eq_getElem (by omega)]
    exact h.bd _ (List.getElem_mem _)
  · refine nrm_of_place (k := j) (by omega) ?_
    show gs.getD j (0, 0) ≠ (0, 0)
    rw [List.getD_eq_getElem?_getD, hj]
    exact h0
theorem pm_one (a : Nat) : ((1 : Nat) : Int) - ((2 * (a % 2) : Nat) : Int) = 1 ∨ ((1 : Nat) : Int) - ((2 * (a % 2) : Nat) : Int) = -1 := by omega
theorem bd_small {x : Int} (h : x.natAbs ≤ 10 ^ 20) : x.natAbs < 2 ^ 100 := Nat.lt_of_le_of_lt h (by decide +kernel)
abbrev s__law_vector : Stmt := top 60
theorem sc__law_vector : FnScope ["_law_cell", "_law_kind", "_law_wires", "_law_size", "_law_m", "_law_found", "_law_k", "_law_a", "_law_b"] ["_law_cell", "_law_kind", "_law_wires"] (defScope s__law_vector) := ⟨rfl, rfl, rfl, by decide +kernel, rfl, by decide +kernel, by decide +kernel⟩
theorem ok__law_vector (T : Tx K mg w) (F : Fun K "_law_vector" "_law_vector" s__law_vector f fd) : FnOk P w K mg base CX0 1 f fd ["_law_cell", "_law_kind", "_law_wires"] spLawVector := by
  refine F.ok sc__law_vector (fun vs H Q E h => ?_) (fun cdv A outer s H vs Q E hr h => ?_)
  · obtain ⟨c, kd, n, rfl, _⟩ := h
    rfl
  · obtain ⟨c, kd, n, rfl, hn1, hn, k⟩ := h
    have p6 := pow6 hn
    have pp := Nat.two_pow_pos n
    have e1 : 1 <<< n = 2 ^ n := Nat.one_shiftLeft n
    refine ⟨_, (pss_cons (ps_set (i := 3) sc__law_vector.nd rfl (Or.inl rfl) (pe_op op_shlN (pe_nat 1) (pv 2)))
  (pss_cons (ps_set (i := 4) sc__law_vector.nd rfl (Or.inl rfl) (pe_op op_modI (pv 0) (pe_op op_powN (pe_nat 10) (pe_nat 30))))
  (pss_cons (ps_set (i := 5) sc__law_vector.nd rfl (Or.inl rfl) (pe_op op_repA (pe_lst (pa_cons (pe_tup (pa_cons (pe_nat 0) (pa_cons (pe_nat 0) pa_nil))) pa_nil)) (pv 3)))
  (pss_cons (ps_asg (pe_tup (pa_cons (pe_nat 1) (pa_cons (pe_nat 0) pa_nil))) (pg_sub (pv 5) (pe_op op_modN' (pe_op op_modN' (pe_op op_mulN (pv 4) (pe_nat 31)) (pe_nat 97)) (pv 3)) set_list))
  (pss_cons (ps_if (pt_cmpR op_ltN (pv 1) (pe_nat 2) (nomark _))
    (pss_one (ps_ret (pv 5)))
    pss_nil)
  (pss_cons (ps_for PassesOwn.never rfl (pi_range1 (by rfl) T.b_range (pa_cons (pv 3) pa_nil)) (pg_name (i := 6) sc__law_vector.nd rfl (Or.inl rfl))
    (pss_cons (ps_set (i := 7) sc__law_vector.nd rfl (Or.inl rfl) (pe_op op_modN' (pe_op op_mulN (pe_op op_modN' (pe_op op_addN (pe_op op_addN (pv 4) (pe_op op_mulN (pe_op op_mulN (pe_nat 7919) (pv 6)) (pv 6))) (pe_op op_mulN (pe_nat 31) (pv 6))) (pe_nat 1000003)) (pe_nat 48271)) (pe_nat 2147483647)))
  (pss_cons (ps_set (i := 8) sc__law_vector.nd rfl (Or.inl rfl) (pe_op op_modN' (pe_op op_mulN (pe_op op_modN' (pe_op op_addN (pe_op op_addN (pe_op op_divN (pv 4) (pe_nat 7)) (pe_op op_mulN (pe_op op_mulN (pe_nat 104729) (pv 6)) (pv 6))) (pe_op op_mulN (pe_nat 17) (pv 6))) (pe_nat 999983)) (pe_nat 69621)) (pe_nat 2147483629)))
  (pss_one (ps_if (pt_cmpR op_eqN (pv 1) (pe_nat 2) (nomark _))
    (pss_one (ps_asg (pe_tup (pa_cons (pe_op op_sub (pe_nat 1) (pe_op op_mulN (pe_nat 2) (pe_op op_modN' (pv 7) (pe_nat 2)))) (pa_cons (pe_nat 0) pa_nil))) (pg_sub (pv 5) (pv 6) set_list)))
    (pss_one (ps_if (pt_cmpR op_eqN (pv 1) (pe_nat 3) (nomark _))
    (pss_one (ps_asg (pe_tup (pa_cons (pe_op op_sub (pe_op op_modN' (pv 7) (pe_nat 5)) (pe_nat 2)) (pa_cons (pe_op op_sub (pe_op op_modN' (pv 8) (pe_nat 5)) (pe_nat 2)) pa_nil))) (pg_sub (pv 5) (pv 6) set_list)))
    (pss_one (ps_asg (pe_tup (pa_cons (pe_op op_sub (pe_op op_modN' (pe_op op_mulN (pv 7) (pv 8)) (pe_op op_mulN (pe_nat 2) (pe_op op_powN (pe_nat 10) (pe_nat 20)))) (pe_op op_powN (pe_nat 10) (pe_nat 20))) (pa_cons (pe_op op_mul (pe_op op_modN' (pe_op op_mulN (pv 8) (pv 8)) (pe_op op_powN (pe_nat 10) (pe_nat 20))) (pe_op op_sub (pe_nat 1) (pe_op op_mulN (pe_nat 2) (pe_op op_modN' (pv 7) (pe_nat 2))))) pa_nil))) (pg_sub (pv 5) (pv 6) set_list))))))))))
  (pss_cons (ps_if (pt_cmpR op_gtN (pv 1) (pe_nat 2) (nomark _))
    (pss_one (ps_asg (pe_tup (pa_cons (pe_nat 1) (pa_cons (pe_nat 2) pa_nil))) (pg_sub (pv 5) (pe_op op_modN' (pv 4) (pv 3)) set_list)))
    pss_nil)
  (pss_one (ps_ret (pv 5)))))))))),
      st_norm (σ' := [some _, some _, some _, none, none, none, none, none, none]) rfl ?_⟩
    walk_at "rd"
    rw [e1]
    refine ⟨_, _, rfl, rfl, by decide +kernel, fun m em hm => ?_⟩
    clear em hm
    walk_at "rd"
    refine ⟨by show 2 ≤ sizeLine; decide, rd_new fun t1 H1 n1 z1 h1 => ?_⟩
    walk_at "rd"
    refine ⟨by show 1 ≤ sizeLine; decide, rd_new fun l2 H2 n2 z2 h2 => ?_⟩
    walk_at "rd"
    refine ⟨l2, 2 ^ n, .ref t1, rfl, rfl, h2, by omega, rd_new fun l H3 n3 z3 h3 => ?_⟩
    have z13 := (z1.trans z2).trans z3
    have w3 : Wr H H3 l (2 ^ n) (List.replicate (2 ^ n) (0, 0)) := ⟨(z1.trans z2).free n3, z13, ⟨_, h3, List.length_replicate, all_rep ⟨t1, rfl, (z2.trans z3) _ _ h1⟩ _⟩, fun g hg => by
      rw [(List.mem_replicate.mp hg).2]; exact ⟨by decide +kernel, by decide +kernel⟩⟩
    walk_at "rd"
    refine ⟨by show 2 ≤ sizeLine; decide, rd_new fun t4 H4 n4 z4 h4 => ?_⟩
    walk_at "rd"
    have hj : m * 31 % 97 % 2 ^ n < 2 ^ n := Nat.mod_lt _ pp
    generalize m * 31 % 97 % 2 ^ n = j at *
    refine rd_setL (z4 _ _ h3) (by rw [List.length_replicate]; exact hj) ?_
    have w5 := w3.set (i := j) z4 (v := .ref t4) (g := (1, 0)) ⟨t4, rfl, h4⟩ ⟨by decide +kernel, by decide +kernel⟩ h3
    have w5l := w5.len
    have hg5 : ((List.replicate (2 ^ n) ((0, 0) : G)).set j (1, 0))[j]? = some (1, 0) := List.getElem?_set_self (by rw [List.length_replicate]; exact hj)
    generalize upd H4 l (.lst ((List.replicate (2 ^ n) (V.ref t1)).set j (.ref t4))) = H5 at *
    generalize (List.replicate (2 ^ n) ((0, 0) : G)).set j (1, 0) = gs at *
    have fin : ∀ (H' : Hp) (gs' : List G) (j' : Nat) (g0 : G), Wr H H' l (2 ^ n) gs' → gs'[j']? = some g0 → g0 ≠ (0, 0) → Q (.ref l) H' := fun H' gs' j' g0 w' e' h' => by
      obtain ⟨v, hv, hb, hz⟩ := w'.done e' h'
      exact k v l H' w'.same w'.new hv hb hz
    walk_at "rd"
    refine rd_dec (fun hc => ?_) (fun hc => ?_)
    · walk_at "rd"
      exact fin H5 gs j _ w5 hg5 (by decide)
    · walk_at "rd"
      refine ⟨_, rfl, by omega, by omega, for_range (lo := 0) (n := 2 ^ n) (fun i σ H6 => ∃ x6 x7 x8 gs', σ = [some (.int c), some (.int (kd : Int)), some (.int (n : Int)), some (.int ((2 ^ n : Nat) : Int)), some (.int (m : Int)), some (.ref l), x6, x7, x8] ∧
          Wr H H6 l (2 ^ n) gs' ∧ (kd = 2 → ∀ q g, q < i → gs'[q]? = some g → g ≠ (0, 0)))
        ⟨none, none, none, gs, rfl, w5, fun _ q g hq => absurd hq (Nat.not_lt_zero _)⟩ ?_ ?_⟩
      · rintro i σ H6 hi ⟨x6, x7, x8, gs', rfl, w6, hk2⟩
        have e0 : (0 : Int) + (i : Int) = (i : Int) := Int.zero_add _
        rw [e0]
        have hlen6 := w6.len
        obtain ⟨us, hus, hul, hua⟩ := w6.at_
        have hset : ∀ g : G, (gs'.set i g)[i]? = some g := fun g => List.getElem?_set_self (by omega)
        walk_at "rd"
        have hA : (m + 7919 * i * i + 31 * i) % 1000003 * 48271 % 2147483647 < 2147483647 := Nat.mod_lt _ (by decide)
        have hB : (m / 7 + 104729 * i * i + 17 * i) % 999983 * 69621 % 2147483629 < 2147483629 := Nat.mod_lt _ (by decide)
        generalize (m + 7919 * i * i + 31 * i) % 1000003 * 48271 % 2147483647 = A1 at *
        generalize (m / 7 + 104729 * i * i + 17 * i) % 999983 * 69621 % 2147483629 = B1 at *
        have put : ∀ (H7 : Hp) (z7 : Same H6 H7) (t7 : Addr) (g : G) (h7 : H7 t7 = some (.tup [.int g.1, .int g.2])) (b : Bd1 g) (hk : kd = 2 → g ≠ (0, 0)), Wr H (upd H7 l (.lst (us.set i (.ref t7)))) l (2 ^ n) (gs'.set i g) ∧ (kd = 2 → ∀ q g', q < i + 1 → (gs'.set i g)[q]? = some g' → g' ≠ (0, 0)) := fun H7 z7 t7 g h7 b hk => by
          refine ⟨w6.set z7 ⟨t7, rfl, h7⟩ b hus, fun h2 q g' hq e => ?_⟩
          by_cases hqi : q = i
          · subst hqi
            rw [hset g] at e
            rw [← Option.some.inj e]
            exact hk h2
          · rw [List.getElem?_set_ne (fun z => hqi z.symm)] at e
            exact hk2 h2 q g' (by omega) e
        refine rd_dec (fun hc2 => ?_) (fun hc2 => ?_)
        · walk_at "rd"
          refine ⟨by show 2 ≤ sizeLine; decide, rd_new fun t7 H7 n7 z7 h7 => ?_⟩
          walk_at "rd"
          refine rd_setL (z7 _ _ hus) (by omega) ?_
          have hp := pm_one A1
          obtain ⟨w8, hk8⟩ := put H7 z7 t7 (((1 : Nat) : Int) - ((2 * (A1 % 2) : Nat) : Int), ((0 : Nat) : Int)) h7 ⟨bd_small (by show Int.natAbs _ ≤ _; rcases hp with e | e <;> rw [e] <;> decide +kernel), by show Int.natAbs ((0 : Nat) : Int) < 2 ^ 100; decide +kernel⟩ fun _ e => by
            have e' : ((1 : Nat) : Int) - ((2 * (A1 % 2) : Nat) : Int) = 0 := congrArg Prod.fst e
            rcases hp with hp | hp <;> rw [hp] at e' <;> exact absurd e' (by decide)
          exact ⟨_, _, _, _, rfl, w8, hk8⟩
        · walk_at "rd"
          refine rd_dec (fun hc3 => ?_) (fun hc3 => ?_)
          · walk_at "rd"
            refine ⟨by show 2 ≤ sizeLine; decide, rd_new fun t7 H7 n7 z7 h7 => ?_⟩
            walk_at "rd"
            refine rd_setL (z7 _ _ hus) (by omega) ?_
            obtain ⟨w8, hk8⟩ := put H7 z7 t7 (((A1 % 5 : Nat) : Int) - ((2 : Nat) : Int), ((B1 % 5 : Nat) : Int) - ((2 : Nat) : Int)) h7 ⟨bd_small (by show Int.natAbs _ ≤ _; omega), bd_small (by show Int.natAbs _ ≤ _; omega)⟩ fun e => absurd e hc2
            exact ⟨_, _, _, _, rfl, w8, hk8⟩
          · walk_at "rd"
            have hp := pm_one A1
            refine rd_I (C := CMul) (.inr ⟨by omega, by omega⟩) ?_
            walk_at "rd"
            refine ⟨by show 2 ≤ sizeLine; decide, rd_new fun t7 H7 n7 z7 h7 => ?_⟩
            walk_at "rd"
            refine rd_setL (z7 _ _ hus) (by omega) ?_
            obtain ⟨w8, hk8⟩ := put H7 z7 t7 (((A1 * B1 % (2 * 10 ^ 20) : Nat) : Int) - ((10 ^ 20 : Nat) : Int), ((B1 * B1 % 10 ^ 20 : Nat) : Int) * (((1 : Nat) : Int) - ((2 * (A1 % 2) : Nat) : Int))) h7 ⟨bd_small (by
                show Int.natAbs _ ≤ _
                have := Nat.mod_lt (A1 * B1) (show 0 < 2 * 10 ^ 20 by decide +kernel)
                generalize A1 * B1 % (2 * 10 ^ 20) = y at *
                omega), bd_small (by
                show Int.natAbs _ ≤ _
                have := Nat.mod_lt (B1 * B1) (show 0 < 10 ^ 20 by decide +kernel)
                generalize B1 * B1 % 10 ^ 20 = y at *
                rcases hp with e | e <;> rw [e] <;> omega)⟩ fun e => absurd e hc2
            exact ⟨_, _, _, _, rfl, w8, hk8⟩
      · rintro σ H6 ⟨x6, x7, x8, gs', rfl, w6, hk2⟩
        have hlen6 := w6.len
        obtain ⟨us, hus, hul, hua⟩ := w6.at_
        walk_at "rd"
        refine rd_dec (fun hc2 => ?_) (fun hc2 => ?_)
        · walk_at "rd"
          refine ⟨by show 2 ≤ sizeLine; decide, rd_new fun t7 H7 n7 z7 h7 => ?_⟩
          walk_at "rd"
          have hq : m % 2 ^ n < 2 ^ n := Nat.mod_lt _ pp
          generalize m % 2 ^ n = q at *
          refine rd_setL (z7 _ _ hus) (by omega) ?_
          walk_at "rd"
          exact fin _ _ q (1, 2) (w6.set z7 (v := .ref t7) (g := (1, 2)) ⟨t7, rfl, h7⟩ ⟨by decide +kernel, by decide +kernel⟩ hus) (List.getElem?_set_self (by omega)) (by decide)
        · walk_at "rd"
          have h0 : 0 < gs'.length := by omega
          exact fin H6 gs' 0 _ w6 (List.getElem?_eq_getElem h0) (hk2 (by omega) 0 _ pp (List.getElem?_eq_getElem h0))
end

section
variable {P : Program} {w : World} {K : PySem.W.Frag} {mg : Str → Option Value} {base : Heap} {f : Addr} {fd : FuncData} {C B : Addr}
theorem eqv_num {a b : G} : (decide (a.1 = b.1) && decide (a.2 = b.2)) = decide (a = b) := by
  obtain ⟨a1, a2⟩ := a
  obtain ⟨b1, b2⟩ := b
  show (decide (a1 = b1) && decide (a2 = b2)) = _
  rw [Bool.eq_iff_iff]
  simp
theorem eqv_nn (a b : G) : PyData.eqv (.tuple [.int a.1, .int a.2]) (.tuple [.int b.1, .int b.2]) = decide (a = b) := by rw [eqv_pair]; exact eqv_num
theorem eqv_zero (g : G) : PyData.eqv (.tuple [.int g.1, .int g.2]) (.tuple [.int ((0 : Nat) : Int), .int ((0 : Nat) : Int)]) = decide (g = (0, 0)) := eqv_nn g (0, 0)
theorem rd_while {c : TT} {tb : TS} {D : Ends} {σ : L2.St} {H : Hp} (k : ∃ W : Nat → L2.St → Hp → Prop, (∃ m, W m σ H) ∧ ∀ m σ H, W m σ H →
  c σ H fun b H1 => if b = true then ∃ N : L2.St → Hp → Prop, (∀ σ' H', N σ' H' → ∃ m', m' < m ∧ W m' σ' H') ∧ tb { D with nx := N, ct := N, bk := D.nx } σ H1 else D.nx σ H1) : tWhile c tb D σ H := k
abbrev s__law_alike : Stmt := top 62
theorem sc__law_alike : FnScope ["_law_one", "_law_other", "_law_at", "_law_k"] ["_law_one", "_law_other"] (defScope s__law_alike) := ⟨rfl, rfl, rfl, by decide +kernel, rfl, by decide +kernel, by decide +kernel⟩
theorem ok__law_alike (T : Tx K mg w) (F : Fun K "_law_alike" "_law_alike" s__law_alike f fd) (D__law_times : Df P w K mg base 1 "_law_times" ["_law_one", "_law_other"] spLawTimes) : FnOk P w K mg base CX0 2 f fd ["_law_one", "_law_other"] spLawAlike := by
  refine F.ok sc__law_alike (fun vs H Q E h => ?_) (fun cdv A outer s H vs Q E hr h => ?_)
  · obtain ⟨l, m, n, b, v, o, rfl, _⟩ := h
    rfl
  · obtain ⟨l, m, n, b, v, o, rfl, hn, hv, ho, bv, bo, hb, hz, hal, k⟩ := h
    have p6 := pow6 hn
    have pp := Nat.two_pow_pos n
    obtain ⟨us, hus, hul, hget, hget'⟩ := hv.row
    obtain ⟨ws, hws, hwl, hgetw, hgetw'⟩ := ho.row
    obtain ⟨j, hj, hvj⟩ := nz_place hz
    refine ⟨_, (pss_cons (ps_if (PW.pt (pw_or (pt_not (pt_val (pe_callB call_isi (by rfl) T.b_isinstance (by decide +kernel) (pa_cons (pv 0) (pa_cons (pe_bltn (v := .ty "list") (by rfl) T.b_list (by decide +kernel) rfl) pa_nil))))) (pw_or (pt_not (pt_val (pe_callB call_isi (by rfl) T.b_isinstance (by decide +kernel) (pa_cons (pv 1) (pa_cons (pe_bltn (v := .ty "list") (by rfl) T.b_list (by decide +kernel) rfl) pa_nil))))) (pw_or1 (pt_cmpR op_neN (pe_callB call_lenS (by rfl) T.b_len PySem.boot_len (pa_cons (pv 0) pa_nil)) (pe_callB call_lenS (by rfl) T.b_len PySem.boot_len (pa_cons (pv 1) pa_nil)) (nomark _))))))
    (pss_one (ps_ret pe_bl))
    pss_nil)
  (pss_cons (ps_set (i := 2) sc__law_alike.nd rfl (Or.inl rfl) (pe_nat 0))
  (Evl.pss_cut (ps_while PassesOwn.never (PW.pt (pw_and (pt_cmpR op_ltN (pv 2) (pe_op op_subN (pe_callB call_lenS (by rfl) T.b_len PySem.boot_len (pa_cons (pv 0) pa_nil)) (pe_nat 1)) (nomark _)) (pw_and1 (pt_cmpR (op_eqD hr.units) (pe_ix ix_list (pv 0) (pv 2) (fun _ _ => rfl)) (pe_tup (pa_cons (pe_nat 0) (pa_cons (pe_nat 0) pa_nil))) (nomark _)))))
    (pss_one (ps_set (i := 2) sc__law_alike.nd rfl (Or.inl rfl) (pe_op op_addN (pv 2) (pe_nat 1)))))
  (pss_cons (ps_if (PW.pt (pw_or (pt_cmpR (op_eqD hr.units) (pe_ix ix_list (pv 0) (pv 2) (fun _ _ => rfl)) (pe_tup (pa_cons (pe_nat 0) (pa_cons (pe_nat 0) pa_nil))) (nomark _)) (pw_or1 (pt_cmpR (op_eqD hr.units) (pe_ix ix_list (pv 1) (pv 2) (fun _ _ => rfl)) (pe_tup (pa_cons (pe_nat 0) (pa_cons (pe_nat 0) pa_nil))) (nomark _)))))
    (pss_one (ps_ret pe_bl))
    pss_nil)
  (pss_cons (ps_for PassesOwn.never rfl (pi_range1 (by rfl) T.b_range (pa_cons (pe_callB call_lenS (by rfl) T.b_len PySem.boot_len (pa_cons (pv 0) pa_nil)) pa_nil)) (pg_name (i := 3) sc__law_alike.nd rfl (Or.inl rfl))
    (pss_one (ps_if (pt_cmpR (op_neD hr.units) (pe_fn D__law_times (hr.mono (by decide)) (pa_cons (pe_ix ix_list (pv 0) (pv 3) (fun _ _ => rfl)) (pa_cons (pe_ix ix_list (pv 1) (pv 2) (fun _ _ => rfl)) pa_nil))) (pe_fn D__law_times (hr.mono (by decide)) (pa_cons (pe_ix ix_list (pv 1) (pv 3) (fun _ _ => rfl)) (pa_cons (pe_ix ix_list (pv 0) (pv 2) (fun _ _ => rfl)) pa_nil))) (nomark _))
    (pss_one (ps_ret pe_bl))
    pss_nil)))
  (pss_one (ps_ret pe_bl))))))),
      st_norm (σ' := [some _, some _, none, none]) rfl ?_⟩
    walk_at "rd"
    refine ⟨.ref l, .ty "list", .type "list", .type "list", true, rfl, .ty _, .base (.lst hus), kit_ty (by decide +kernel), rd_bl (rd_bF rfl ?_)⟩
    walk_at "rd"
    refine ⟨.ref m, .ty "list", .type "list", .type "list", true, rfl, .ty _, .base (.lst hws), kit_ty (by decide +kernel), rd_bl (rd_bF rfl ?_)⟩
    walk_at "rd"
    rw [hul, hwl]
    refine rd_bF (by simp) ?_
    walk_at "rd"
    refine rd_cut (fun σ H1 => ∃ at_ : Nat, at_ < 2 ^ n ∧ v at_ ≠ (0, 0) ∧ Same H H1 ∧ σ = [some (.ref l), some (.ref m), some (.int (at_ : Int)), none]) ?_ ?_
    · refine rd_while ⟨fun q σ H1 => ∃ at_ : Nat, q = 2 ^ n - at_ ∧ at_ < 2 ^ n ∧ (∀ i, i < at_ → v i = (0, 0)) ∧ Same H H1 ∧ σ = [some (.ref l), some (.ref m), some (.int (at_ : Int)), none], ⟨2 ^ n, 0, rfl, pp, fun i hi => absurd hi (Nat.not_lt_zero _), Same.refl _, rfl⟩, ?_⟩
      rintro q σ H1 ⟨at_, rfl, hat, hze, z1, rfl⟩
      have hus1 := z1 _ _ hus
      have hul1 : 1 ≤ us.length := by omega
      walk_at "rd"
      rw [hul]
      refine rd_dec (fun hc => ?_) (fun hc => ?_)
      · walk_at "rd"
        obtain ⟨u, eu, ⟨pu, rfl, hpu⟩⟩ := hget at_ hat
        refine rd_ixL hus1 (atI_nat eu) ?_
        walk_at "rd"
        refine ⟨by show 2 ≤ sizeLine; decide, rd_new fun t3 H3 n3 z3 h3 => ?_⟩
        refine ⟨_, _, dp_pair (z3 _ _ (z1 _ _ hpu)), dp_pair h3, rfl, rfl, ?_⟩
        rw [eqv_zero (v at_)]
        refine rd_bl ?_
        refine rd_dec (fun c => ?_) (fun c => ?_)
        · refine ⟨fun σ' H' => σ' = [some (.ref l), some (.ref m), some (.int ((at_ + 1 : Nat) : Int)), none] ∧ Same H H', ?_, ?_⟩
          · rintro σ' H' ⟨rfl, z4⟩
            refine ⟨2 ^ n - (at_ + 1), by omega, at_ + 1, rfl, by omega, fun i hi => ?_, z4, rfl⟩
            by_cases e : i = at_
            · rw [e]; exact c
            · exact hze i (by omega)
          · walk_at "rd"
            exact ⟨rfl, z1.trans z3⟩
        · exact ⟨at_, hat, c, z1.trans z3, rfl⟩
      · walk_at "rd"
        have hja : j = at_ := by
          rcases Nat.lt_or_ge j at_ with h | h
          · exact absurd (hze j h) hvj
          · omega
        exact ⟨at_, hat, by rw [← hja]; exact hvj, z1, rfl⟩
    · rintro σ H1 ⟨at_, hat, hva, z1, rfl⟩
      obtain ⟨hoa, hx⟩ := hal at_ hat hva
      have hus1 := z1 _ _ hus
      have hws1 := z1 _ _ hws
      obtain ⟨u, eu, ⟨pu, rfl, hpu⟩⟩ := hget at_ hat
      obtain ⟨y, ey, ⟨py, rfl, hpy⟩⟩ := hgetw at_ hat
      walk_at "rd"
      refine rd_ixL hus1 (atI_nat eu) ?_
      walk_at "rd"
      refine ⟨by show 2 ≤ sizeLine; decide, rd_new fun t3 H3 n3 z3 h3 => ?_⟩
      refine ⟨_, _, dp_pair (z3 _ _ (z1 _ _ hpu)), dp_pair h3, rfl, rfl, ?_⟩
      rw [eqv_zero (v at_)]
      refine rd_bl ?_
      refine rd_decF hva ?_
      walk_at "rd"
      refine rd_ixL (z3 _ _ hws1) (atI_nat ey) ?_
      walk_at "rd"
      refine ⟨by show 2 ≤ sizeLine; decide, rd_new fun t4 H4 n4 z4 h4 => ?_⟩
      refine ⟨_, _, dp_pair (z4 _ _ (z3 _ _ (z1 _ _ hpy))), dp_pair h4, rfl, rfl, ?_⟩
      rw [eqv_zero (o at_)]
      refine rd_bl ?_
      refine rd_decF hoa ?_
      have z14 := (z1.trans z3).trans z4
      clear hus1 hws1 h3 h4
      have hus4 := z14 _ _ hus
      walk_at "rd"
      rw [hul]
      refine ⟨_, rfl, by omega, by omega, for_range (lo := 0) (n := 2 ^ n) (fun i σ H5 => ∃ x3, σ = [some (.ref l), some (.ref m), some (.int (at_ : Int)), x3] ∧ Same H H5) ⟨none, rfl, z14⟩ ?_ ?_⟩
      · rintro i σ H5 hi ⟨x3, rfl, z5⟩
        have e0 : (0 : Int) + (i : Int) = (i : Int) := Int.zero_add _
        rw [e0]
        have hus5 := z5 _ _ hus
        have hws5 := z5 _ _ hws
        obtain ⟨u2, eu2, hu2⟩ := hget i hi
        obtain ⟨y2, ey2, hy2⟩ := hgetw i hi
        walk_at "rd"
        refine rd_ixL hus5 (atI_nat eu2) ?_
        walk_at "rd"
        refine rd_ixL hws5 (atI_nat ey) ?_
        walk_at "rd"
        have sm : ∀ {x : Nat}, x < 2 ^ b → x < 2 ^ 400000 := fun h => small400 h (by omega)
        refine ⟨u2, .ref py, v i, o at_, rfl, hu2.mono (tp_of z5), ⟨py, rfl, z5 _ _ hpy⟩, sm (bv i hi).1, sm (bv i hi).2, sm (bo at_ hat).1, sm (bo at_ hat).2, fun p6' H6 z6 r6 => ?_⟩
        walk_at "rd"
        refine rd_ixL (z6 _ _ hws5) (atI_nat ey2) ?_
        walk_at "rd"
        refine rd_ixL (z6 _ _ hus5) (atI_nat eu) ?_
        walk_at "rd"
        have z56 := z5.trans z6
        refine ⟨y2, .ref pu, o i, v at_, rfl, hy2.mono (tp_of z56), ⟨pu, rfl, z56 _ _ hpu⟩, sm (bo i hi).1, sm (bo i hi).2, sm (bv at_ hat).1, sm (bv at_ hat).2, fun p7 H7 z7 r7 => ?_⟩
        obtain ⟨a6, rfl, h6⟩ := r6
        obtain ⟨a7, rfl, h7⟩ := r7
        refine ⟨_, _, dp_pair (z7 _ _ h6), dp_pair h7, rfl, rfl, ?_⟩
        rw [eqv_nn (gmul (v i) (o at_)) (gmul (o i) (v at_)), hx i hi, decide_eq_true (Eq.refl _)]
        refine rd_bl (rd_bF rfl ?_)
        walk_at "rd"
        exact ⟨_, rfl, z56.trans z7⟩
      · rintro σ H5 ⟨x3, rfl, z5⟩
        walk_at "rd"
        exact k H5 z5
end

section
variable {P : Program} {w : World} {K : PySem.W.Frag} {mg : Str → Option Value} {base : Heap} {f : Addr} {fd : FuncData} {C B : Addr}
theorem cut_ints (ns : List Int) (a b : Nat) (h : b ≤ a + 40) : ∃ ms : List Int, cutV (ns.map V.int) (some (a : Int)) (some (b : Int)) = ms.map V.int ∧ ms.length ≤ 40 := by
  refine ⟨(ns.drop (min a ns.length)).take (min b ns.length - min a ns.length), ?_, ?_⟩
  · unfold cutV
    rw [HT.sIx_nat, HT.sIx_nat, List.length_map, ← List.map_drop, ← List.map_take]
  · rw [List.length_take]; omega
def chc (z : Int) : Nat := ((z / 5) % 2).toNat
theorem chc_le (ms : List Int) : Le1 (ms.map chc) := fun c hc => by
  obtain ⟨z, _, rfl⟩ := List.mem_map.mp hc
  unfold chc
  omega
theorem all_nI : ∀ {us : List V} {cs : List Nat}, All2 (fun (v : V) (c : Nat) => v = .int (c : Int)) us cs → us = nI cs
  | [], [], _ => rfl
  | u :: us, c :: cs, h => by
    have h1 : u = .int (c : Int) := h.1
    have h2 := all_nI h.2
    rw [h1, h2]; rfl
theorem mk_up {H : Hp} {x dx : Addr} (nx : H x = none) (nd : H dx = none) {o o' : HO} : Same H (upd (upd H dx o) x o') := fun b u e => by
  rw [upd_ne (ne_of_none e nx), upd_ne (ne_of_none e nd)]; exact e
theorem mk_same {H H' : Hp} {x dx : Addr} {o o' : HO} (nx : H x = none) (nd : H dx = none) (z : ∀ b u, upd (upd H dx o) x o' b = some u → b ≠ x → H' b = some u) : Same H H' := fun b u e => z b u (mk_up nx nd b u e) (ne_of_none e nx)
theorem mk_new {H : Hp} {x dx l : Addr} {o o' : HO} (h : upd (upd H dx o) x o' l = none) : H l = none := by
  by_cases e : l = x
  · subst e; rw [upd_same] at h; cases h
  · rw [upd_ne e] at h
    by_cases e2 : l = dx
    · subst e2; rw [upd_same] at h; cases h
    · rw [upd_ne e2] at h; exact h
theorem GAt.keep {H H' : Hp} {p l p' l' : Addr} {n : Nat} {g : Vec} {ans : List Nat} (h : GAt C H p l n g ans) (k : Keep2 p' l' H H') {dx' : Addr} {fs : List (Str × V)} (hp' : H p' = some (.ins C dx' fs)) (hl' : H l' = some (.lst [])) (np : p ≠ p') (nl : l ≠ l') : GAt C H' p l n g ans := by
  obtain ⟨⟨dx, sl, hp, ⟨us, hus, hu⟩, hs⟩, ha⟩ := h
  have tp : Tp H H' := fun b xs e => k b _ e (by intro q; subst q; rw [hp'] at e; cases e) (by intro q; subst q; rw [hl'] at e; cases e)
  have hsl : sl ≠ l' := by
    intro q; subst q
    rw [hl'] at hus
    injection hus with e
    injection e with e
    subst e
    have hl := hu.len
    rw [tab_len] at hl
    have := Nat.two_pow_pos n
    simp at hl
    omega
  refine ⟨⟨dx, sl, k _ _ hp np ?_, ⟨us, k _ _ hus ?_ hsl, hu.mono fun _ _ => INum.mono tp⟩, hs⟩, k _ _ ha ?_ nl⟩
  · intro q; subst q; rw [hl'] at hp; cases hp
  · intro q; subst q; rw [hp'] at hus; cases hus
  · intro q; subst q; rw [hp'] at ha; cases ha
/-- what is compared: kind and answer -/
def IPair (H : Hp) (v : V) (p : Nat × Nat) : Prop := ∃ a, v = .ref a ∧ H a = some (.tup [.str (kname p.1), .int (p.2 : Int)])
theorem mPair : ∀ (H H' : Hp) (v : V) (d : Nat × Nat), Tp H H' → IPair H v d → IPair H' v d := fun _ _ _ _ s ⟨a, e, q⟩ => ⟨a, e, s _ _ q⟩
def toldI (p : Nat × Nat) : PyData := .tuple [.str (kname p.1), .int (p.2 : Int)]
theorem dp_told {H : Hp} : ∀ {us : List V} {ts : List (Nat × Nat)}, All2 (IPair H) us ts → DpAll K H us (ts.map toldI)
  | [], [], _ => .nil
  | u :: us, t :: ts, h => by
    obtain ⟨a, rfl, ha⟩ := h.1
    exact .cons (.tup (SqT.of ha) (.cons (.str _) (.cons (.int _) .nil))) (dp_told h.2)
theorem lay_told : ∀ ts : List (Nat × Nat), PyData.canLayAll0 (ts.map toldI) = true
  | [] => rfl
  | t :: ts => by
    have h1 : PyData.canLay0 (toldI t) = true := by
      obtain ⟨a, b⟩ := t
      have hs : PyData.strOk (kname a) = true := by
        match a with
        | 0 => show PyData.strOk ("sure" : Str) = true; decide +kernel
        | 1 => show PyData.strOk ("even" : Str) = true; decide +kernel
        | _ + 2 => show PyData.strOk ("lean" : Str) = true; decide +kernel
      show (PyData.strOk (kname a) && (true && true)) = true
      rw [hs]; rfl
    have h2 := lay_told ts
    rw [List.map_cons]
    show (PyData.canLay0 (toldI t) && PyData.canLayAll0 (ts.map toldI)) = true
    rw [h1, h2]; rfl
theorem dep_told : ∀ ts : List (Nat × Nat), PyData.depthAll (ts.map toldI) ≤ 1
  | [] => by decide
  | t :: ts => by
    have h2 := dep_told ts
    rw [List.map_cons]
    show max (PyData.depth (toldI t)) (PyData.depthAll (ts.map toldI)) ≤ 1
    have h1 : PyData.depth (toldI t) = 1 := rfl
    omega
theorem shp_told (ts : List (Nat × Nat)) : SeqAt.shaped (.list (ts.map toldI)) = true := by
  have h1 : PyData.canLay0 (.list (ts.map toldI)) = true := lay_told ts
  have h2 : PyData.depth (.list (ts.map toldI)) ≤ 64 := by
    show PyData.depthAll (ts.map toldI) + 1 ≤ 64
    have := dep_told ts
    omega
  unfold SeqAt.shaped
  rw [h1, decide_eq_true h2]; rfl
theorem unit_bd (n : Nat) : Bd n 100 (unit 0) := fun k _ => by
  unfold unit
  split
  · exact ⟨by decide +kernel, by decide +kernel⟩
  · exact ⟨by decide +kernel, by decide +kernel⟩
theorem unit_nz (n : Nat) : nrm n (unit 0) ≠ 0 := nrm_of_place (k := 0) (Nat.two_pow_pos n) (by decide)
end

section
variable {P : Program} {w : World} {K : PySem.W.Frag} {mg : Str → Option Value} {base : Heap} {f : Addr} {fd : FuncData} {C B : Addr}
abbrev s_law : Stmt := top 63
theorem sc_law : FnScope ["_law_script", "_law_first", "_law_wires", "_law_word_here", "_law_choices", "_law_cell", "_law_early", "_law_kind", "_law_benches", "_law_vector_here", "_law_told", "_law_other", "_law_one"] ["_law_script"] (defScope s_law) := ⟨rfl, rfl, rfl, by decide +kernel, rfl, by decide +kernel, by decide +kernel⟩
theorem ok_law (T : Tx K mg w) (G : Gx K mg C B) (F : Fun K "law" "law" s_law f fd) (D__law_cell_at : Df P w K mg base 1 "_law_cell_at" ["_law_script", "_law_k"] (spCellAt K)) (D__law_word : Df P w K mg base 3 "_law_word" ["_law_cells", "_law_wires"] (spLawWord K))
    (D_pulled : Df P w K mg base 8 "pulled" ["wires", "word"] spPulled) (D__law_vector : Df P w K mg base 1 "_law_vector" ["_law_cell", "_law_kind", "_law_wires"] spLawVector) (D__law_alike : Df P w K mg base 2 "_law_alike" ["_law_one", "_law_other"] spLawAlike)
    (K1 : Dk P w K mg base C 2 ["self", "wires", "vector"] [.non] (spGInit C)) (K2 : Dk P w K mg base C 2 ["self", "wires", "vector"] [] (spGInit C)) (M_ran : Dm P w K mg base C 6 "ran" ["self", "word", "choices"] [] (spRan C))
    (M_vector : Dm P w K mg base C 1 "vector" ["self"] [] (spVector C)) : FnOk P w K mg base CX0 9 f fd ["_law_script"] (spLaw K) := by
  refine F.ok sc_law (fun vs H Q E h => ?_) (fun cdv A outer s H vs Q E hr h => ?_)
  · obtain ⟨a, ns, rfl, _⟩ := h
    rfl
  · obtain ⟨a, ns, rfl, hs, h63, k⟩ := h
    have hcl := G.cl
    refine ⟨_, (pss_cons (ps_set (i := 1) sc_law.nd rfl (Or.inl rfl) (pe_op op_modI (pe_fn D__law_cell_at (hr.mono (by decide)) (pa_cons (pv 0) (pa_cons (pe_nat 0) pa_nil))) (pe_op op_powN (pe_nat 10) (pe_nat 30))))
  (pss_cons (ps_set (i := 2) sc_law.nd rfl (Or.inl rfl) (pe_op op_addN (pe_nat 1) (pe_op op_modN' (pv 1) (pe_nat 3))))
  (Evl.pss_cut (ps_if (pt_cmpR op_eqN (pe_op op_modN' (pe_op op_divN (pv 1) (pe_nat 3)) (pe_nat 8)) (pe_nat 3) (nomark _))
    (pss_one (ps_set (i := 2) sc_law.nd rfl (Or.inl rfl) (pe_nat 4)))
    pss_nil)
  (pss_cons (ps_set (i := 3) sc_law.nd rfl (Or.inl rfl) (pe_fn D__law_word (hr.mono (by decide)) (pa_cons (pe_slice sl_list (pv 0) (po_some (pe_nat 3)) (po_some (pe_nat 43))) (pa_cons (pv 2) pa_nil))))
  (pss_cons (ps_setLc (i := 4) (own := [("_law_cell", 5)]) (g := gName 5) rfl sc_law.nd rfl rfl (sw_true rfl rfl rfl (by decide +kernel)) (pi_list (pe_slice sl_list (pv 0) (po_some (pe_nat 3)) (po_some (pe_op op_addN (pe_nat 3) (pe_op op_modN' (pe_op op_divN (pv 1) (pe_nat 24)) (pe_nat 41)))))) (blkOk_by (N := ["_law_script", "_law_first", "_law_wires", "_law_word_here", "_law_choices", "_law_cell", "_law_early", "_law_kind", "_law_benches", "_law_vector_here", "_law_told", "_law_other", "_law_one"]) (sc := defScope s_law) (by decide +kernel)) (fun _ _ _ _ _ => pg_name (i := 5) sc_law.nd rfl (Or.inl rfl)) (fun _ _ _ _ _ => pts_nil) (fun _ _ _ _ _ => (pe_op op_modI (pe_op op_fdiv (pv 5) (pe_nat 5)) (pe_nat 2))))
  (pss_cons (ps_set (i := 6) sc_law.nd rfl (Or.inl rfl) (pe_fn D_pulled (hr.mono (by decide)) (pa_cons (pv 2) (pa_cons (pe_callTy call_listA (by rfl) T.b_list (by decide +kernel) (pa_cons (pv 3) pa_nil)) pa_nil))))
  (pss_cons (ps_set (i := 7) sc_law.nd rfl (Or.inl rfl) (pe_op op_modI (pe_fn D__law_cell_at (hr.mono (by decide)) (pa_cons (pv 0) (pa_cons (pe_nat 1) pa_nil))) (pe_nat 5)))
  (Evl.pss_cut (ps_if (pt_cmpR op_eqN (pv 7) (pe_nat 0) (nomark _))
    (pss_one (ps_set (i := 8) sc_law.nd rfl (Or.inl rfl) (pe_lst (pa_cons (pe_mk K1 (hr.mono (by decide)) (pa_cons (pv 2) pa_nil) G.gC) (pa_cons (pe_mk K1 (hr.mono (by decide)) (pa_cons (pv 2) pa_nil) G.gC) pa_nil)))))
    (pss_cons (ps_set (i := 9) sc_law.nd rfl (Or.inl rfl) (pe_fn D__law_vector (hr.mono (by decide)) (pa_cons (pe_fn D__law_cell_at (hr.mono (by decide)) (pa_cons (pv 0) (pa_cons (pe_nat 2) pa_nil))) (pa_cons (pv 7) (pa_cons (pv 2) pa_nil)))))
  (pss_one (ps_set (i := 8) sc_law.nd rfl (Or.inl rfl) (pe_lst (pa_cons (pe_mk K2 (hr.mono (by decide)) (pa_cons (pv 2) (pa_cons (pe_callTy call_listA (by rfl) T.b_list (by decide +kernel) (pa_cons (pv 9) pa_nil)) pa_nil)) G.gC) (pa_cons (pe_mk K2 (hr.mono (by decide)) (pa_cons (pv 2) (pa_cons (pe_callTy call_listA (by rfl) T.b_list (by decide +kernel) (pa_cons (pv 9) pa_nil)) pa_nil)) G.gC) pa_nil)))))))
  (pss_cons (ps_set (i := 10) sc_law.nd rfl (Or.inl rfl) (pe_me M_ran G.cl (hr.mono (by decide)) (pe_ix ix_list (pv 8) (pe_nat 0) (fun _ _ => rfl)) (pa_cons (pe_callTy call_listA (by rfl) T.b_list (by decide +kernel) (pa_cons (pv 3) pa_nil)) (pa_cons (pe_callTy call_listA (by rfl) T.b_list (by decide +kernel) (pa_cons (pv 4) pa_nil)) pa_nil))))
  (pss_cons (ps_set (i := 11) sc_law.nd rfl (Or.inl rfl) (pe_me M_ran G.cl (hr.mono (by decide)) (pe_ix ix_list (pv 8) (pe_nat 1) (fun _ _ => rfl)) (pa_cons (pv 6) (pa_cons (pe_callTy call_listA (by rfl) T.b_list (by decide +kernel) (pa_cons (pv 4) pa_nil)) pa_nil))))
  (pss_cons (ps_if (pt_cmpR (op_neD hr.units) (pe_lc (own := [("_law_one", 12)]) (g := gName 12) rfl sc_law.nd (pi_list (pv 10)) (blkOk_by (N := ["_law_script", "_law_first", "_law_wires", "_law_word_here", "_law_choices", "_law_cell", "_law_early", "_law_kind", "_law_benches", "_law_vector_here", "_law_told", "_law_other", "_law_one"]) (sc := defScope s_law) (by decide +kernel)) (fun _ _ _ _ _ => pg_name (i := 12) sc_law.nd rfl (Or.inl rfl)) (fun _ _ _ _ _ => pts_nil) (fun _ _ _ _ _ => (pe_tup (pa_cons (pe_ix (show IxR _ (rIxT K) from ix_tup) (pv 12) (pe_nat 0) (fun _ _ => rfl)) (pa_cons (pe_ix (show IxR _ (rIxT K) from ix_tup) (pv 12) (pe_nat 1) (fun _ _ => rfl)) pa_nil))))) (pe_lc (own := [("_law_one", 12)]) (g := gName 12) rfl sc_law.nd (pi_list (pv 11)) (blkOk_by (N := ["_law_script", "_law_first", "_law_wires", "_law_word_here", "_law_choices", "_law_cell", "_law_early", "_law_kind", "_law_benches", "_law_vector_here", "_law_told", "_law_other", "_law_one"]) (sc := defScope s_law) (by decide +kernel)) (fun _ _ _ _ _ => pg_name (i := 12) sc_law.nd rfl (Or.inl rfl)) (fun _ _ _ _ _ => pts_nil) (fun _ _ _ _ _ => (pe_tup (pa_cons (pe_ix (show IxR _ (rIxT K) from ix_tup) (pv 12) (pe_nat 0) (fun _ _ => rfl)) (pa_cons (pe_ix (show IxR _ (rIxT K) from ix_tup) (pv 12) (pe_nat 1) (fun _ _ => rfl)) pa_nil))))) (nomark _))
    (pss_one (ps_ret pe_bl))
    pss_nil)
  (pss_one (ps_ret (pe_fn D__law_alike (hr.mono (by decide)) (pa_cons (pe_me0 M_vector G.cl (hr.mono (by decide)) (pe_ix ix_list (pv 8) (pe_nat 0) (fun _ _ => rfl))) (pa_cons (pe_me0 M_vector G.cl (hr.mono (by decide)) (pe_ix ix_list (pv 8) (pe_nat 1) (fun _ _ => rfl))) pa_nil)))))))))))))))),
      st_norm (σ' := [some _, none, none, none, none, none, none, none, none, none, none, none, none]) rfl ?_⟩
    walk_at "rd"
    refine ⟨a, ns, 0, rfl, hs, fun z0 => ?_⟩
    walk_at "rd"
    refine ⟨_, _, rfl, rfl, by decide +kernel, fun m em hm => ?_⟩
    clear em hm z0
    walk_at "rd"
    refine rd_cut (fun σ H1 => H1 = H ∧ ∃ n : Nat, 1 ≤ n ∧ n ≤ 4 ∧ σ = [some (.ref a), some (.int (m : Int)), some (.int (n : Int)), none, none, none, none, none, none, none, none, none, none]) ?_ ?_
    · walk_at "rd"
      refine rd_dec (fun hc => ?_) (fun hc => ?_)
      · walk_at "rd"
        exact ⟨rfl, 4, by omega, by omega, rfl⟩
      · walk_at "rd"
        have h3 : m % 3 < 3 := Nat.mod_lt _ (by decide)
        exact ⟨rfl, 1 + m % 3, by omega, by omega, rfl⟩
    rintro σ H1 ⟨rfl, n, hn1, hn4, rfl⟩
    have hn6 : n ≤ 6 := by omega
    walk_at "rd"
    refine ⟨_, rfl, ?_⟩
    walk_at "rd"
    refine ⟨_, rfl, ?_⟩
    obtain ⟨ms, ec, hml⟩ := cut_ints ns 3 43 (by decide)
    refine ⟨a, _, rfl, hs, fun p1 np1 => ?_⟩
    rw [ec]
    have z2 : Same H1 (upd H1 p1 (.lst (ms.map V.int))) := same_new np1
    have h2 : upd H1 p1 (.lst (ms.map V.int)) p1 = some (.lst (ms.map V.int)) := upd_same
    generalize upd H1 p1 (.lst (ms.map V.int)) = H2 at *
    walk_at "rd"
    refine ⟨p1, ms, n, rfl, SqL.of h2, hml, hn1, hn6, fun wd lw H3 z3 nlw hw wok hwl => ?_⟩
    clear ec
    walk_at "rd"
    refine ⟨_, rfl, ?_⟩
    walk_at "rd"
    refine ⟨_, rfl, ?_⟩
    have h41 : m / 24 % 41 < 41 := Nat.mod_lt _ (by decide)
    obtain ⟨ms2, ec, hml2⟩ := cut_ints ns 3 (3 + m / 24 % 41) (by omega)
    refine ⟨a, _, rfl, sql_same (z2.trans z3) hs, fun p2 np2 => ?_⟩
    rw [ec]
    have z4 : Same H3 (upd H3 p2 (.lst (ms2.map V.int))) := same_new np2
    have h4 : upd H3 p2 (.lst (ms2.map V.int)) p2 = some (.lst (ms2.map V.int)) := upd_same
    generalize upd H3 p2 (.lst (ms2.map V.int)) = H4 at *
    clear ec
    refine ⟨p2, rfl, ⟨_, SqL.of h4⟩, fun D hD => lc_map (walk_list (K := K) (a := p2) (xs := ms2.map V.int)) (R := fun _ v (c : Nat) => v = .int (c : Int)) (fun _ _ _ _ _ h => h) (ms2.map chc) (by rw [List.length_map, List.length_map]) hD (by rw [List.length_map]; omega) (fun _ => by rfl) (fun H' z => SqL.of (z _ _ h4))
      (fun i x H5 H5' d hi s5 hx ed QQ kq => ?_) (fun H5 us z5 h5 ha5 => ?_)⟩
    · obtain ⟨rfl, ex⟩ := hx
      rw [List.length_map] at hi
      rw [List.getElem?_map, List.getElem?_eq_getElem hi] at ex ed
      have ex' : V.int (ms2[i]'hi) = x := Option.some.inj ex
      have ed' : chc (ms2[i]'hi) = d := Option.some.inj ed
      subst ex'
      walk_at "rd"
      refine rd_I (C := CDiv) ⟨by decide, by decide⟩ ?_
      refine ⟨_, _, rfl, rfl, by decide, fun q em hq => ?_⟩
      refine kq _ _ (Same.refl _) ?_
      rw [← ed']
      unfold chc
      have : q = (ms2[i] / 5 % 2).toNat := by
        have em' : (q : Int) = ms2[i] / 5 % 2 := em
        omega
      rw [this]
    have hcs : H5 D = some (.lst (nI (ms2.map chc))) := by rw [h5, all_nI ha5]
    have hle := chc_le ms2
    generalize ms2.map chc = cs at *
    obtain ⟨ds, hds, hda⟩ := hw
    have z35 := z4.trans z5
    have hds5 := z35 _ _ hds
    have z15 := (z2.trans z3).trans z35
    walk_at "rd"
    refine ⟨lw, ds, rfl, .inl (SqL.of hds5), rd_new fun t6 H6 n6 z6 h6 => ?_⟩
    walk_at "rd"
    refine ⟨n, t6, wd, rfl, hn4, ⟨ds, h6, hda.mono fun _ _ => IDeed.mono (tp_of (z35.trans z6))⟩, wok, hwl, fun ks le H7 z7 nle hk hpw wok2 hlen2 => ?_⟩
    walk_at "rd"
    refine ⟨a, ns, 1, rfl, sql_same ((z15.trans z6).trans z7) hs, fun zz => ?_⟩
    walk_at "rd"
    refine ⟨_, _, rfl, rfl, by decide, fun kd em hkd => ?_⟩
    clear em zz
    have hds7 := z7 _ _ (z6 _ _ hds5)
    have hcs7 := z7 _ _ (z6 _ _ hcs)
    have hda7 := hda.mono fun _ _ => IDeed.mono (tp_of ((z35.trans z6).trans z7))
    have hs7 := sql_same ((z15.trans z6).trans z7) hs
    obtain ⟨es, hes, hea⟩ := hpw
    clear h2 h4 h6 hda hds5 hcs h5 ha5 hs hds
    walk_at "rd"
    refine rd_cut (fun σ H8 => ∃ (g : Vec) (b1 b2 l1 l2 lb : Addr) (x9 : Option V), σ = [some (.ref a), some (.int (m : Int)), some (.int (n : Int)), some (.ref lw), some (.ref D), none, some (.ref le), some (.int (kd : Int)), some (.ref lb), x9, none, none, none] ∧
      Same H7 H8 ∧ H8 lb = some (.lst [.ref b1, .ref b2]) ∧ GAt C H8 b1 l1 n g [] ∧ GAt C H8 b2 l2 n g [] ∧ b1 ≠ b2 ∧ l1 ≠ l2 ∧ H7 l1 = none ∧ H7 l2 = none ∧ Bd n 100 g ∧ nrm n g ≠ 0) ?_ ?_
    · walk_at "rd"
      refine rd_dec (fun hc => ?_) (fun hc => ?_)
      · walk_at "rd"
        refine fun b1 d1 nb1 nd1 ne1 => ⟨b1, d1, n, unit 0, .non, rfl, hn1, hn6, upd_same, .inl ⟨rfl, rfl⟩, fun l1 H8 nl1 g1 y8 => ⟨rfl, ?_⟩⟩
        have z8 := mk_same nb1 nd1 y8
        walk_at "rd"
        refine fun b2 d2 nb2 nd2 ne2 => ⟨b2, d2, n, unit 0, .non, rfl, hn1, hn6, upd_same, .inl ⟨rfl, rfl⟩, fun l2 H9 nl2 g2 y9 => ⟨rfl, ?_⟩⟩
        have z9 := mk_same nb2 nd2 y9
        walk_at "rd"
        refine ⟨by show 2 ≤ sizeLine; decide, rd_new fun lb H10 n10 z10 h10 => ?_⟩
        walk_at "rd"
        obtain ⟨⟨dx1, sl1, hp1, hv1, hs1⟩, ha1⟩ := _root_.id g1
        exact ⟨unit 0, b1, b2, l1, l2, lb, none, rfl, (z8.trans z9).trans z10, h10, g1.mono (z9.trans z10), g2.mono z10, ne_of_none hp1 nb2, ne_of_none ha1 (mk_new nl2), mk_new nl1, z8.free (mk_new nl2), unit_bd n, unit_nz n⟩
      · walk_at "rd"
        refine ⟨a, ns, 2, rfl, hs7, fun zz => ?_⟩
        walk_at "rd"
        refine ⟨zz, kd, n, rfl, hn1, hn6, fun g vh H8 z8 nvh hv hbg hzg => ?_⟩
        obtain ⟨us, hus, hua⟩ := hv
        walk_at "rd"
        refine ⟨vh, us, rfl, .inl (SqL.of hus), rd_new fun c1 H9 n9 z9 h9 => ?_⟩
        walk_at "rd"
        refine fun b1 d1 nb1 nd1 ne1 => ⟨b1, d1, n, g, .ref c1, rfl, hn1, hn6, upd_same, .inr ⟨c1, rfl, us, mk_up nb1 nd1 _ _ h9, hua.mono fun _ _ => INum.mono (tp_of (z9.trans (mk_up nb1 nd1)))⟩, fun l1 H10 nl1 g1 y10 => ⟨rfl, ?_⟩⟩
        have z10 := mk_same nb1 nd1 y10
        have hus10 := z10 _ _ (z9 _ _ hus)
        walk_at "rd"
        refine ⟨vh, us, rfl, .inl (SqL.of hus10), rd_new fun c2 H11 n11 z11 h11 => ?_⟩
        walk_at "rd"
        refine fun b2 d2 nb2 nd2 ne2 => ⟨b2, d2, n, g, .ref c2, rfl, hn1, hn6, upd_same, .inr ⟨c2, rfl, us, mk_up nb2 nd2 _ _ h11, hua.mono fun _ _ => INum.mono (tp_of (((z9.trans z10).trans z11).trans (mk_up nb2 nd2)))⟩, fun l2 H12 nl2 g2 y12 => ⟨rfl, ?_⟩⟩
        have z12 := mk_same nb2 nd2 y12
        walk_at "rd"
        refine ⟨by show 2 ≤ sizeLine; decide, rd_new fun lb H13 n13 z13 h13 => ?_⟩
        walk_at "rd"
        obtain ⟨⟨dx1, sl1, hp1, hv1, hs1⟩, ha1⟩ := _root_.id g1
        have z89 := z8.trans z9
        exact ⟨g, b1, b2, l1, l2, lb, _, rfl, (z89.trans z10).trans ((z11.trans z12).trans z13), h13, g1.mono ((z11.trans z12).trans z13), g2.mono z13, ne_of_none (z11 _ _ hp1) nb2, ne_of_none (z11 _ _ ha1) (mk_new nl2), z89.free (mk_new nl1), ((z89.trans z10).trans z11).free (mk_new nl2), hbg, hzg⟩
    rintro σ H8 ⟨g, b1, b2, l1, l2, lb, x9, rfl, z8, hlb, g1, g2, nb, nl, hl1, hl2, hbg, hzg⟩
    have hds8 := z8 _ _ hds7
    have hcs8 := z8 _ _ hcs7
    have hes8 := z8 _ _ hes
    have hda8 := hda7.mono fun _ _ => IDeed.mono (tp_of z8)
    have hea8 := hea.mono fun _ _ => IDeed.mono (tp_of z8)
    obtain ⟨⟨dx1, sl1, hp1, _, _⟩, ha1⟩ := _root_.id g1
    obtain ⟨⟨dx2, sl2, hp2, _, _⟩, ha2⟩ := _root_.id g2
    have nD1 : D ≠ l1 := ne_of_none hcs7 hl1
    have nD2 : D ≠ l2 := ne_of_none hcs7 hl2
    have ne1 : le ≠ l1 := ne_of_none hes hl1
    have ne2 : le ≠ l2 := ne_of_none hes hl2
    have nlb1 : lb ≠ l1 := by intro e; subst e; rw [ha1] at hlb; cases hlb
    have nlb2 : lb ≠ l2 := by intro e; subst e; rw [ha2] at hlb; cases hlb
    have typ : ∀ {Hx : Hp} {p q dx : Addr} {fs : List (Str × V)} {xs : List V}, Hx p = some (.ins C dx fs) → Hx q = some (.lst xs) → q ≠ p := fun h1 h2 e => by subst e; rw [h1] at h2; cases h2
    clear hds7 hcs7 hes hda7 hea hs7
    walk_at "rd"
    refine ⟨lw, ds, rfl, .inl (SqL.of hds8), rd_new fun w2 H9 n9 z9 h9 => ?_⟩
    have hcs9 := z9 _ _ hcs8
    walk_at "rd"
    refine ⟨D, _, rfl, .inl (SqL.of hcs9), rd_new fun c2 H10 n10 z10 h10 => ?_⟩
    have z810 := z9.trans z10
    walk_at "rd"
    obtain ⟨same_told, gc, gd, hgc, hgd, hsame, hnz⟩ := pulled_same (n := n) hle hzg wok hk
    refine ⟨b1, l1, w2, c2, n, 100, g, wd, cs, rfl, hn1, hn6, g1.mono z810, ⟨ds, z10 _ _ h9, hda8.mono fun _ _ => IDeed.mono (tp_of z810)⟩, wok, by omega, h10, (ne_of_none ha1 n9).symm, (ne_of_none (z9 _ _ ha1) n10).symm, hbg, by omega, fun q1 H11 k11 nq1 g11 t11 bd11 => ?_⟩
    have hp2x := z810 _ _ hp2
    have ha2x := z810 _ _ ha2
    have hp1x := z810 _ _ hp1
    have ha1x := z810 _ _ ha1
    have g2y : GAt C H11 b2 l2 n g [] := (g2.mono z810).keep k11 hp1x ha1x nb.symm nl.symm
    have hlb11 := k11 _ _ (z810 _ _ hlb) (typ hp1 hlb) nlb1
    have hcs11 := k11 _ _ (z810 _ _ hcs8) (typ hp1 hcs8) nD1
    have hes11 := k11 _ _ (z810 _ _ hes8) (typ hp1 hes8) ne1
    have hea11 := hea8.mono fun _ _ => IDeed.mono ((tp_of z810).trans (k11.tp (g1.mono z810)))
    obtain ⟨⟨dx2y, sl2y, hp2y, _, _⟩, ha2y⟩ := _root_.id g2y
    obtain ⟨ts1, hts1, hta1⟩ := t11
    have nq2 : q1 ≠ l2 := (ne_of_none ha2x nq1).symm
    clear h9 h10 hds8 hcs8 hes8 hcs9
    walk_at "rd"
    refine ⟨D, _, rfl, .inl (SqL.of hcs11), rd_new fun c3 H12 n12 z12 h12 => ?_⟩
    walk_at "rd"
    refine ⟨b2, l2, le, c3, n, 100, g, pulledW n wd ks, cs, rfl, hn1, hn6, g2y.mono z12, ⟨es, z12 _ _ hes11, hea11.mono fun _ _ => IDeed.mono (tp_of z12)⟩, wok2, by omega, h12, ne2, (ne_of_none ha2y n12).symm, hbg, by omega, fun q2 H13 k13 nq2' g13 t13 bd13 => ?_⟩
    have g1z : GAt C H13 b1 l1 n _ _ := (g11.mono z12).keep k13 (z12 _ _ hp2y) (z12 _ _ ha2y) nb nl
    have hlb13 := k13 _ _ (z12 _ _ hlb11) (typ hp2y hlb11) nlb2
    have hts1' := k13 _ _ (z12 _ _ hts1) (typ hp2y hts1) nq2
    have tpk := (tp_of z12).trans (k13.tp (g2y.mono z12))
    have hta1' := hta1.mono fun _ _ => ITold.mono tpk
    obtain ⟨ts2, hts2, hta2⟩ := t13
    have hl1' := told_le (n := n) (cs := cs) wd ⟨g, [], []⟩
    have hl2' := told_le (n := n) (cs := cs) (pulledW n wd ks) ⟨g, [], []⟩
    rw [same_told] at hta2
    generalize hS1 : ranB n cs ⟨g, [], []⟩ wd = S1 at *
    generalize hS2 : ranB n cs ⟨g, [], []⟩ (pulledW n wd ks) = S2 at *
    have hl1 : S1.told.length ≤ 0 + wd.length := hl1'
    have hlt1 := hta1'.len
    have hlt2 := hta2.len
    clear hts1 hes11 hcs11 hlb11 h12
    walk_at "rd"
    refine ⟨q1, rfl, ⟨_, SqL.of hts1'⟩, fun E1 hE1 => lc_map (walk_list (K := K) (a := q1) (xs := ts1)) (R := IPair) mPair S1.told hlt1.symm hE1 (by omega) (fun _ => by rfl) (fun H' z => SqL.of (z _ _ hts1'))
      (fun i x H14 H14' d hi s14 hx ed QQ kq => ?_) (fun H14 us1 z14 h14 hu1 => ?_)⟩
    · obtain ⟨rfl, ex⟩ := hx
      obtain ⟨d', ed', pa, y, rfl, hpa⟩ := hta1'.get ex
      rw [ed'] at ed
      have ed2 := Option.some.inj ed
      subst ed2
      have hpa1 := s14 _ _ hpa
      walk_at "rd"
      refine ⟨by show 2 ≤ sizeLine; decide, rd_new fun tt H15 n15 z15 h15 => ?_⟩
      exact kq _ _ z15 ⟨tt, rfl, h15⟩
    have hts2' := z14 _ _ hts2
    walk_at "rd"
    refine ⟨q2, rfl, ⟨_, SqL.of hts2'⟩, fun E2 hE2 => lc_map (walk_list (K := K) (a := q2) (xs := ts2)) (R := IPair) mPair S1.told hlt2.symm hE2 (by omega) (fun _ => by rfl) (fun H' z => SqL.of (z _ _ hts2'))
      (fun i x H15 H15' d hi s15 hx ed QQ kq => ?_) (fun H15 us2 z15 h15 hu2 => ?_)⟩
    · obtain ⟨rfl, ex⟩ := hx
      obtain ⟨d', ed', pa, y, rfl, hpa⟩ := hta2.get ex
      rw [ed'] at ed
      have ed2 := Option.some.inj ed
      subst ed2
      have hpa1 := s15 _ _ (z14 _ _ hpa)
      walk_at "rd"
      refine ⟨by show 2 ≤ sizeLine; decide, rd_new fun tt H16 n16 z16 h16 => ?_⟩
      exact kq _ _ z16 ⟨tt, rfl, h16⟩
    refine ⟨_, _, .lst (SqL.of (z15 _ _ h14)) (dp_told (hu1.mono fun v d r => mPair _ _ v d (tp_of z15) r)), .lst (SqL.of h15) (dp_told hu2), shp_told _, shp_told _, ?_⟩
    rw [SeqAt.eqv_refl _ (SeqAt.canLay_of_shaped (shp_told S1.told))]
    refine rd_bl (rd_bF rfl ?_)
    have z1415 := z14.trans z15
    have hlb15 := z1415 _ _ hlb13
    have g1w := g1z.mono z1415
    have g2w := g13.mono z1415
    obtain ⟨⟨dx1w, sl1w, hp1w, _, _⟩, ha1w⟩ := _root_.id g1w
    obtain ⟨⟨dx2w, sl2w, hp2w, _, _⟩, ha2w⟩ := _root_.id g2w
    walk_at "rd"
    refine ⟨b1, l1, n, _, _, rfl, g1w, fun v1 H16 z16 n16 r1 => ?_⟩
    walk_at "rd"
    refine ⟨b2, l2, n, _, _, rfl, g2w.mono z16, fun v2 H17 z17 n17 r2 => ?_⟩
    walk_at "rd"
    refine ⟨v1, v2, n, 300, S1.f, S2.f, rfl, hn6, r1.mono z17, r2, bd11.mono (by omega), bd13.mono (by omega), by decide, hnz, fun at_ hat hv => alike_of hgc hgd hsame hat hv, fun H' z' => ?_⟩
    exact k H'
end

/-! ### what the head leaves, def by def -/
structure HasF (K : PySem.W.Frag) (mg : Str → Option Value) (x : Str) (st : Stmt) : Prop where
  ex : ∃ f fd, mg x = some (.ref f) ∧ Fun K x x st f fd
structure HasM (K : PySem.W.Frag) (C : Addr) (m qual : Str) (st : Stmt) : Prop where
  ex : ∃ f fd, Meth K C m f ∧ Fun K m qual st f fd
structure HasD (K : PySem.W.Frag) (C : Addr) (m qual : Str) (st : Stmt) (v : V) : Prop where
  ex : ∃ f fd, Meth K C m f ∧ FunD K m qual (defArgs st) (defBody st) (defScope st) [v] [] f fd
section
variable {K : PySem.W.Frag} {mg : Str → Option Value} {h : Heap} {x m qual : Str} {st : Stmt} {f C : Addr} {oc kV doc pm cdv ct : Value} {od an : Option Addr} {osl : Array (Option Value)} {R : Prop}
theorem step_f (X : K.In h) (G : h.Ns mainGlobals mg) (x : Str) (st : Stmt) (a : PySem.W.nsIn K mainGlobals x = some (some (.ref f))) (l : K.lookup f = some ⟨oc, od, .func (PySem.W.fnOf x x (defArgs st) (defBody st) (defScope st) .none kV doc pm an cdv ct), osl⟩)
    (c : PySem.W.codeIn K cdv x = true) (k : PySem.W.keepIn K (.ref f) = true) (rest : HasF K mg x st → R) : R := rest ⟨f, _, PySem.W.mg_of X G a, fun_mk l c k⟩
theorem step_m (X : K.In h) {B : Addr} (G : Gx K mg C B) (m qual : Str) (st : Stmt) (a : PySem.W.findIn K (.ref C) m = some (some (.ref f))) (i : PySem.W.isFn K (.ref f) = true) (l : K.lookup f = some ⟨oc, od, .func (PySem.W.fnOf m qual (defArgs st) (defBody st) (defScope st) .none kV doc pm an cdv ct), osl⟩)
    (c : PySem.W.codeIn K cdv qual = true) (k : PySem.W.keepIn K (.ref f) = true) (rest : HasM K C m qual st → R) : R := rest ⟨f, _, ⟨a, i, k⟩, fun_mk l c k⟩
theorem step_d {T : Addr} {o : Obj} {u : Value} {n : Nat} (X : K.In h) {B : Addr} (G : Gx K mg C B) (m qual : Str) (st : Stmt) (v : V) (a : PySem.W.findIn K (.ref C) m = some (some (.ref f))) (i : PySem.W.isFn K (.ref f) = true) (l : K.lookup f = some ⟨oc, od, .func (PySem.W.fnOf m qual (defArgs st) (defBody st) (defScope st) (.ref T) kV doc pm an cdv ct), osl⟩)
    (lt : K.lookup T = some o) (ot : o.data = .seq [u].toArray n) (ru : RelV v u) (c : PySem.W.codeIn K cdv qual = true) (k : PySem.W.keepIn K (.ref f) = true) (rest : HasD K C m qual st v → R) : R :=
  rest ⟨f, _, ⟨a, i, k⟩, ⟨oc, od, .ref T, kV, doc, pm, an, cdv, ct, osl, rfl, l, c, .inr ⟨by simp, T, o, [u], n, rfl, lt, ot, .cons ru .nil⟩, .inl rfl⟩, k⟩
theorem step_c {B : Addr} (mc : Value) (X : K.In h) (G : Gx K mg C B) (m qual : Str) (st : Stmt) (rd : PySem.W.readsIn K B mc = true) (ga : PySem.W.specialIn K (.ref B) "__getattribute__" = some (some (.builtin "type.__getattribute__"))) (a : PySem.W.findCls K (.ref B) mc m = some (.val (.ref f)))
    (l : K.lookup f = some ⟨oc, od, .func (PySem.W.fnOf m qual (defArgs st) (defBody st) (defScope st) .none kV doc pm an cdv ct), osl⟩)
    (c : PySem.W.codeIn K cdv qual = true) (k : PySem.W.keepIn K (.ref f) = true) (rest : (∃ f fd mc, CFn K B mc m f ∧ Fun K m qual st f fd) → R) : R := rest ⟨f, _, mc, ⟨rd, ga, a⟩, fun_mk l c k⟩
theorem step_g (X : K.In h) (G : h.Ns mainGlobals mg) {C B : Addr} (aC : PySem.W.nsIn K mainGlobals "Great" = some (some (.ref C))) (aB : PySem.W.nsIn K mainGlobals "Bench" = some (some (.ref B)))
    (pg : PySem.W.plainGet K C Str.empty = true) (hd : PySem.W.hasDictIn K C = true) (po : PySem.W.plainOver K C = true) (sa : PySem.W.findIn K (.ref C) "__setattr__" = some (some (.builtin "object.__setattr__")))
    (nW : PySem.W.findIn K (.ref C) "wires" = some none) (nA : PySem.W.findIn K (.ref C) "answers" = some none) (nS : PySem.W.findIn K (.ref C) "state" = some none) (mk : PySem.W.makesIn K C = true) (kc : PySem.W.keepIn K (.ref C) = true)
    (rest : Gx K mg C B → (∀ f, Meth K C "__init__" f → Mk K C f) → R) : R :=
  rest ⟨⟨pg, hd, po, sa⟩, PySem.W.mg_of X G aC, PySem.W.mg_of X G aB, nW, nA, nS⟩ fun f M => ⟨mk, M.at_, M.fn, kc⟩
theorem step_b (X : K.In h) (G : h.Ns mainGlobals mg) (x : Str) (a : PySem.W.nsIn K mainGlobals x = some none) (rest : mg x = none → R) : R := rest (PySem.W.mg_none_of X G a)
theorem step_mv (X : K.In h) (G : h.Ns mainGlobals mg) {A : Addr} {n : Nat} {its : Array Value} {sl : Array (Option Value)} (a : PySem.W.nsIn K mainGlobals "MOVES" = some (some (.ref A))) (l : K.lookup A = some ⟨.type "tuple", od, .seq its n, sl⟩)
    (hz : its.size ≤ sizeLine) (v : Vals moveNames its.toList) (rest : (∃ a, mg "MOVES" = some (.ref a) ∧ ∀ H, SqT K H a moveNames) → R) : R :=
  rest ⟨A, PySem.W.mg_of X G a, fun H => .inr ⟨_, its, n, l, rfl, rfl, hz, v⟩⟩
theorem step_mo (X : K.In h) (G : h.Ns mainGlobals mg) {t : Tok} (a : PySem.W.nsIn K mainGlobals "MOST" = some (some (.int 6 t))) (rest : (∃ t, mg "MOST" = some (.int 6 t)) → R) : R := rest ⟨t, PySem.W.mg_of X G a⟩
theorem step_sp {w : World} (X : K.In h) (G : h.Ns mainGlobals mg) {A : Addr} {es : Array DictEntry} {n : Nat} {t1 t2 t3 : Tok} (a : PySem.W.nsIn K mainGlobals "SPINS" = some (some (.ref A))) (l : K.lookup A = some ⟨.type "dict", none, .dict es n, #[]⟩)
    (y : PySem.W.KeysLit w.params es.toList) (u : (A == sysModules) = false) (p1 : PySem.W.nsIn K A "quarter" = some (some (.int 1 t1))) (p2 : PySem.W.nsIn K A "sign" = some (some (.int 2 t2))) (p3 : PySem.W.nsIn K A "back" = some (some (.int 3 t3)))
    (p4 : PySem.W.nsIn K A "flip" = some none) (p5 : PySem.W.nsIn K A "join" = some none) (p6 : PySem.W.nsIn K A "both" = some none) (p7 : PySem.W.nsIn K A "swap" = some none)
    (rest : (∃ a, mg "SPINS" = some (.ref a) ∧ (∃ t, KHasD K w a "quarter" (some (.int 1 t))) ∧ (∃ t, KHasD K w a "sign" (some (.int 2 t))) ∧ (∃ t, KHasD K w a "back" (some (.int 3 t))) ∧
      KHasD K w a "flip" none ∧ KHasD K w a "join" none ∧ KHasD K w a "both" none ∧ KHasD K w a "swap" none) → R) : R :=
  rest ⟨A, PySem.W.mg_of X G a, ⟨t1, es, n, l, y, u, p1⟩, ⟨t2, es, n, l, y, u, p2⟩, ⟨t3, es, n, l, y, u, p3⟩, ⟨es, n, l, y, u, p4⟩, ⟨es, n, l, y, u, p5⟩, ⟨es, n, l, y, u, p6⟩, ⟨es, n, l, y, u, p7⟩⟩
end

end Sg

namespace Sg
open PySem PySem.Spec PyProof.Rows L2
/-! ### the end -/
theorem all_mk {P : Program} {w : World} {K : PySem.W.Frag} {mg : Str → Option Value} {h : Heap} {fa C B : Addr} (X : K.In h) (G0 : h.Ns mainGlobals mg) (hfa : mg "law" = some (.ref fa)) (T : Tx K mg w) (G : Gx K mg C B) (hMk : ∀ f, Meth K C "__init__" f → Mk K C f)
    (h_is_move : HasF K mg "is_move" s_is_move)
    (h_is_look : HasF K mg "is_look" s_is_look)
    (h_bit_of : HasF K mg "bit_of" s_bit_of)
    (h_wires_of : HasF K mg "wires_of" s_wires_of)
    (h_undone : HasF K mg "undone" s_undone)
    (h_moved_on_one : HasF K mg "moved_on_one" s_moved_on_one)
    (h_moved_on_two : HasF K mg "moved_on_two" s_moved_on_two)
    (h_moved : HasF K mg "moved" s_moved)
    (h_ones : HasF K mg "ones" s_ones)
    (h_lowest : HasF K mg "lowest" s_lowest)
    (h_product : HasF K mg "product" s_product)
    (h_crosses : HasF K mg "crosses" s_crosses)
    (h_signed_row : HasF K mg "signed_row" s_signed_row)
    (h_doing : HasF K mg "doing" s_doing)
    (h_carried : HasF K mg "carried" s_carried)
    (h_take : HasF K mg "take" s_take)
    (h_gather : HasF K mg "gather" s_gather)
    (h_clear_wire : HasF K mg "clear_wire" s_clear_wire)
    (h_fair : HasF K mg "fair" s_fair)
    (h_further : HasF K mg "further" s_further)
    (h_pulled_ask : HasF K mg "pulled_ask" s_pulled_ask)
    (h_joined_whens : HasF K mg "joined_whens" s_joined_whens)
    (h_pulled : HasF K mg "pulled" s_pulled)
    (h_plus : HasF K mg "plus" s_plus)
    (h_minus : HasF K mg "minus" s_minus)
    (h_spun : HasF K mg "spun" s_spun)
    (h_norm : HasF K mg "norm" s_norm)
    (h_start : HasF K mg "start" s_start)
    (h_after_mix : HasF K mg "after_mix" s_after_mix)
    (h_after_spin : HasF K mg "after_spin" s_after_spin)
    (h_source : HasF K mg "source" s_source)
    (h_changed : HasF K mg "changed" s_changed)
    (h_struck : HasF K mg "struck" s_struck)
    (h_parted : HasF K mg "parted" s_parted)
    (h_weights : HasF K mg "weights" s_weights)
    (h__law_cell_at : HasF K mg "_law_cell_at" s__law_cell_at)
    (h__law_row : HasF K mg "_law_row" s__law_row)
    (h__law_deed : HasF K mg "_law_deed" s__law_deed)
    (h__law_word : HasF K mg "_law_word" s__law_word)
    (h__law_vector : HasF K mg "_law_vector" s__law_vector)
    (h__law_times : HasF K mg "_law_times" s__law_times)
    (h__law_alike : HasF K mg "_law_alike" s__law_alike)
    (h_law : HasF K mg "law" s_law)
    (m_sign_of : HasM K C "sign_of" "Bench.sign_of" s_Bench_sign_of)
    (m_signed : HasM K C "signed" "Bench.signed" s_Bench_signed)
    (m_vector : HasM K C "vector" "Great.vector" s_Great_vector)
    (m_move : HasM K C "move" "Great.move" s_Great_move)
    (m_strike : HasM K C "strike" "Great.strike" s_Great_strike)
    (m_look : HasM K C "look" "Great.look" s_Great_look)
    (d_do : HasD K C "do" "Bench.do" s_Bench_do (L2.V.int 0))
    (d_ran : HasD K C "ran" "Bench.ran" s_Bench_ran L2.V.non)
    (d___init__ : HasD K C "__init__" "Great.__init__" s_Great___init__ L2.V.non)
    (c_init : ∃ f fd mc, CFn K B mc "__init__" f ∧ Fun K "__init__" "Bench.__init__" s_Bench___init__ f fd) :
    ∃ fd : FuncData, (∀ (s : Shared) (u : Value), BindsTo s fd ⟨[u], []⟩ [("_law_script", u)]) ∧ ∀ base : Heap, K.In base → base.Ns mainGlobals mg → FnOk P w K mg base CX0 9 fa fd ["_law_script"] (spLaw K) := by
  obtain ⟨f_is_move, fd_is_move, e_is_move, F_is_move⟩ := h_is_move.ex
  have D_is_move : ∀ base, Df P w K mg base 1 "is_move" ["deed"] spIsMove := fun base => ⟨f_is_move, fd_is_move, ok_is_move T F_is_move, e_is_move, F_is_move.kp, F_is_move.binds (ps := ["deed"]) fun _ _ _ _ _ _ us hl => match us, hl with | [_], _ => rfl⟩
  obtain ⟨f_is_look, fd_is_look, e_is_look, F_is_look⟩ := h_is_look.ex
  have D_is_look : ∀ base, Df P w K mg base 1 "is_look" ["deed"] spIsLook := fun base => ⟨f_is_look, fd_is_look, ok_is_look F_is_look, e_is_look, F_is_look.kp, F_is_look.binds (ps := ["deed"]) fun _ _ _ _ _ _ us hl => match us, hl with | [_], _ => rfl⟩
  obtain ⟨f_bit_of, fd_bit_of, e_bit_of, F_bit_of⟩ := h_bit_of.ex
  have D_bit_of : ∀ base, Df P w K mg base 1 "bit_of" ["number", "at"] spBit := fun base => ⟨f_bit_of, fd_bit_of, ok_bit_of F_bit_of, e_bit_of, F_bit_of.kp, F_bit_of.binds (ps := ["number", "at"]) fun _ _ _ _ _ _ us hl => match us, hl with | [_, _], _ => rfl⟩
  obtain ⟨f_undone, fd_undone, e_undone, F_undone⟩ := h_undone.ex
  have D_undone : ∀ base, Df P w K mg base 1 "undone" ["move"] spUndone := fun base => ⟨f_undone, fd_undone, ok_undone F_undone, e_undone, F_undone.kp, F_undone.binds (ps := ["move"]) fun _ _ _ _ _ _ us hl => match us, hl with | [_], _ => rfl⟩
  obtain ⟨f_ones, fd_ones, e_ones, F_ones⟩ := h_ones.ex
  have D_ones : ∀ base, Df P w K mg base 1 "ones" ["number"] spOnes := fun base => ⟨f_ones, fd_ones, ok_ones F_ones, e_ones, F_ones.kp, F_ones.binds (ps := ["number"]) fun _ _ _ _ _ _ us hl => match us, hl with | [_], _ => rfl⟩
  obtain ⟨f_lowest, fd_lowest, e_lowest, F_lowest⟩ := h_lowest.ex
  have D_lowest : ∀ base, Df P w K mg base 1 "lowest" ["number"] spLowest := fun base => ⟨f_lowest, fd_lowest, ok_lowest F_lowest, e_lowest, F_lowest.kp, F_lowest.binds (ps := ["number"]) fun _ _ _ _ _ _ us hl => match us, hl with | [_], _ => rfl⟩
  obtain ⟨f_plus, fd_plus, e_plus, F_plus⟩ := h_plus.ex
  have D_plus : ∀ base, Df P w K mg base 1 "plus" ["one", "other"] spPlus := fun base => ⟨f_plus, fd_plus, ok_plus F_plus, e_plus, F_plus.kp, F_plus.binds (ps := ["one", "other"]) fun _ _ _ _ _ _ us hl => match us, hl with | [_, _], _ => rfl⟩
  obtain ⟨f_minus, fd_minus, e_minus, F_minus⟩ := h_minus.ex
  have D_minus : ∀ base, Df P w K mg base 1 "minus" ["one", "other"] spMinus := fun base => ⟨f_minus, fd_minus, ok_minus F_minus, e_minus, F_minus.kp, F_minus.binds (ps := ["one", "other"]) fun _ _ _ _ _ _ us hl => match us, hl with | [_, _], _ => rfl⟩
  obtain ⟨f_spun, fd_spun, e_spun, F_spun⟩ := h_spun.ex
  have D_spun : ∀ base, Df P w K mg base 1 "spun" ["number", "turn"] spSpun := fun base => ⟨f_spun, fd_spun, ok_spun F_spun, e_spun, F_spun.kp, F_spun.binds (ps := ["number", "turn"]) fun _ _ _ _ _ _ us hl => match us, hl with | [_, _], _ => rfl⟩
  obtain ⟨f_norm, fd_norm, e_norm, F_norm⟩ := h_norm.ex
  have D_norm : ∀ base, Df P w K mg base 1 "norm" ["number"] spNorm := fun base => ⟨f_norm, fd_norm, ok_norm F_norm, e_norm, F_norm.kp, F_norm.binds (ps := ["number"]) fun _ _ _ _ _ _ us hl => match us, hl with | [_], _ => rfl⟩
  obtain ⟨f_start, fd_start, e_start, F_start⟩ := h_start.ex
  have D_start : ∀ base, Df P w K mg base 1 "start" ["wires"] spStart := fun base => ⟨f_start, fd_start, ok_start T F_start, e_start, F_start.kp, F_start.binds (ps := ["wires"]) fun _ _ _ _ _ _ us hl => match us, hl with | [_], _ => rfl⟩
  obtain ⟨f_source, fd_source, e_source, F_source⟩ := h_source.ex
  have D_source : ∀ base, Df P w K mg base 1 "source" ["at", "move"] spSource := fun base => ⟨f_source, fd_source, ok_source F_source, e_source, F_source.kp, F_source.binds (ps := ["at", "move"]) fun _ _ _ _ _ _ us hl => match us, hl with | [_, _], _ => rfl⟩
  obtain ⟨f__law_cell_at, fd__law_cell_at, e__law_cell_at, F__law_cell_at⟩ := h__law_cell_at.ex
  have D__law_cell_at : ∀ base, Df P w K mg base 1 "_law_cell_at" ["_law_script", "_law_k"] (spCellAt K) := fun base => ⟨f__law_cell_at, fd__law_cell_at, ok__law_cell_at T F__law_cell_at, e__law_cell_at, F__law_cell_at.kp, F__law_cell_at.binds (ps := ["_law_script", "_law_k"]) fun _ _ _ _ _ _ us hl => match us, hl with | [_, _], _ => rfl⟩
  obtain ⟨f__law_row, fd__law_row, e__law_row, F__law_row⟩ := h__law_row.ex
  have D__law_row : ∀ base, Df P w K mg base 1 "_law_row" ["_law_cell", "_law_wires"] spLawRow := fun base => ⟨f__law_row, fd__law_row, ok__law_row T F__law_row, e__law_row, F__law_row.kp, F__law_row.binds (ps := ["_law_cell", "_law_wires"]) fun _ _ _ _ _ _ us hl => match us, hl with | [_, _], _ => rfl⟩
  obtain ⟨f__law_vector, fd__law_vector, e__law_vector, F__law_vector⟩ := h__law_vector.ex
  have D__law_vector : ∀ base, Df P w K mg base 1 "_law_vector" ["_law_cell", "_law_kind", "_law_wires"] spLawVector := fun base => ⟨f__law_vector, fd__law_vector, ok__law_vector T F__law_vector, e__law_vector, F__law_vector.kp, F__law_vector.binds (ps := ["_law_cell", "_law_kind", "_law_wires"]) fun _ _ _ _ _ _ us hl => match us, hl with | [_, _, _], _ => rfl⟩
  obtain ⟨f__law_times, fd__law_times, e__law_times, F__law_times⟩ := h__law_times.ex
  have D__law_times : ∀ base, Df P w K mg base 1 "_law_times" ["_law_one", "_law_other"] spLawTimes := fun base => ⟨f__law_times, fd__law_times, ok__law_times F__law_times, e__law_times, F__law_times.kp, F__law_times.binds (ps := ["_law_one", "_law_other"]) fun _ _ _ _ _ _ us hl => match us, hl with | [_, _], _ => rfl⟩
  obtain ⟨f_wires_of, fd_wires_of, e_wires_of, F_wires_of⟩ := h_wires_of.ex
  have D_wires_of : ∀ base, Df P w K mg base 2 "wires_of" ["deed"] spWires := fun base => ⟨f_wires_of, fd_wires_of, ok_wires_of T F_wires_of (D_is_move base), e_wires_of, F_wires_of.kp, F_wires_of.binds (ps := ["deed"]) fun _ _ _ _ _ _ us hl => match us, hl with | [_], _ => rfl⟩
  obtain ⟨f_moved_on_one, fd_moved_on_one, e_moved_on_one, F_moved_on_one⟩ := h_moved_on_one.ex
  have D_moved_on_one : ∀ base, Df P w K mg base 2 "moved_on_one" ["row", "name", "wire"] spMoved1 := fun base => ⟨f_moved_on_one, fd_moved_on_one, ok_moved_on_one F_moved_on_one (D_bit_of base), e_moved_on_one, F_moved_on_one.kp, F_moved_on_one.binds (ps := ["row", "name", "wire"]) fun _ _ _ _ _ _ us hl => match us, hl with | [_, _, _], _ => rfl⟩
  obtain ⟨f_moved_on_two, fd_moved_on_two, e_moved_on_two, F_moved_on_two⟩ := h_moved_on_two.ex
  have D_moved_on_two : ∀ base, Df P w K mg base 2 "moved_on_two" ["row", "name", "wire", "other"] spMoved2 := fun base => ⟨f_moved_on_two, fd_moved_on_two, ok_moved_on_two F_moved_on_two (D_bit_of base), e_moved_on_two, F_moved_on_two.kp, F_moved_on_two.binds (ps := ["row", "name", "wire", "other"]) fun _ _ _ _ _ _ us hl => match us, hl with | [_, _, _, _], _ => rfl⟩
  obtain ⟨f_product, fd_product, e_product, F_product⟩ := h_product.ex
  have D_product : ∀ base, Df P w K mg base 2 "product" ["first", "second"] spProduct := fun base => ⟨f_product, fd_product, ok_product F_product (D_ones base), e_product, F_product.kp, F_product.binds (ps := ["first", "second"]) fun _ _ _ _ _ _ us hl => match us, hl with | [_, _], _ => rfl⟩
  obtain ⟨f_crosses, fd_crosses, e_crosses, F_crosses⟩ := h_crosses.ex
  have D_crosses : ∀ base, Df P w K mg base 2 "crosses" ["first", "second"] spCrosses := fun base => ⟨f_crosses, fd_crosses, ok_crosses F_crosses (D_ones base), e_crosses, F_crosses.kp, F_crosses.binds (ps := ["first", "second"]) fun _ _ _ _ _ _ us hl => match us, hl with | [_, _], _ => rfl⟩
  obtain ⟨f_signed_row, fd_signed_row, e_signed_row, F_signed_row⟩ := h_signed_row.ex
  have D_signed_row : ∀ base, Df P w K mg base 2 "signed_row" ["minus_sign", "xs", "zs"] spSigned := fun base => ⟨f_signed_row, fd_signed_row, ok_signed_row F_signed_row (D_ones base), e_signed_row, F_signed_row.kp, F_signed_row.binds (ps := ["minus_sign", "xs", "zs"]) fun _ _ _ _ _ _ us hl => match us, hl with | [_, _, _], _ => rfl⟩
  obtain ⟨f_after_mix, fd_after_mix, e_after_mix, F_after_mix⟩ := h_after_mix.ex
  have D_after_mix : ∀ base, Df P w K mg base 2 "after_mix" ["vector", "mask"] spAfterMix := fun base => ⟨f_after_mix, fd_after_mix, ok_after_mix T F_after_mix (D_plus base) (D_minus base), e_after_mix, F_after_mix.kp, F_after_mix.binds (ps := ["vector", "mask"]) fun _ _ _ _ _ _ us hl => match us, hl with | [_, _], _ => rfl⟩
  obtain ⟨f_after_spin, fd_after_spin, e_after_spin, F_after_spin⟩ := h_after_spin.ex
  have D_after_spin : ∀ base, Df P w K mg base 2 "after_spin" ["vector", "mask", "turn"] spAfterSpin := fun base => ⟨f_after_spin, fd_after_spin, ok_after_spin T F_after_spin (D_spun base), e_after_spin, F_after_spin.kp, F_after_spin.binds (ps := ["vector", "mask", "turn"]) fun _ _ _ _ _ _ us hl => match us, hl with | [_, _, _], _ => rfl⟩
  obtain ⟨f_struck, fd_struck, e_struck, F_struck⟩ := h_struck.ex
  have D_struck : ∀ base, Df P w K mg base 2 "struck" ["vector", "row"] spStruck := fun base => ⟨f_struck, fd_struck, ok_struck T F_struck (D_spun base) (D_ones base), e_struck, F_struck.kp, F_struck.binds (ps := ["vector", "row"]) fun _ _ _ _ _ _ us hl => match us, hl with | [_, _], _ => rfl⟩
  obtain ⟨f__law_deed, fd__law_deed, e__law_deed, F__law_deed⟩ := h__law_deed.ex
  have D__law_deed : ∀ base, Df P w K mg base 2 "_law_deed" ["_law_cell", "_law_wires", "_law_looks"] spLawDeed := fun base => ⟨f__law_deed, fd__law_deed, ok__law_deed T F__law_deed (D__law_row base), e__law_deed, F__law_deed.kp, F__law_deed.binds (ps := ["_law_cell", "_law_wires", "_law_looks"]) fun _ _ _ _ _ _ us hl => match us, hl with | [_, _, _], _ => rfl⟩
  obtain ⟨f__law_alike, fd__law_alike, e__law_alike, F__law_alike⟩ := h__law_alike.ex
  have D__law_alike : ∀ base, Df P w K mg base 2 "_law_alike" ["_law_one", "_law_other"] spLawAlike := fun base => ⟨f__law_alike, fd__law_alike, ok__law_alike T F__law_alike (D__law_times base), e__law_alike, F__law_alike.kp, F__law_alike.binds (ps := ["_law_one", "_law_other"]) fun _ _ _ _ _ _ us hl => match us, hl with | [_, _], _ => rfl⟩
  obtain ⟨f_moved, fd_moved, e_moved, F_moved⟩ := h_moved.ex
  have D_moved : ∀ base, Df P w K mg base 3 "moved" ["row", "move"] spMoved := fun base => ⟨f_moved, fd_moved, ok_moved T F_moved (D_moved_on_one base) (D_moved_on_two base), e_moved, F_moved.kp, F_moved.binds (ps := ["row", "move"]) fun _ _ _ _ _ _ us hl => match us, hl with | [_, _], _ => rfl⟩
  obtain ⟨f_carried, fd_carried, e_carried, F_carried⟩ := h_carried.ex
  have D_carried : ∀ base, Df P w K mg base 3 "carried" ["images", "row"] spCarried := fun base => ⟨f_carried, fd_carried, ok_carried T F_carried (D_product base), e_carried, F_carried.kp, F_carried.binds (ps := ["images", "row"]) fun _ _ _ _ _ _ us hl => match us, hl with | [_, _], _ => rfl⟩
  obtain ⟨f_joined_whens, fd_joined_whens, e_joined_whens, F_joined_whens⟩ := h_joined_whens.ex
  have D_joined_whens : ∀ base, Df P w K mg base 3 "joined_whens" ["strikes"] spJoined := fun base => ⟨f_joined_whens, fd_joined_whens, ok_joined_whens T F_joined_whens (D_product base) (D_signed_row base), e_joined_whens, F_joined_whens.kp, F_joined_whens.binds (ps := ["strikes"]) fun _ _ _ _ _ _ us hl => match us, hl with | [_], _ => rfl⟩
  obtain ⟨f_changed, fd_changed, e_changed, F_changed⟩ := h_changed.ex
  have D_changed : ∀ base, Df P w K mg base 3 "changed" ["vector", "move"] spChanged := fun base => ⟨f_changed, fd_changed, ok_changed T F_changed (D_after_mix base) (D_after_spin base) (D_source base), e_changed, F_changed.kp, F_changed.binds (ps := ["vector", "move"]) fun _ _ _ _ _ _ us hl => match us, hl with | [_, _], _ => rfl⟩
  obtain ⟨f_parted, fd_parted, e_parted, F_parted⟩ := h_parted.ex
  have D_parted : ∀ base, Df P w K mg base 3 "parted" ["vector", "row", "answer"] spParted := fun base => ⟨f_parted, fd_parted, ok_parted T F_parted (D_struck base) (D_plus base) (D_minus base), e_parted, F_parted.kp, F_parted.binds (ps := ["vector", "row", "answer"]) fun _ _ _ _ _ _ us hl => match us, hl with | [_, _, _], _ => rfl⟩
  obtain ⟨f_weights, fd_weights, e_weights, F_weights⟩ := h_weights.ex
  have D_weights : ∀ base, Df P w K mg base 3 "weights" ["vector", "row"] spWeights := fun base => ⟨f_weights, fd_weights, ok_weights T F_weights (D_struck base) (D_plus base) (D_minus base) (D_norm base), e_weights, F_weights.kp, F_weights.binds (ps := ["vector", "row"]) fun _ _ _ _ _ _ us hl => match us, hl with | [_, _], _ => rfl⟩
  obtain ⟨f__law_word, fd__law_word, e__law_word, F__law_word⟩ := h__law_word.ex
  have D__law_word : ∀ base, Df P w K mg base 3 "_law_word" ["_law_cells", "_law_wires"] (spLawWord K) := fun base => ⟨f__law_word, fd__law_word, ok__law_word T F__law_word (D__law_deed base), e__law_word, F__law_word.kp, F__law_word.binds (ps := ["_law_cells", "_law_wires"]) fun _ _ _ _ _ _ us hl => match us, hl with | [_, _], _ => rfl⟩
  obtain ⟨f_doing, fd_doing, e_doing, F_doing⟩ := h_doing.ex
  have D_doing : ∀ base, Df P w K mg base 4 "doing" ["wires", "word"] spDoing := fun base => ⟨f_doing, fd_doing, ok_doing T F_doing (D_is_move base) (D_moved base), e_doing, F_doing.kp, F_doing.binds (ps := ["wires", "word"]) fun _ _ _ _ _ _ us hl => match us, hl with | [_, _], _ => rfl⟩
  obtain ⟨f_take, fd_take, e_take, F_take⟩ := h_take.ex
  have D_take : ∀ base, Df P w K mg base 4 "take" ["images", "steps", "move"] spTake := fun base => ⟨f_take, fd_take, ok_take T F_take (D_moved base), e_take, F_take.kp, F_take.binds (ps := ["images", "steps", "move"]) fun _ _ _ _ _ _ us hl => match us, hl with | [_, _, _], _ => rfl⟩
  obtain ⟨f_further, fd_further, e_further, F_further⟩ := h_further.ex
  have D_further : ∀ base, Df P w K mg base 4 "further" ["images", "move"] spFurther := fun base => ⟨f_further, fd_further, ok_further T F_further (D_undone base) (D_wires_of base) (D_moved base) (D_carried base), e_further, F_further.kp, F_further.binds (ps := ["images", "move"]) fun _ _ _ _ _ _ us hl => match us, hl with | [_, _], _ => rfl⟩
  obtain ⟨f_pulled_ask, fd_pulled_ask, e_pulled_ask, F_pulled_ask⟩ := h_pulled_ask.ex
  have D_pulled_ask : ∀ base, Df P w K mg base 4 "pulled_ask" ["images", "deed", "strikes"] spAsk := fun base => ⟨f_pulled_ask, fd_pulled_ask, ok_pulled_ask T F_pulled_ask (D_carried base) (D_crosses base), e_pulled_ask, F_pulled_ask.kp, F_pulled_ask.binds (ps := ["images", "deed", "strikes"]) fun _ _ _ _ _ _ us hl => match us, hl with | [_, _, _], _ => rfl⟩
  obtain ⟨f_gather, fd_gather, e_gather, F_gather⟩ := h_gather.ex
  have D_gather : ∀ base, Df P w K mg base 5 "gather" ["images", "steps", "at", "wire"] spGather := fun base => ⟨f_gather, fd_gather, ok_gather T F_gather (D_take base) (D_lowest base), e_gather, F_gather.kp, F_gather.binds (ps := ["images", "steps", "at", "wire"]) fun _ _ _ _ _ _ us hl => match us, hl with | [_, _, _, _], _ => rfl⟩
  obtain ⟨f_clear_wire, fd_clear_wire, e_clear_wire, F_clear_wire⟩ := h_clear_wire.ex
  have D_clear_wire : ∀ base, Df P w K mg base 6 "clear_wire" ["images", "steps", "wire"] spClear := fun base => ⟨f_clear_wire, fd_clear_wire, ok_clear_wire T F_clear_wire (D_take base) (D_gather base), e_clear_wire, F_clear_wire.kp, F_clear_wire.binds (ps := ["images", "steps", "wire"]) fun _ _ _ _ _ _ us hl => match us, hl with | [_, _, _], _ => rfl⟩
  obtain ⟨f_fair, fd_fair, e_fair, F_fair⟩ := h_fair.ex
  have D_fair : ∀ base, Df P w K mg base 7 "fair" ["wires", "word"] spFair := fun base => ⟨f_fair, fd_fair, ok_fair T F_fair (D_doing base) (D_clear_wire base) (D_undone base), e_fair, F_fair.kp, F_fair.binds (ps := ["wires", "word"]) fun _ _ _ _ _ _ us hl => match us, hl with | [_, _], _ => rfl⟩
  obtain ⟨f_pulled, fd_pulled, e_pulled, F_pulled⟩ := h_pulled.ex
  have D_pulled : ∀ base, Df P w K mg base 8 "pulled" ["wires", "word"] spPulled := fun base => ⟨f_pulled, fd_pulled, ok_pulled T F_pulled (D_doing base) (D_is_move base) (D_is_look base) (D_further base) (D_pulled_ask base) (D_carried base) (D_joined_whens base) (D_fair base), e_pulled, F_pulled.kp, F_pulled.binds (ps := ["wires", "word"]) fun _ _ _ _ _ _ us hl => match us, hl with | [_, _], _ => rfl⟩
  obtain ⟨g_sign_of, gd_sign_of, N_sign_of, E_sign_of⟩ := m_sign_of.ex
  have M_sign_of : ∀ base, Dm P w K mg base C 1 "sign_of" ["self", "number"] [] (spSignOf C) := fun base => ⟨g_sign_of, gd_sign_of, [], ok_sign_of T G E_sign_of, N_sign_of, .nil, E_sign_of.binds (ps := ["self", "number"]) fun _ _ _ _ _ _ us hl => match us, hl with | [_, _], _ => rfl⟩
  obtain ⟨g_signed, gd_signed, N_signed, E_signed⟩ := m_signed.ex
  have M_signed : ∀ base, Dm P w K mg base C 3 "signed" ["self", "row", "numbers"] [] (spSignedG C) := fun base => ⟨g_signed, gd_signed, [], ok_signed T G E_signed (D_product base) (M_sign_of base), N_signed, .nil, E_signed.binds (ps := ["self", "row", "numbers"]) fun _ _ _ _ _ _ us hl => match us, hl with | [_, _, _], _ => rfl⟩
  obtain ⟨g_vector, gd_vector, N_vector, E_vector⟩ := m_vector.ex
  have M_vector : ∀ base, Dm P w K mg base C 1 "vector" ["self"] [] (spVector C) := fun base => ⟨g_vector, gd_vector, [], ok_vector T G E_vector, N_vector, .nil, E_vector.binds (ps := ["self"]) fun _ _ _ _ _ _ us hl => match us, hl with | [_], _ => rfl⟩
  obtain ⟨g_move, gd_move, N_move, E_move⟩ := m_move.ex
  have M_move : ∀ base, Dm P w K mg base C 4 "move" ["self", "deed"] [] (spMoveG C) := fun base => ⟨g_move, gd_move, [], ok_moveG T G E_move (D_changed base), N_move, .nil, E_move.binds (ps := ["self", "deed"]) fun _ _ _ _ _ _ us hl => match us, hl with | [_, _], _ => rfl⟩
  obtain ⟨g_strike, gd_strike, N_strike, E_strike⟩ := m_strike.ex
  have M_strike : ∀ base, Dm P w K mg base C 3 "strike" ["self", "number", "row"] [] (spStrikeG C) := fun base => ⟨g_strike, gd_strike, [], ok_strikeG T G E_strike (D_struck base), N_strike, .nil, E_strike.binds (ps := ["self", "number", "row"]) fun _ _ _ _ _ _ us hl => match us, hl with | [_, _, _], _ => rfl⟩
  obtain ⟨g_look, gd_look, N_look, E_look⟩ := m_look.ex
  have M_look : ∀ base, Dm P w K mg base C 4 "look" ["self", "row", "choice"] [] (spLookG C) := fun base => ⟨g_look, gd_look, [], ok_lookG T G E_look (D_weights base) (D_parted base), N_look, .nil, E_look.binds (ps := ["self", "row", "choice"]) fun _ _ _ _ _ _ us hl => match us, hl with | [_, _, _], _ => rfl⟩
  obtain ⟨gb, gdb, mcb, cfb, Fb⟩ := c_init
  have C_init : ∀ base, Dc P w K mg base B 1 "__init__" ["self", "wires"] (spBInit C) := fun base => ⟨gb, gdb, mcb, ok_binit T G Fb, cfb, Fb.kp, Fb.binds (ps := ["self", "wires"]) fun _ _ _ _ _ _ us hl => match us, hl with | [_, _], _ => rfl⟩
  obtain ⟨g_do, gd_do, N_do, E_do⟩ := d_do.ex
  obtain ⟨x_do, v_do, y_do⟩ := E_do.binds1 (ps := ["self", "deed", "choice"]) 3 1 (by simp) rfl fun T kV doc pm an cdv ct us its hl h1 => match us, hl, its, h1 with | [_, _, _], _, [_], _ => ⟨_, rfl, rfl⟩
  have M_do : ∀ base, Dm P w K mg base C 5 "do" ["self", "deed", "choice"] [] (spDo C) := fun base => ⟨g_do, gd_do, x_do, ok_do T G E_do (M_look base) (M_signed base) (M_strike base) (M_move base), N_do, v_do, y_do⟩
  obtain ⟨g_ran, gd_ran, N_ran, E_ran⟩ := d_ran.ex
  obtain ⟨x_ran, v_ran, y_ran⟩ := E_ran.binds1 (ps := ["self", "word", "choices"]) 3 1 (by simp) rfl fun T kV doc pm an cdv ct us its hl h1 => match us, hl, its, h1 with | [_, _, _], _, [_], _ => ⟨_, rfl, rfl⟩
  have M_ran : ∀ base, Dm P w K mg base C 6 "ran" ["self", "word", "choices"] [] (spRan C) := fun base => ⟨g_ran, gd_ran, x_ran, ok_ran T G E_ran (M_do base), N_ran, v_ran, y_ran⟩
  obtain ⟨g_init, gd_init, N_init, E_init⟩ := d___init__.ex
  obtain ⟨x_init, v_init, y_init⟩ := E_init.binds1 (ps := ["self", "wires", "vector"]) 3 1 (by simp) rfl fun T kV doc pm an cdv ct us its hl h1 => match us, hl, its, h1 with | [_, _, _], _, [_], _ => ⟨_, rfl, rfl⟩
  obtain ⟨x2_init, v2_init, y2_init⟩ := E_init.binds1 (ps := ["self", "wires", "vector"]) 2 0 (by simp) rfl fun T kV doc pm an cdv ct us its hl h1 => match us, hl, its, h1 with | [_, _], _, [_], _ => ⟨_, rfl, rfl⟩
  have K1 : ∀ base, Dk P w K mg base C 2 ["self", "wires", "vector"] [.non] (spGInit C) := fun base => ⟨g_init, gd_init, x2_init, ok_ginit T G E_init (C_init base) (D_start base), hMk _ N_init, v2_init, y2_init⟩
  have K2 : ∀ base, Dk P w K mg base C 2 ["self", "wires", "vector"] [] (spGInit C) := fun base => ⟨g_init, gd_init, x_init, ok_ginit T G E_init (C_init base) (D_start base), hMk _ N_init, v_init, y_init⟩
  obtain ⟨f_law, fd_law, e_law, F_law⟩ := h_law.ex
  have e := hfa.symm.trans e_law
  cases e
  obtain ⟨oc, od, kV, doc, pm, an, cdv, ct, osl, rfl, lk, hcd⟩ := _root_.id F_law.ex
  exact ⟨_, fun s v => .of_eq rfl, fun base _ _ => ok_law T G F_law (D__law_cell_at base) (D__law_word base) (D_pulled base) (D__law_vector base) (D__law_alike base) (K1 base) (K2 base) (M_ran base) (M_vector base)⟩
theorem walk0 {l : PySem.W.OpenLaw} {q : Program} {loose : List Str} {XP : (Str → Option Value) → Heap → Prop} {YP : World → Heap → Prop} {d : DefRec} {K : Params → PySem.W.Frag} (hn : l.most = some 63) (hdf : d.params.defaults = [])
    (hY : ∀ (w : World) (h : Heap), YP w h → (K w.params).In h)
    (F : ∀ (w : World) (mg : Str → Option Value) (fa : Addr) (h : Heap), (K w.params).In h → h.Ns mainGlobals mg → mg d.name = some (.ref fa) →
      ∃ fd : FuncData, (∀ (s : Shared) (u : Value), BindsTo s fd ⟨[u], []⟩ [("_law_script", u)]) ∧ ∀ base : Heap, (K w.params).In base → base.Ns mainGlobals mg → FnOk l.prog w (K w.params) mg base CX0 9 fa fd ["_law_script"] (spLaw (K w.params))) :
    PySem.W.WalkO q loose XP YP l.row.toRowW d [] (fun f vs => PySem.call f vs) :=
  L2.walk_of (n := 63) (k := 9) (x := "_law_script") (CX := fun _ => CX0) (sp := fun w => spLaw (K w.params)) hn (by decide) hdf ⟨rfl, by decide, by decide⟩ hY F (fun _ _ a ns hl _ hS => ⟨a, ns, rfl, hS, hl, fun _ => rfl⟩) fun _ _ _ _ _ z => z
end Sg

open PySem PySem.W PyProof.Rows in
set_option maxHeartbeats 0 in
theorem PySem.Challenge.cw_signtable_k63_whole_pulled_does_the_same_holds : PySem.Challenge.rw_signtable_k63_whole_pulled_does_the_same.Holds := by
  w_on; o_law; k_head; (case hw => w_witness2)
  k_fill
  refine Sg.walk0 (l := PySem.Challenge.rw_signtable_k63_whole_pulled_does_the_same) rfl rfl (fun w h Y => PySem.W.kIn_of Y) ?F
  case F =>
    intro w mg fa h KX G hmg
    refine' Sg.step_g KX G ?aC1 ?aB1 ?pg1 ?hd1 ?po1 ?sa1 ?nW1 ?nA1 ?nS1 ?mk1 ?kc1 ?R1
    (case aC1 => k_is)
    (case aB1 => k_is)
    (case pg1 => k_is)
    (case hd1 => k_is)
    (case po1 => k_is)
    (case sa1 => k_is)
    (case nW1 => k_is)
    (case nA1 => k_is)
    (case nS1 => k_is)
    (case mk1 => k_is)
    (case kc1 => k_is)
    intro hG hMk
    refine' Sg.step_b KX G "len" ?a2 ?R2
    (case a2 => k_is)
    intro b_len
    refine' Sg.step_b KX G "range" ?a3 ?R3
    (case a3 => k_is)
    intro b_range
    refine' Sg.step_b KX G "list" ?a4 ?R4
    (case a4 => k_is)
    intro b_list
    refine' Sg.step_b KX G "tuple" ?a5 ?R5
    (case a5 => k_is)
    intro b_tuple
    refine' Sg.step_b KX G "sorted" ?a6 ?R6
    (case a6 => k_is)
    intro b_sorted
    refine' Sg.step_b KX G "isinstance" ?a7 ?R7
    (case a7 => k_is)
    intro b_isinstance
    refine' Sg.step_b KX G "enumerate" ?a8 ?R8
    (case a8 => k_is)
    intro b_enumerate
    refine' Sg.step_b KX G "zip" ?a9 ?R9
    (case a9 => k_is)
    intro b_zip
    refine' Sg.step_b KX G "reversed" ?a10 ?R10
    (case a10 => k_is)
    intro b_reversed
    refine' Sg.step_mv KX G ?a11 ?l11 ?z11 ?v11 ?R11
    (case a11 => k_is)
    (case l11 => k_is)
    (case z11 => decide)
    (case v11 => exact .cons ⟨_, rfl⟩ (.cons ⟨_, rfl⟩ (.cons ⟨_, rfl⟩ (.cons ⟨_, rfl⟩ (.cons ⟨_, rfl⟩ (.cons ⟨_, rfl⟩ (.cons ⟨_, rfl⟩ (.cons ⟨_, rfl⟩ .nil))))))))
    intro h_mv
    refine' Sg.step_mo KX G ?a12 ?R12
    (case a12 => k_is)
    intro h_mo
    refine' Sg.step_sp KX G ?a13 ?l13 ?y13 ?u13 ?p013 ?p113 ?p213 ?p313 ?p413 ?p513 ?p613 ?R13
    (case a13 => k_is)
    (case l13 => k_is)
    (case y13 => exact ⟨⟨_, _, rfl, rfl⟩, ⟨_, _, rfl, rfl⟩, ⟨_, _, rfl, rfl⟩, trivial⟩)
    (case u13 => decide +kernel)
    (case p013 => k_is)
    (case p113 => k_is)
    (case p213 => k_is)
    (case p313 => k_is)
    (case p413 => k_is)
    (case p513 => k_is)
    (case p613 => k_is)
    intro h_sp
    refine' Sg.step_f KX G "is_move" Sg.s_is_move ?a14 ?l14 ?c14 ?k14 ?R14
    (case a14 => k_is)
    (case l14 => k_is)
    (case c14 => k_is)
    (case k14 => k_is)
    intro h_is_move
    refine' Sg.step_f KX G "is_look" Sg.s_is_look ?a15 ?l15 ?c15 ?k15 ?R15
    (case a15 => k_is)
    (case l15 => k_is)
    (case c15 => k_is)
    (case k15 => k_is)
    intro h_is_look
    refine' Sg.step_f KX G "bit_of" Sg.s_bit_of ?a16 ?l16 ?c16 ?k16 ?R16
    (case a16 => k_is)
    (case l16 => k_is)
    (case c16 => k_is)
    (case k16 => k_is)
    intro h_bit_of
    refine' Sg.step_f KX G "wires_of" Sg.s_wires_of ?a17 ?l17 ?c17 ?k17 ?R17
    (case a17 => k_is)
    (case l17 => k_is)
    (case c17 => k_is)
    (case k17 => k_is)
    intro h_wires_of
    refine' Sg.step_f KX G "undone" Sg.s_undone ?a18 ?l18 ?c18 ?k18 ?R18
    (case a18 => k_is)
    (case l18 => k_is)
    (case c18 => k_is)
    (case k18 => k_is)
    intro h_undone
    refine' Sg.step_f KX G "moved_on_one" Sg.s_moved_on_one ?a19 ?l19 ?c19 ?k19 ?R19
    (case a19 => k_is)
    (case l19 => k_is)
    (case c19 => k_is)
    (case k19 => k_is)
    intro h_moved_on_one
    refine' Sg.step_f KX G "moved_on_two" Sg.s_moved_on_two ?a20 ?l20 ?c20 ?k20 ?R20
    (case a20 => k_is)
    (case l20 => k_is)
    (case c20 => k_is)
    (case k20 => k_is)
    intro h_moved_on_two
    refine' Sg.step_f KX G "moved" Sg.s_moved ?a21 ?l21 ?c21 ?k21 ?R21
    (case a21 => k_is)
    (case l21 => k_is)
    (case c21 => k_is)
    (case k21 => k_is)
    intro h_moved
    refine' Sg.step_f KX G "ones" Sg.s_ones ?a22 ?l22 ?c22 ?k22 ?R22
    (case a22 => k_is)
    (case l22 => k_is)
    (case c22 => k_is)
    (case k22 => k_is)
    intro h_ones
    refine' Sg.step_f KX G "lowest" Sg.s_lowest ?a23 ?l23 ?c23 ?k23 ?R23
    (case a23 => k_is)
    (case l23 => k_is)
    (case c23 => k_is)
    (case k23 => k_is)
    intro h_lowest
    refine' Sg.step_f KX G "product" Sg.s_product ?a24 ?l24 ?c24 ?k24 ?R24
    (case a24 => k_is)
    (case l24 => k_is)
    (case c24 => k_is)
    (case k24 => k_is)
    intro h_product
    refine' Sg.step_f KX G "crosses" Sg.s_crosses ?a25 ?l25 ?c25 ?k25 ?R25
    (case a25 => k_is)
    (case l25 => k_is)
    (case c25 => k_is)
    (case k25 => k_is)
    intro h_crosses
    refine' Sg.step_f KX G "signed_row" Sg.s_signed_row ?a26 ?l26 ?c26 ?k26 ?R26
    (case a26 => k_is)
    (case l26 => k_is)
    (case c26 => k_is)
    (case k26 => k_is)
    intro h_signed_row
    refine' Sg.step_f KX G "doing" Sg.s_doing ?a27 ?l27 ?c27 ?k27 ?R27
    (case a27 => k_is)
    (case l27 => k_is)
    (case c27 => k_is)
    (case k27 => k_is)
    intro h_doing
    refine' Sg.step_f KX G "carried" Sg.s_carried ?a28 ?l28 ?c28 ?k28 ?R28
    (case a28 => k_is)
    (case l28 => k_is)
    (case c28 => k_is)
    (case k28 => k_is)
    intro h_carried
    refine' Sg.step_f KX G "take" Sg.s_take ?a29 ?l29 ?c29 ?k29 ?R29
    (case a29 => k_is)
    (case l29 => k_is)
    (case c29 => k_is)
    (case k29 => k_is)
    intro h_take
    refine' Sg.step_f KX G "gather" Sg.s_gather ?a30 ?l30 ?c30 ?k30 ?R30
    (case a30 => k_is)
    (case l30 => k_is)
    (case c30 => k_is)
    (case k30 => k_is)
    intro h_gather
    refine' Sg.step_f KX G "clear_wire" Sg.s_clear_wire ?a31 ?l31 ?c31 ?k31 ?R31
    (case a31 => k_is)
    (case l31 => k_is)
    (case c31 => k_is)
    (case k31 => k_is)
    intro h_clear_wire
    refine' Sg.step_f KX G "fair" Sg.s_fair ?a32 ?l32 ?c32 ?k32 ?R32
    (case a32 => k_is)
    (case l32 => k_is)
    (case c32 => k_is)
    (case k32 => k_is)
    intro h_fair
    refine' Sg.step_f KX G "further" Sg.s_further ?a33 ?l33 ?c33 ?k33 ?R33
    (case a33 => k_is)
    (case l33 => k_is)
    (case c33 => k_is)
    (case k33 => k_is)
    intro h_further
    refine' Sg.step_f KX G "pulled_ask" Sg.s_pulled_ask ?a34 ?l34 ?c34 ?k34 ?R34
    (case a34 => k_is)
    (case l34 => k_is)
    (case c34 => k_is)
    (case k34 => k_is)
    intro h_pulled_ask
    refine' Sg.step_f KX G "joined_whens" Sg.s_joined_whens ?a35 ?l35 ?c35 ?k35 ?R35
    (case a35 => k_is)
    (case l35 => k_is)
    (case c35 => k_is)
    (case k35 => k_is)
    intro h_joined_whens
    refine' Sg.step_f KX G "pulled" Sg.s_pulled ?a36 ?l36 ?c36 ?k36 ?R36
    (case a36 => k_is)
    (case l36 => k_is)
    (case c36 => k_is)
    (case k36 => k_is)
    intro h_pulled
    refine' Sg.step_f KX G "plus" Sg.s_plus ?a37 ?l37 ?c37 ?k37 ?R37
    (case a37 => k_is)
    (case l37 => k_is)
    (case c37 => k_is)
    (case k37 => k_is)
    intro h_plus
    refine' Sg.step_f KX G "minus" Sg.s_minus ?a38 ?l38 ?c38 ?k38 ?R38
    (case a38 => k_is)
    (case l38 => k_is)
    (case c38 => k_is)
    (case k38 => k_is)
    intro h_minus
    refine' Sg.step_f KX G "spun" Sg.s_spun ?a39 ?l39 ?c39 ?k39 ?R39
    (case a39 => k_is)
    (case l39 => k_is)
    (case c39 => k_is)
    (case k39 => k_is)
    intro h_spun
    refine' Sg.step_f KX G "norm" Sg.s_norm ?a40 ?l40 ?c40 ?k40 ?R40
    (case a40 => k_is)
    (case l40 => k_is)
    (case c40 => k_is)
    (case k40 => k_is)
    intro h_norm
    refine' Sg.step_f KX G "start" Sg.s_start ?a41 ?l41 ?c41 ?k41 ?R41
    (case a41 => k_is)
    (case l41 => k_is)
    (case c41 => k_is)
    (case k41 => k_is)
    intro h_start
    refine' Sg.step_f KX G "after_mix" Sg.s_after_mix ?a42 ?l42 ?c42 ?k42 ?R42
    (case a42 => k_is)
    (case l42 => k_is)
    (case c42 => k_is)
    (case k42 => k_is)
    intro h_after_mix
    refine' Sg.step_f KX G "after_spin" Sg.s_after_spin ?a43 ?l43 ?c43 ?k43 ?R43
    (case a43 => k_is)
    (case l43 => k_is)
    (case c43 => k_is)
    (case k43 => k_is)
    intro h_after_spin
    refine' Sg.step_f KX G "source" Sg.s_source ?a44 ?l44 ?c44 ?k44 ?R44
    (case a44 => k_is)
    (case l44 => k_is)
    (case c44 => k_is)
    (case k44 => k_is)
    intro h_source
    refine' Sg.step_f KX G "changed" Sg.s_changed ?a45 ?l45 ?c45 ?k45 ?R45
    (case a45 => k_is)
    (case l45 => k_is)
    (case c45 => k_is)
    (case k45 => k_is)
    intro h_changed
    refine' Sg.step_f KX G "struck" Sg.s_struck ?a46 ?l46 ?c46 ?k46 ?R46
    (case a46 => k_is)
    (case l46 => k_is)
    (case c46 => k_is)
    (case k46 => k_is)
    intro h_struck
    refine' Sg.step_f KX G "parted" Sg.s_parted ?a47 ?l47 ?c47 ?k47 ?R47
    (case a47 => k_is)
    (case l47 => k_is)
    (case c47 => k_is)
    (case k47 => k_is)
    intro h_parted
    refine' Sg.step_f KX G "weights" Sg.s_weights ?a48 ?l48 ?c48 ?k48 ?R48
    (case a48 => k_is)
    (case l48 => k_is)
    (case c48 => k_is)
    (case k48 => k_is)
    intro h_weights
    refine' Sg.step_f KX G "_law_cell_at" Sg.s__law_cell_at ?a49 ?l49 ?c49 ?k49 ?R49
    (case a49 => k_is)
    (case l49 => k_is)
    (case c49 => k_is)
    (case k49 => k_is)
    intro h__law_cell_at
    refine' Sg.step_f KX G "_law_row" Sg.s__law_row ?a50 ?l50 ?c50 ?k50 ?R50
    (case a50 => k_is)
    (case l50 => k_is)
    (case c50 => k_is)
    (case k50 => k_is)
    intro h__law_row
    refine' Sg.step_f KX G "_law_deed" Sg.s__law_deed ?a51 ?l51 ?c51 ?k51 ?R51
    (case a51 => k_is)
    (case l51 => k_is)
    (case c51 => k_is)
    (case k51 => k_is)
    intro h__law_deed
    refine' Sg.step_f KX G "_law_word" Sg.s__law_word ?a52 ?l52 ?c52 ?k52 ?R52
    (case a52 => k_is)
    (case l52 => k_is)
    (case c52 => k_is)
    (case k52 => k_is)
    intro h__law_word
    refine' Sg.step_f KX G "_law_vector" Sg.s__law_vector ?a53 ?l53 ?c53 ?k53 ?R53
    (case a53 => k_is)
    (case l53 => k_is)
    (case c53 => k_is)
    (case k53 => k_is)
    intro h__law_vector
    refine' Sg.step_f KX G "_law_times" Sg.s__law_times ?a54 ?l54 ?c54 ?k54 ?R54
    (case a54 => k_is)
    (case l54 => k_is)
    (case c54 => k_is)
    (case k54 => k_is)
    intro h__law_times
    refine' Sg.step_f KX G "_law_alike" Sg.s__law_alike ?a55 ?l55 ?c55 ?k55 ?R55
    (case a55 => k_is)
    (case l55 => k_is)
    (case c55 => k_is)
    (case k55 => k_is)
    intro h__law_alike
    refine' Sg.step_f KX G "law" Sg.s_law ?a56 ?l56 ?c56 ?k56 ?R56
    (case a56 => k_is)
    (case l56 => k_is)
    (case c56 => k_is)
    (case k56 => k_is)
    intro h_law
    refine' Sg.step_m KX hG "sign_of" "Bench.sign_of" Sg.s_Bench_sign_of ?a57 ?i57 ?l57 ?c57 ?k57 ?R57
    (case a57 => k_is)
    (case i57 => k_is)
    (case l57 => k_is)
    (case c57 => k_is)
    (case k57 => k_is)
    intro m_sign_of
    refine' Sg.step_m KX hG "signed" "Bench.signed" Sg.s_Bench_signed ?a58 ?i58 ?l58 ?c58 ?k58 ?R58
    (case a58 => k_is)
    (case i58 => k_is)
    (case l58 => k_is)
    (case c58 => k_is)
    (case k58 => k_is)
    intro m_signed
    refine' Sg.step_m KX hG "vector" "Great.vector" Sg.s_Great_vector ?a59 ?i59 ?l59 ?c59 ?k59 ?R59
    (case a59 => k_is)
    (case i59 => k_is)
    (case l59 => k_is)
    (case c59 => k_is)
    (case k59 => k_is)
    intro m_vector
    refine' Sg.step_m KX hG "move" "Great.move" Sg.s_Great_move ?a60 ?i60 ?l60 ?c60 ?k60 ?R60
    (case a60 => k_is)
    (case i60 => k_is)
    (case l60 => k_is)
    (case c60 => k_is)
    (case k60 => k_is)
    intro m_move
    refine' Sg.step_m KX hG "strike" "Great.strike" Sg.s_Great_strike ?a61 ?i61 ?l61 ?c61 ?k61 ?R61
    (case a61 => k_is)
    (case i61 => k_is)
    (case l61 => k_is)
    (case c61 => k_is)
    (case k61 => k_is)
    intro m_strike
    refine' Sg.step_m KX hG "look" "Great.look" Sg.s_Great_look ?a62 ?i62 ?l62 ?c62 ?k62 ?R62
    (case a62 => k_is)
    (case i62 => k_is)
    (case l62 => k_is)
    (case c62 => k_is)
    (case k62 => k_is)
    intro m_look
    refine' Sg.step_d KX hG "do" "Bench.do" Sg.s_Bench_do (L2.V.int 0) ?a63 ?i63 ?l63 ?t63 ?o63 ?u63 ?c63 ?k63 ?R63
    (case a63 => k_is)
    (case i63 => k_is)
    (case l63 => k_is)
    (case t63 => k_is)
    (case o63 => exact rfl)
    (case u63 => first | exact ⟨_, rfl⟩ | exact rfl)
    (case c63 => k_is)
    (case k63 => k_is)
    intro d_do
    refine' Sg.step_d KX hG "ran" "Bench.ran" Sg.s_Bench_ran L2.V.non ?a64 ?i64 ?l64 ?t64 ?o64 ?u64 ?c64 ?k64 ?R64
    (case a64 => k_is)
    (case i64 => k_is)
    (case l64 => k_is)
    (case t64 => k_is)
    (case o64 => exact rfl)
    (case u64 => first | exact ⟨_, rfl⟩ | exact rfl)
    (case c64 => k_is)
    (case k64 => k_is)
    intro d_ran
    refine' Sg.step_d KX hG "__init__" "Great.__init__" Sg.s_Great___init__ L2.V.non ?a65 ?i65 ?l65 ?t65 ?o65 ?u65 ?c65 ?k65 ?R65
    (case a65 => k_is)
    (case i65 => k_is)
    (case l65 => k_is)
    (case t65 => k_is)
    (case o65 => exact rfl)
    (case u65 => first | exact ⟨_, rfl⟩ | exact rfl)
    (case c65 => k_is)
    (case k65 => k_is)
    intro d___init__
    refine' Sg.step_c (.type "type") KX hG "__init__" "Bench.__init__" Sg.s_Bench___init__ ?r66 ?g66 ?a66 ?l66 ?c66 ?k66 ?R66
    (case r66 => k_is)
    (case g66 => k_is)
    (case a66 => k_is)
    (case l66 => k_is)
    (case c66 => k_is)
    (case k66 => k_is)
    intro c_init
    exact Sg.all_mk KX G hmg ⟨b_len, b_range, b_list, b_tuple, b_sorted, b_isinstance, b_enumerate, b_zip, b_reversed, h_mv, h_mo, h_sp⟩ hG hMk h_is_move h_is_look h_bit_of h_wires_of h_undone h_moved_on_one h_moved_on_two h_moved h_ones h_lowest h_product h_crosses h_signed_row h_doing h_carried h_take h_gather h_clear_wire h_fair h_further h_pulled_ask h_joined_whens h_pulled h_plus h_minus h_spun h_norm h_start h_after_mix h_after_spin h_source h_changed h_struck h_parted h_weights h__law_cell_at h__law_row h__law_deed h__law_word h__law_vector h__law_times h__law_alike h_law m_sign_of m_signed m_vector m_move m_strike m_look d_do d_ran d___init__ c_init
