import PyProof.Rows.All
import Wide.All
import OpenK.AllK
import Wide.FinOn
import HandS.ForMost
import HandS.Evl
import HandS.Wide
import HandS.TupAny
import HandS.IsInst
import HandS.Property
import HandS.Defaults
import HandS.EndBits
import HandS.Style
import HandS.Conv
import HandS.GenList
import HandS.GenYield
import HandS.GenCall
import HandS.GenBody
import KE.GoesMore
import KE.KTupSum
import HandS.More
import PySem.Challenge.RW_lostplaces_k47_whole_rings_and_members_o
set_option Elab.async false
set_option linter.all false
set_option maxRecDepth 100000
section
open PySem PySem.W PyProof.Rows
set_option maxHeartbeats 0
open_top hd for PySem.Challenge.rw_lostplaces_k47_whole_rings_and_members_o
end
namespace K47
/-! mirrors -/
def dvL (n : Nat) : Nat → Nat → List Nat → List Nat → List Nat × List Nat
  | 0, _, lo, hi => (lo, hi)
  | f + 1, k, lo, hi => if k * k ≤ n then (if n % k = 0 then dvL n f (k + 1) (lo ++ [k]) (if k * k < n then hi ++ [n / k] else hi) else dvL n f (k + 1) lo hi) else (lo, hi)
def divs (n : Nat) : List Nat := (dvL n 20 1 [] []).1 ++ (dvL n 20 1 [] []).2.reverse
def ppIn (k : Nat) : Nat → Nat → Nat → Nat × Nat
  | 0, l, m => (l, m)
  | f + 1, l, m => if l % k = 0 then ppIn k f (l / k) (m + 1) else (l, m)
def ppFin (l : Nat) (r : List (Nat × Nat)) : List (Nat × Nat) := if 1 < l then r ++ [(l, 1)] else r
def ppOut : Nat → Nat → Nat → List (Nat × Nat) → List (Nat × Nat)
  | 0, l, _, r => ppFin l r
  | f + 1, l, k, r => if k * k ≤ l then ppOut f (ppIn k 8 l 0).1 (k + 1) (if 0 < (ppIn k 8 l 0).2 then r ++ [(k, (ppIn k 8 l 0).2)] else r) else ppFin l r
def pp (n : Nat) : List (Nat × Nat) := ppOut 20 n 2 []
def phiL : List (Nat × Nat) → Nat → Nat
  | [], l => l
  | r :: rs, l => phiL rs (l / r.1 * (r.1 - 1))
def phiM (n : Nat) : Nat := phiL (pp n) n
def muL : List (Nat × Nat) → Int → Int
  | [], s => s
  | r :: rs, s => if 1 < r.2 then 0 else muL rs (-s)
def muM (n : Nat) : Int := muL (pp n) 1
def ramM (n r : Nat) : Int := (phiM n : Int) * muM (n / Nat.gcd n r) / (phiM (n / Nat.gcd n r) : Int)
def chL (a : Nat) : Nat → Nat
  | 0 => 1
  | s + 1 => chL a s * (a - s) / (s + 1)
def chooseP (a b : Nat) : Nat := if a < b then 0 else chL a (min b (a - b))
def chooseL (a b : Nat) : Nat := if a < b then 0 else chL a b
def sizeF (n r : Nat) : List Nat → Int → Int
  | [], t => t
  | d :: ds, t => sizeF n r ds (if d % 2 = 1 then t + ramM d r * 2 ^ ((n + 1) / d) else t)
def sizeM (n r : Nat) : Int := sizeF n r (divs (n + 1)) 0 / (2 * ((n : Int) + 1))
def sboF (n r k : Nat) : List Nat → Int → Int
  | [], t => t
  | d :: ds, t => sboF n r k ds (if (k + k / d) % 2 = 1 then t - ramM d r * (chooseP ((n + 1) / d - 1) (k / d) : Int) else t + ramM d r * (chooseP ((n + 1) / d - 1) (k / d) : Int))
def sboM (n r k : Nat) : Int := sboF n r k (divs (n + 1)) 0 / ((n : Int) + 1)
def singF (l : Nat) : List Nat → Int → Int
  | [], t => t
  | d :: ds, t => singF l ds (if d % 2 = 1 then t + muM d * 2 ^ (l / d) else t)
def singM (l : Nat) : Int := singF l (divs l) 0 / (2 * (l : Int))
/-! rings, members -/
def lexM : List Int → List Int → Bool
  | _, [] => false
  | [], _ :: _ => true
  | x :: xs, y :: ys => if x = y then lexM xs ys else decide (x < y)
def rotM (w : List Int) (k : Nat) : List Int := w.drop k ++ w.take k
def rots (w : List Int) : List (List Int) := (List.range w.length).map (rotM w)
def repM (w : List Int) : Nat := ((rots w).filter fun o => decide (o = w)).length
def isLeast (w : List Int) : Bool := (List.range (w.length - 1)).all fun i => !lexM (rotM w (i + 1)) w
def wordOf (l m : Nat) : List Int := (List.range l).map fun k => ((m / 2 ^ (l - 1 - k) % 2 : Nat) : Int)
def goodR (w : List Int) : Bool := decide (w.sum % 2 = 1) && isLeast w
def oddL (l m : Nat) : List (List Int) := ((List.range m).map (wordOf l)).filter goodR
def oddR (l : Nat) : List (List Int) := oddL l (2 ^ l)
def ringsF (n r : Nat) : List (List Int) := (oddR (n + 1)).filter fun w => decide ((r : Int) % (repM w : Int) = 0)
def everyW : Nat → List (List Int)
  | 0 => [[]]
  | n + 1 => (everyW n).flatMap fun w => [w ++ [0], w ++ [1]]
def psL : Nat → List Int → Int → Int
  | _, [], t => t
  | i, x :: xs, t => psL (i + 1) xs (t + ((i : Int) + 1) * x)
def placeS (w : List Int) : Int := psL 0 w 0
end K47

set_option maxHeartbeats 0
namespace K47
/-! ### fast forms and tables -/
def allB (n : Nat) (f : Nat → Bool) : Bool := Nat.rec (motive := fun _ => Bool) true (fun i ih => cond (f i) ih false) n
theorem allB_succ (n : Nat) (f : Nat → Bool) : allB (n + 1) f = (f n && allB n f) := by
  show cond (f n) (allB n f) false = _
  cases f n <;> rfl
theorem allB_at : ∀ {n : Nat} {f : Nat → Bool}, allB n f = true → ∀ i, i < n → f i = true
  | 0, _, _, i, h => absurd h (Nat.not_lt_zero i)
  | n + 1, f, h, i, hi => by
    rw [allB_succ, Bool.and_eq_true] at h
    rcases Nat.lt_succ_iff_lt_or_eq.mp hi with h1 | h1
    · exact allB_at h.2 i h1
    · exact h1 ▸ h.1
def frc (x : Nat) (f : Nat → Bool) : Bool := Nat.rec (motive := fun _ => Bool) (f 0) (fun m _ => f (Nat.succ m)) x
theorem frc_eq (x : Nat) (f : Nat → Bool) : frc x f = f x := by cases x <;> rfl
def PH : Nat := 1506065401039237660867954542081908042607816255625266721037954644550503944823228041890647855439750993937920391307290458667513551184272437119668302473246583673698373351178595425839684265925375063924639551713596279039248247616349369421148778340209032855138597563913721916754226711534981410371099154086428371701881597589189166894562251200255915367489010256414146111014414092937408996430195256646989740208442003624079926761034716644435333722817705627638861633786021458521058399594104007753984
def MU : Nat := 23413027552195226550585044711742893007799007007261864736728424838042574143478142942911777897451611151508255463086756274440
def phT (d : Nat) : Nat := PH / 2 ^ (8 * d) % 256
def muT (d : Nat) : Int := ((MU / 2 ^ (2 * d) % 4 : Nat) : Int) - 1
theorem phT_all : allB 202 (fun d => Nat.beq d 0 || Nat.beq (phiM d) (phT d)) = true := by decide +kernel
theorem muT_all : allB 202 (fun d => Nat.beq d 0 || decide (muM d = muT d)) = true := by decide +kernel
def ramT (d g : Nat) : Int := (phT d : Int) * muT (d / Nat.gcd d g) / (phT (d / Nat.gcd d g) : Int)
theorem divs_all : allB 202 (fun n => (divs n).all fun d => Nat.ble 1 d && Nat.ble d 201 && Nat.beq (n % d) 0) = true := by decide +kernel
def sizeFT (n r : Nat) : List Nat → Int → Int
  | [], t => t
  | d :: ds, t => sizeFT n r ds (if d % 2 = 1 then t + ramT d r * 2 ^ ((n + 1) / d) else t)
def sizeT (n r : Nat) : Int := sizeFT n r (divs (n + 1)) 0 / (2 * ((n : Int) + 1))
def rot (b N p x : Nat) : Nat := Nat.add (Nat.div x (Nat.pow 2 (Nat.mul b (Nat.sub N p)))) (Nat.mul (Nat.pow 2 (Nat.mul b p)) (Nat.mod x (Nat.pow 2 (Nat.mul b (Nat.sub N p)))))
/-- the digit r -/
def dig (b x r : Nat) : Nat := Nat.mod (Nat.div x (Nat.pow 2 (Nat.mul b r))) (Nat.pow 2 b)
/-- the packed counts, forced, then f -/
def itX (N : Nat) : Nat → Nat → Nat → (Nat → Bool) → Bool
  | 0, _, x, f => f x
  | k + 1, p, x, f => frc (Nat.add x (rot 208 N p x)) fun y => itX N k (Nat.succ p) y f
def ofI (i : Int) (f : Nat → Bool) : Bool := match i with
  | .ofNat s => frc s f
  | _ => false
/-- a table of values at the divisors, forced -/
def mkT (h : Nat → Int) : List Nat → List (Nat × Nat) → (List (Nat × Nat) → Bool) → Bool
  | [], acc, f => f acc
  | g :: gs, acc, f => frc g fun g => ofI (h g) fun s => mkT h gs ((g, s) :: acc) f
def lkT (g : Nat) (f : Nat → Bool) : List (Nat × Nat) → Bool
  | [] => false
  | e :: es => cond (Nat.beq e.1 g) (f e.2) (lkT g f es)
def chk2 (n : Nat) : Bool := itX (Nat.succ n) n 1 1 fun x => mkT (sizeT n) (divs (Nat.succ n)) [] fun T => allB (Nat.succ n) fun r => frc (dig 208 x r) fun c => frc (Nat.gcd (Nat.succ n) r) fun g => lkT g (Nat.beq c) T
theorem chk2_all : allB 201 chk2 = true := by decide +kernel
end K47

set_option maxHeartbeats 0
namespace K47
def chB (a b : Nat) : Nat := (2 ^ 64 + 1) ^ a / 2 ^ (64 * b) % 2 ^ 64
theorem chB_all : allB 62 (fun a => allB 62 fun b => Nat.beq (chooseP a b) (chB a b)) = true := by decide +kernel
def sboFT (ch : Nat → Nat → Nat) (n r k : Nat) : List Nat → Int → Int
  | [], t => t
  | d :: ds, t => sboFT ch n r k ds (if (k + k / d) % 2 = 1 then t - ramT d r * (ch ((n + 1) / d - 1) (k / d) : Int) else t + ramT d r * (ch ((n + 1) / d - 1) (k / d) : Int))
def sboT (ch : Nat → Nat → Nat) (n r k : Nat) : Int := sboFT ch n r k (divs (n + 1)) 0 / ((n : Int) + 1)
/-- rows by ones, packed -/
def itR (N : Nat) : Nat → List Nat → Nat → (List Nat → Bool) → Bool
  | _, [], _, f => f []
  | p, y :: ys, prev, f => frc (Nat.add y (rot 32 N p prev)) fun z => itR N p ys y fun zs => f (z :: zs)
def itY (N : Nat) : Nat → Nat → List Nat → (List Nat → Bool) → Bool
  | 0, _, ys, f => f ys
  | m + 1, p, ys, f => itR N p ys 0 fun zs => itY N m (Nat.succ p) zs f
def other (n h r : Nat) : Nat := Nat.mod (Nat.sub (Nat.add h (Nat.succ n)) r) (Nat.succ n)
def chkRow (n h : Nat) : Nat → List Nat → Bool
  | _, [] => true
  | k, y :: ys => Nat.blt n k || (mkT (fun g => sboT chooseP n g k) (divs (Nat.succ n)) [] fun T => mkT (fun g => sboT chooseP n g (Nat.sub n k)) (divs (Nat.succ n)) [] fun T' => allB (Nat.succ n) fun r => frc (dig 32 y r) fun c => cond (frc (Nat.gcd (Nat.succ n) r) fun g => lkT g (Nat.beq c) T) (frc (Nat.gcd (Nat.succ n) (other n h r)) fun g => lkT g (Nat.beq c) T') false) && chkRow n h (Nat.succ k) ys
def chk3 (K n : Nat) : Bool := itY (Nat.succ n) n 1 (1 :: List.replicate K 0) fun ys => frc (Nat.mod (Nat.div (Nat.mul n (Nat.succ n)) 2) (Nat.succ n)) fun h => chkRow n h 0 ys
theorem chk3a : allB 25 (fun n => chk3 n n) = true := by decide +kernel
end K47

set_option maxHeartbeats 0
namespace K47
def from_ (a : Nat) (n : Nat) : Bool := chk3 2 (Nat.add a n)
theorem chk3b : allB 120 (from_ 0) = true := by decide +kernel
theorem chk3c : allB 45 (from_ 120) = true := by decide +kernel
theorem chk3d : allB 36 (from_ 165) = true := by decide +kernel
/-- sums over the ones, and over the rests -/
def sumI (f : Nat → Int) : Nat → Int
  | 0 => 0
  | n + 1 => sumI f n + f n
def cntG (N g n : Nat) : Nat := Nat.rec (motive := fun _ => Nat) 0 (fun r ih => cond (Nat.beq (Nat.gcd N r) g) (Nat.succ ih) ih) n
def chk4 (n : Nat) : Bool := (divs (Nat.succ n)).all fun g => decide (sumI (fun k => sboT chB n g k) (Nat.succ n) = sizeT n g)
theorem chk4_all : allB 61 chk4 = true := by decide +kernel
end K47

set_option maxHeartbeats 0
namespace K47
def ch5 (N n k : Nat) : List Nat → Int → Int
  | [], t => t
  | g :: gs, t => ch5 N n k gs (t + (cntG N g N : Int) * sboT chB n g k)
def chk5 (n : Nat) : Bool := allB (Nat.succ n) fun k => decide (ch5 (Nat.succ n) n k (divs (Nat.succ n)) 0 = (chB n k : Int))
theorem chk5_all : allB 61 chk5 = true := by decide +kernel
end K47

set_option maxHeartbeats 0
namespace K47
def memM (n r : Nat) : Nat := ((everyW n).filter fun w => decide (placeS w % ((n : Int) + 1) = (r : Int))).length
def sgF (n r : Nat) : List Nat → Int → Int
  | [], t => t
  | d :: ds, t => sgF n r ds (if d % 2 = 1 ∧ r % d = 0 then t + singM ((n + 1) / d) else t)
def sgM (n r : Nat) : Int := sgF n r (divs (n + 1)) 0
def chk6 (n : Nat) : Bool := allB (Nat.succ n) fun r => ofI (sizeM n r) fun s => Nat.beq (memM n r) s && Nat.beq (ringsF n r).length s && decide (sgM n r = (s : Int))
theorem chk6_all : allB 10 chk6 = true := by decide +kernel
theorem chL_all : allB 61 (fun a => allB (Nat.succ a) fun b => Nat.beq (chooseL a b) (chB a b)) = true := by decide +kernel
end K47

set_option maxHeartbeats 4000000
namespace K47
/-! ### packed rows -/
def pkF (b : Nat) (f : Nat → Nat) : Nat → Nat
  | 0 => 0
  | m + 1 => pkF b f m + f m * 2 ^ (b * m)
theorem pkF_lt {b : Nat} {f : Nat → Nat} : ∀ {m : Nat}, (∀ k, k < m → f k < 2 ^ b) → pkF b f m < 2 ^ (b * m)
  | 0, _ => by simp [pkF]
  | m + 1, h => by
    have h1 := pkF_lt (m := m) fun k hk => h k (by omega)
    have h2 := h m (by omega)
    have h3 : (f m + 1) * 2 ^ (b * m) ≤ 2 ^ b * 2 ^ (b * m) := Nat.mul_le_mul_right _ h2
    have h4 : 2 ^ (b * (m + 1)) = 2 ^ b * 2 ^ (b * m) := by rw [Nat.mul_succ, Nat.pow_add, Nat.mul_comm]
    rw [Nat.add_mul, Nat.one_mul] at h3
    rw [h4]
    show pkF b f m + f m * 2 ^ (b * m) < _
    omega
theorem pkF_add {b : Nat} {f g : Nat → Nat} : ∀ {m : Nat}, pkF b (fun k => f k + g k) m = pkF b f m + pkF b g m
  | 0 => rfl
  | m + 1 => by
    show pkF b (fun k => f k + g k) m + (f m + g m) * _ = (pkF b f m + f m * _) + (pkF b g m + g m * _)
    rw [pkF_add, Nat.add_mul]
    omega
theorem pkF_congr {b : Nat} {f g : Nat → Nat} : ∀ {m : Nat}, (∀ k, k < m → f k = g k) → pkF b f m = pkF b g m
  | 0, _ => rfl
  | m + 1, h => by
    show pkF b f m + f m * _ = pkF b g m + g m * _
    rw [pkF_congr fun k hk => h k (by omega), h m (by omega)]
theorem pkF_app {b : Nat} {f : Nat → Nat} {m : Nat} : ∀ {p : Nat}, pkF b f (m + p) = pkF b f m + 2 ^ (b * m) * pkF b (fun k => f (m + k)) p
  | 0 => by simp [pkF]
  | p + 1 => by
    show pkF b f (m + p) + f (m + p) * 2 ^ (b * (m + p)) = _ + 2 ^ (b * m) * (pkF b (fun k => f (m + k)) p + f (m + p) * 2 ^ (b * p))
    rw [pkF_app, Nat.mul_add b, Nat.pow_add, Nat.mul_add]
    have : f (m + p) * (2 ^ (b * m) * 2 ^ (b * p)) = 2 ^ (b * m) * (f (m + p) * 2 ^ (b * p)) := by ac_rfl
    omega
theorem pkF_zero {b : Nat} : ∀ {m : Nat}, pkF b (fun _ => 0) m = 0
  | 0 => rfl
  | m + 1 => by show pkF b (fun _ => 0) m + 0 * _ = 0; rw [pkF_zero, Nat.zero_mul]
theorem dig_pk {b : Nat} {f : Nat → Nat} {N r : Nat} (h : ∀ k, k < N → f k < 2 ^ b) (hr : r < N) : dig b (pkF b f N) r = f r := by
  obtain ⟨q, rfl⟩ : ∃ q, N = r + (1 + q) := ⟨N - r - 1, by omega⟩
  have h1 := pkF_lt (b := b) (f := f) (m := r) fun k hk => h k (by omega)
  show pkF b f (r + (1 + q)) / 2 ^ (b * r) % 2 ^ b = f r
  rw [pkF_app, Nat.add_mul_div_left _ _ (Nat.two_pow_pos _), Nat.div_eq_of_lt h1, Nat.zero_add, pkF_app]
  have e : pkF b (fun k => f (r + k)) 1 = f r := by show 0 + f (r + 0) * 2 ^ (b * 0) = f r; simp
  rw [e, Nat.mul_one, Nat.add_mul_mod_self_left]
  exact Nat.mod_eq_of_lt (h r (by omega))
theorem rot_pk {b : Nat} {f : Nat → Nat} {N p : Nat} (h : ∀ k, k < N → f k < 2 ^ b) (hp : p ≤ N) : rot b N p (pkF b f N) = pkF b (fun k => f ((k + N - p) % N)) N := by
  obtain ⟨m, rfl⟩ : ∃ m, N = m + p := ⟨N - p, by omega⟩
  have h1 := pkF_lt (b := b) (f := f) (m := m) fun k hk => h k (by omega)
  show pkF b f (m + p) / 2 ^ (b * (m + p - p)) + 2 ^ (b * p) * (pkF b f (m + p) % 2 ^ (b * (m + p - p))) = _
  rw [Nat.add_sub_cancel, pkF_app, Nat.add_mul_div_left _ _ (Nat.two_pow_pos _), Nat.div_eq_of_lt h1, Nat.zero_add, Nat.add_mul_mod_self_left, Nat.mod_eq_of_lt h1]
  rw [Nat.add_comm m p, pkF_app]
  congr 1
  · refine pkF_congr fun k hk => ?_
    have e : k + (p + m) - p = m + k := by omega
    rw [e, Nat.mod_eq_of_lt (by omega)]
  · congr 1
    refine pkF_congr fun k hk => ?_
    have e : p + k + (p + m) - p = k + (p + m) := by omega
    rw [e, Nat.add_mod_right, Nat.mod_eq_of_lt (by omega)]
/-! ### the counts, as a function -/
def cF (N : Nat) : Nat → Nat → Nat
  | 0, r => if r = 0 then 1 else 0
  | p + 1, r => cF N p r + cF N p ((r + N - (p + 1)) % N)
theorem cF_le {N : Nat} : ∀ {p r : Nat}, cF N p r ≤ 2 ^ p
  | 0, r => by
    show (if r = 0 then 1 else 0) ≤ 1
    split <;> omega
  | p + 1, r => by
    have h1 := cF_le (N := N) (p := p) (r := r)
    have h2 := cF_le (N := N) (p := p) (r := (r + N - (p + 1)) % N)
    show cF N p r + cF N p ((r + N - (p + 1)) % N) ≤ 2 ^ (p + 1)
    rw [Nat.pow_succ]
    omega
theorem cF_lt {N p r : Nat} (h : p ≤ 200) : cF N p r < 2 ^ 208 := Nat.lt_of_le_of_lt cF_le (Nat.pow_lt_pow_right (by decide) (by omega))
def oF (N : Nat) : Nat → Nat → Nat → Nat
  | 0, 0, r => if r = 0 then 1 else 0
  | 0, _ + 1, _ => 0
  | p + 1, 0, r => oF N p 0 r
  | p + 1, k + 1, r => oF N p (k + 1) r + oF N p k ((r + N - (p + 1)) % N)
theorem oF_le {N : Nat} : ∀ {p k r : Nat}, oF N p k r ≤ 2 ^ p
  | 0, 0, r => by
    show (if r = 0 then 1 else 0) ≤ 1
    split <;> omega
  | 0, k + 1, r => Nat.zero_le _
  | p + 1, 0, r => Nat.le_trans (oF_le (N := N) (p := p) (k := 0) (r := r)) (Nat.pow_le_pow_right (by decide) (Nat.le_succ p))
  | p + 1, k + 1, r => by
    have h1 := oF_le (N := N) (p := p) (k := k + 1) (r := r)
    have h2 := oF_le (N := N) (p := p) (k := k) (r := (r + N - (p + 1)) % N)
    show oF N p (k + 1) r + oF N p k ((r + N - (p + 1)) % N) ≤ 2 ^ (p + 1)
    rw [Nat.pow_succ]
    omega
theorem oF_leP {N : Nat} : ∀ {p k r : Nat}, oF N p k r ≤ (p + 1) ^ k
  | 0, 0, r => by
    show (if r = 0 then 1 else 0) ≤ 1
    split <;> omega
  | 0, k + 1, r => Nat.zero_le _
  | p + 1, 0, r => oF_leP (N := N) (p := p) (k := 0) (r := r)
  | p + 1, k + 1, r => by
    have h1 := oF_leP (N := N) (p := p) (k := k + 1) (r := r)
    have h2 := oF_leP (N := N) (p := p) (k := k) (r := (r + N - (p + 1)) % N)
    have h3 : (p + 1) ^ k ≤ (p + 1 + 1) ^ k := Nat.pow_le_pow_left (Nat.le_succ _) k
    show oF N p (k + 1) r + oF N p k ((r + N - (p + 1)) % N) ≤ (p + 1 + 1) ^ (k + 1)
    rw [Nat.pow_succ] at h1 ⊢
    have h4 : (p + 1) ^ k * (p + 1) + (p + 1) ^ k ≤ (p + 1 + 1) ^ k * (p + 1 + 1) := by
      rw [← Nat.mul_succ]
      exact Nat.mul_le_mul_right _ h3
    omega
def SmallO (N n K : Nat) : Prop := ∀ p k r, p ≤ n → k ≤ K → oF N p k r < 2 ^ 32
theorem smallA {N n K : Nat} (h : n < 25) : SmallO N n K := fun p k r hp _ => Nat.lt_of_le_of_lt oF_le (Nat.pow_lt_pow_right (by decide) (by omega))
theorem smallB {N n : Nat} (h : n ≤ 200) : SmallO N n 2 := fun p k r hp hk => Nat.lt_of_le_of_lt oF_leP (Nat.lt_of_le_of_lt (Nat.le_trans (Nat.pow_le_pow_right (by omega) hk) (Nat.pow_le_pow_left (show p + 1 ≤ 201 by omega) 2)) (by decide))
theorem pk_c0 {b : Nat} : ∀ {m : Nat}, pkF b (fun r => if r = 0 then 1 else 0) (m + 1) = 1
  | 0 => by show 0 + (if 0 = 0 then 1 else 0) * 2 ^ (b * 0) = 1; simp
  | m + 1 => by
    show pkF b (fun r => if r = 0 then 1 else 0) (m + 1) + (if m + 1 = 0 then 1 else 0) * _ = 1
    rw [pk_c0, if_neg (by omega), Nat.zero_mul]
theorem itX_eq {N : Nat} {f : Nat → Bool} : ∀ (k j : Nat), j + k ≤ 200 → j + k < N → itX N k (j + 1) (pkF 208 (cF N j) N) f = f (pkF 208 (cF N (j + k)) N)
  | 0, j, _, _ => rfl
  | k + 1, j, h, h2 => by
    show frc (pkF 208 (cF N j) N + rot 208 N (j + 1) (pkF 208 (cF N j) N)) (fun y => itX N k (j + 1 + 1) y f) = _
    rw [frc_eq, rot_pk (p := j + 1) (fun r _ => cF_lt (p := j) (by omega)) (by omega), ← pkF_add]
    have e := itX_eq (N := N) (f := f) k (j + 1) (by omega) (by omega)
    rw [show j + (k + 1) = j + 1 + k by omega]
    exact e
theorem ofI_at {i : Int} {f : Nat → Bool} (h : ofI i f = true) : ∃ s : Nat, i = (s : Int) ∧ f s = true := by
  cases i with
  | ofNat s => exact ⟨s, rfl, by rw [← frc_eq s f]; exact h⟩
  | negSucc s => cases h
theorem mkT_at {h : Nat → Int} {f : List (Nat × Nat) → Bool} : ∀ {gs : List Nat} {acc : List (Nat × Nat)}, mkT h gs acc f = true → (∀ e ∈ acc, h e.1 = (e.2 : Int)) → ∃ T, (∀ e ∈ T, h e.1 = (e.2 : Int)) ∧ f T = true
  | [], acc, e, p => ⟨acc, p, e⟩
  | g :: gs, acc, e, p => by
    have e' : frc g (fun g => ofI (h g) fun s => mkT h gs ((g, s) :: acc) f) = true := e
    rw [frc_eq] at e'
    obtain ⟨s, h1, h2⟩ := ofI_at e'
    exact mkT_at h2 fun x hx => by
      rcases List.mem_cons.mp hx with hx | hx
      · rw [hx]; exact h1
      · exact p x hx
theorem lkT_at {g : Nat} {f : Nat → Bool} : ∀ {T : List (Nat × Nat)}, lkT g f T = true → ∃ s, (g, s) ∈ T ∧ f s = true
  | [], h => by cases h
  | e :: es, h => by
    have h' : cond (Nat.beq e.1 g) (f e.2) (lkT g f es) = true := h
    cases hb : Nat.beq e.1 g with
    | true =>
      rw [hb] at h'
      have := Nat.eq_of_beq_eq_true hb
      exact ⟨e.2, by rw [← this]; exact List.mem_cons_self, h'⟩
    | false =>
      rw [hb] at h'
      obtain ⟨s, a, b⟩ := lkT_at h'
      exact ⟨s, List.mem_cons_of_mem _ a, b⟩
/-! ### divisors, ram -/
theorem divs_at {n d : Nat} (hn : n ≤ 201) (h : d ∈ divs n) : 1 ≤ d ∧ d ≤ 201 ∧ d ∣ n := by
  have h1 := List.all_eq_true.mp (allB_at divs_all n (by omega)) d h
  simp only [Bool.and_eq_true] at h1
  exact ⟨Nat.le_of_ble_eq_true h1.1.1, Nat.le_of_ble_eq_true h1.1.2, Nat.dvd_of_mod_eq_zero (Nat.eq_of_beq_eq_true h1.2)⟩
theorem phT_at {d : Nat} (h : 1 ≤ d) (h2 : d ≤ 201) : phiM d = phT d := by
  have h1 := allB_at phT_all d (by omega)
  rw [Bool.or_eq_true] at h1
  rcases h1 with h1 | h1
  · have := Nat.eq_of_beq_eq_true h1
    omega
  · exact Nat.eq_of_beq_eq_true h1
theorem muT_at {d : Nat} (h : 1 ≤ d) (h2 : d ≤ 201) : muM d = muT d := by
  have h1 := allB_at muT_all d (by omega)
  rw [Bool.or_eq_true] at h1
  rcases h1 with h1 | h1
  · have := Nat.eq_of_beq_eq_true h1
    omega
  · exact of_decide_eq_true h1
theorem ram_gcd {N d r : Nat} (h : 1 ≤ d) (h2 : d ≤ 201) (hd : d ∣ N) : ramM d r = ramT d (Nat.gcd N r) := by
  have e : Nat.gcd d r = Nat.gcd d (Nat.gcd N r) := by rw [← Nat.gcd_assoc, Nat.gcd_eq_left hd]
  have hq : 1 ≤ d / Nat.gcd d r := Nat.div_pos (Nat.le_of_dvd h (Nat.gcd_dvd_left d r)) (Nat.gcd_pos_of_pos_left r h)
  have hq2 : d / Nat.gcd d r ≤ 201 := Nat.le_trans (Nat.div_le_self _ _) h2
  unfold ramM ramT
  rw [phT_at h h2, phT_at hq hq2, muT_at hq hq2, e]
theorem sizeF_gcd {n r : Nat} : ∀ {ds : List Nat} {t : Int}, (∀ d ∈ ds, 1 ≤ d ∧ d ≤ 201 ∧ d ∣ n + 1) → sizeF n r ds t = sizeFT n (Nat.gcd (n + 1) r) ds t
  | [], _, _ => rfl
  | d :: ds, t, h => by
    have hd := h d List.mem_cons_self
    show sizeF n r ds _ = sizeFT n _ ds _
    rw [sizeF_gcd fun x hx => h x (List.mem_cons_of_mem _ hx), ram_gcd hd.1 hd.2.1 hd.2.2]
theorem size_gcd {n r : Nat} (hn : n ≤ 200) : sizeM n r = sizeT n (Nat.gcd (n + 1) r) := by
  unfold sizeM sizeT
  rw [sizeF_gcd fun d hd => divs_at (by omega) hd]
theorem sboF_gcd {ch : Nat → Nat → Nat} {n r k : Nat} (hc : ∀ d, 1 ≤ d → chooseP ((n + 1) / d - 1) (k / d) = ch ((n + 1) / d - 1) (k / d)) : ∀ {ds : List Nat} {t : Int}, (∀ d ∈ ds, 1 ≤ d ∧ d ≤ 201 ∧ d ∣ n + 1) → sboF n r k ds t = sboFT ch n (Nat.gcd (n + 1) r) k ds t
  | [], _, _ => rfl
  | d :: ds, t, h => by
    have hd := h d List.mem_cons_self
    show sboF n r k ds _ = sboFT ch n _ k ds _
    rw [sboF_gcd hc fun x hx => h x (List.mem_cons_of_mem _ hx), ram_gcd hd.1 hd.2.1 hd.2.2, hc d hd.1]
theorem sbo_gcd {ch : Nat → Nat → Nat} {n r k : Nat} (hn : n ≤ 200) (hc : ∀ d, 1 ≤ d → chooseP ((n + 1) / d - 1) (k / d) = ch ((n + 1) / d - 1) (k / d)) : sboM n r k = sboT ch n (Nat.gcd (n + 1) r) k := by
  unfold sboM sboT
  rw [sboF_gcd hc fun d hd => divs_at (by omega) hd]
theorem sbo_gcdP {n r k : Nat} (hn : n ≤ 200) : sboM n r k = sboT chooseP n (Nat.gcd (n + 1) r) k := sbo_gcd hn fun _ _ => rfl
theorem sbo_gcdB {n r k : Nat} (hn : n ≤ 60) (hk : k ≤ 60) : sboM n r k = sboT chB n (Nat.gcd (n + 1) r) k := sbo_gcd (by omega) fun d hd => by
  have h1 : (n + 1) / d ≤ n + 1 := Nat.div_le_self _ _
  have h2 : k / d ≤ k := Nat.div_le_self _ _
  exact Nat.eq_of_beq_eq_true (allB_at (allB_at chB_all ((n + 1) / d - 1) (by omega)) (k / d) (by omega))
/-! ### L1 -/
theorem cF_size {n r : Nat} (hn : n ≤ 200) (hr : r ≤ n) : (cF (n + 1) n r : Int) = sizeM n r := by
  have h1 : chk2 n = true := allB_at chk2_all n (by omega)
  unfold chk2 at h1
  have e := itX_eq (N := n + 1) (f := fun x => mkT (sizeT n) (divs (Nat.succ n)) [] fun T => allB (Nat.succ n) fun r => frc (dig 208 x r) fun c => frc (Nat.gcd (Nat.succ n) r) fun g => lkT g (Nat.beq c) T) n 0 (by omega) (by omega)
  have e0 : pkF 208 (cF (n + 1) 0) (n + 1) = 1 := pk_c0
  rw [e0, Nat.zero_add] at e
  rw [Nat.zero_add] at e
  have h2 := e.symm.trans h1
  obtain ⟨T, hT, h3⟩ := mkT_at h2 (fun _ h => absurd h List.not_mem_nil)
  have h4 := allB_at h3 r (by omega)
  rw [frc_eq, frc_eq] at h4
  obtain ⟨s, h5, h6⟩ := lkT_at h4
  have h7 := Nat.eq_of_beq_eq_true h6
  rw [dig_pk (fun k _ => cF_lt hn) (by omega)] at h7
  rw [size_gcd hn, h7]
  exact (hT _ h5).symm
end K47

set_option maxHeartbeats 4000000
namespace K47
/-! ### L2: by ones -/
def rw' (N j : Nat) : Nat → Nat → List Nat
  | _, 0 => []
  | k, m + 1 => pkF 32 (oF N j k) N :: rw' N j (k + 1) m
def prv (N j : Nat) : Nat → Nat
  | 0 => 0
  | k + 1 => pkF 32 (oF N j k) N
theorem itR_eq {N n K j : Nat} (hs : SmallO N n K) (hj : j + 1 ≤ n) (hN : n < N) {f : List Nat → Bool} : ∀ (m k : Nat), k + m ≤ K + 1 → ∀ {f : List Nat → Bool}, itR N (j + 1) (rw' N j k m) (prv N j k) f = f (rw' N (j + 1) k m)
  | 0, k, _, f => rfl
  | m + 1, k, h, f => by
    show frc (pkF 32 (oF N j k) N + rot 32 N (j + 1) (prv N j k)) (fun z => itR N (j + 1) (rw' N j (k + 1) m) (pkF 32 (oF N j k) N) fun zs => f (z :: zs)) = _
    rw [frc_eq]
    have e : pkF 32 (oF N j k) N + rot 32 N (j + 1) (prv N j k) = pkF 32 (oF N (j + 1) k) N := by
      cases k with
      | zero =>
        have e0 : rot 32 N (j + 1) 0 = 0 := by
          show 0 / _ + _ * (0 % _) = 0
          simp
        show _ + rot 32 N (j + 1) 0 = _
        rw [e0]
        rfl
      | succ k =>
        show _ + rot 32 N (j + 1) (pkF 32 (oF N j k) N) = _
        rw [rot_pk (p := j + 1) (fun r _ => hs j k r (by omega) (by omega)) (by omega), ← pkF_add]
        rfl
    rw [e]
    exact itR_eq hs hj hN (f := f) m (k + 1) (by omega)
theorem itY_eq {N n K : Nat} (hs : SmallO N n K) (hN : n < N) {f : List Nat → Bool} : ∀ (m j : Nat), j + m ≤ n → itY N m (j + 1) (rw' N j 0 (K + 1)) f = f (rw' N (j + m) 0 (K + 1))
  | 0, j, _ => rfl
  | m + 1, j, h => by
    show itR N (j + 1) (rw' N j 0 (K + 1)) (prv N j 0) (fun zs => itY N m (j + 1 + 1) zs f) = _
    rw [itR_eq hs (by omega) hN (f := f) (K + 1) 0 (by omega), show j + (m + 1) = j + 1 + m by omega]
    exact itY_eq hs hN m (j + 1) (by omega)
theorem rw0 {n : Nat} : ∀ (m k : Nat), rw' (n + 1) 0 (k + 1) m = List.replicate m 0
  | 0, _ => rfl
  | m + 1, k => by
    show pkF 32 (fun _ => 0) (n + 1) :: rw' (n + 1) 0 (k + 1 + 1) m = _
    rw [pkF_zero, rw0]
    rfl
theorem rw00 {n K : Nat} : rw' (n + 1) 0 0 (K + 1) = 1 :: List.replicate K 0 := by
  show pkF 32 (oF (n + 1) 0 0) (n + 1) :: rw' (n + 1) 0 (0 + 1) K = _
  rw [rw0]
  exact congrArg (fun x => x :: List.replicate K 0) (pk_c0 (b := 32) (m := n))
theorem chkRow_at {n h : Nat} : ∀ (m k : Nat), chkRow n h k (rw' (n + 1) n k m) = true → ∀ i, i < m → k + i ≤ n → ∀ r, r ≤ n → SmallO (n + 1) n (k + i) →
    sboT chooseP n (Nat.gcd (n + 1) r) (k + i) = (oF (n + 1) n (k + i) r : Int) ∧ sboT chooseP n (Nat.gcd (n + 1) (other n h r)) (n - (k + i)) = (oF (n + 1) n (k + i) r : Int)
  | 0, _, _, i, hi, _, _, _, _ => absurd hi (Nat.not_lt_zero i)
  | m + 1, k, e, i, hi, hk, r, hr, hs => by
    have e1 : (Nat.blt n k || (mkT (fun g => sboT chooseP n g k) (divs (Nat.succ n)) [] fun T => mkT (fun g => sboT chooseP n g (Nat.sub n k)) (divs (Nat.succ n)) [] fun T' => allB (Nat.succ n) fun r => frc (dig 32 (pkF 32 (oF (n + 1) n k) (n + 1)) r) fun c => cond (frc (Nat.gcd (Nat.succ n) r) fun g => lkT g (Nat.beq c) T) (frc (Nat.gcd (Nat.succ n) (other n h r)) fun g => lkT g (Nat.beq c) T') false) && chkRow n h (Nat.succ k) (rw' (n + 1) n (k + 1) m)) = true := e
    have hb : Nat.blt n k = false := by
      cases hb : Nat.blt n k with
      | false => rfl
      | true =>
        have : n + 1 ≤ k := Nat.le_of_ble_eq_true hb
        omega
    rw [hb, Bool.false_or, Bool.and_eq_true] at e1
    cases i with
    | succ i =>
      have := chkRow_at m (k + 1) e1.2 i (by omega) (by omega) r hr (by rw [show k + 1 + i = k + (i + 1) by omega]; exact hs)
      rw [show k + 1 + i = k + (i + 1) by omega] at this
      exact this
    | zero =>
      obtain ⟨T, hT, h1⟩ := mkT_at e1.1 (fun _ h => absurd h List.not_mem_nil)
      obtain ⟨T', hT', h2⟩ := mkT_at h1 (fun _ h => absurd h List.not_mem_nil)
      have h3 := allB_at h2 r (by omega)
      rw [frc_eq, frc_eq, frc_eq, dig_pk (fun q _ => hs n k q (Nat.le_refl _) (by omega)) (by omega)] at h3
      cases h4 : lkT (Nat.gcd (Nat.succ n) r) (Nat.beq (oF (n + 1) n k r)) T with
      | false => rw [h4] at h3; cases h3
      | true =>
        rw [h4] at h3
        obtain ⟨s, a1, a2⟩ := lkT_at h4
        obtain ⟨s', b1, b2⟩ := lkT_at (show lkT (Nat.gcd (Nat.succ n) (other n h r)) (Nat.beq (oF (n + 1) n k r)) T' = true from h3)
        have a3 := Nat.eq_of_beq_eq_true a2
        have b3 := Nat.eq_of_beq_eq_true b2
        refine ⟨?_, ?_⟩
        · show _ = (oF (n + 1) n k r : Int)
          rw [a3]
          exact hT _ a1
        · show _ = (oF (n + 1) n k r : Int)
          rw [b3]
          exact hT' _ b1
theorem chk3_at {K n : Nat} (hs : SmallO (n + 1) n K) (h : chk3 K n = true) : ∀ k r, k ≤ K → k ≤ n → r ≤ n →
    sboT chooseP n (Nat.gcd (n + 1) r) k = (oF (n + 1) n k r : Int) ∧ sboT chooseP n (Nat.gcd (n + 1) (other n (n * (n + 1) / 2 % (n + 1)) r)) (n - k) = (oF (n + 1) n k r : Int) := by
  intro k r hk hkn hr
  have h1 : itY (n + 1) n (0 + 1) (1 :: List.replicate K 0) (fun ys => frc (n * (n + 1) / 2 % (n + 1)) fun h => chkRow n h 0 ys) = true := h
  rw [← rw00 (n := n), itY_eq hs (by omega) n 0 (by omega), frc_eq, Nat.zero_add] at h1
  have h2 := chkRow_at (K + 1) 0 h1 k (by omega) (by omega) r hr (by rw [Nat.zero_add]; exact fun p q r' hp hq => hs p q r' hp (by omega))
  rw [Nat.zero_add] at h2
  exact h2
theorem chk3_all {n : Nat} (hn : n ≤ 200) : chk3 2 n = true := by
  by_cases h1 : n < 120
  · have := allB_at chk3b n h1
    unfold from_ at this
    rw [show Nat.add 0 n = n from Nat.zero_add n] at this
    exact this
  · by_cases h2 : n < 165
    · have := allB_at chk3c (n - 120) (by omega)
      unfold from_ at this
      rw [show Nat.add 120 (n - 120) = n by show 120 + (n - 120) = n; omega] at this
      exact this
    · have := allB_at chk3d (n - 165) (by omega)
      unfold from_ at this
      rw [show Nat.add 165 (n - 165) = n by show 165 + (n - 165) = n; omega] at this
      exact this
theorem oF_sbo {n k r : Nat} (hn : n ≤ 200) (hk : k ≤ n) (h : n < 25 ∨ k ≤ 2) (hr : r ≤ n) :
    sboM n r k = (oF (n + 1) n k r : Int) ∧ sboM n (other n (n * (n + 1) / 2 % (n + 1)) r) (n - k) = (oF (n + 1) n k r : Int) := by
  have e : sboT chooseP n (Nat.gcd (n + 1) r) k = (oF (n + 1) n k r : Int) ∧ sboT chooseP n (Nat.gcd (n + 1) (other n (n * (n + 1) / 2 % (n + 1)) r)) (n - k) = (oF (n + 1) n k r : Int) := by
    rcases h with h | h
    · exact chk3_at (smallA h) (allB_at chk3a n h) k r hk hk hr
    · exact chk3_at (smallB hn) (chk3_all hn) k r h hk hr
  rw [sbo_gcdP hn, sbo_gcdP hn]
  exact e
/-- the turned rest -/
theorem sbo_neg {n k r : Nat} (hn : n ≤ 200) (hr : r ≤ n) : sboM n ((n + 1 - r) % (n + 1)) k = sboM n r k := by
  rw [sbo_gcdP hn, sbo_gcdP hn]
  have e : Nat.gcd (n + 1) ((n + 1 - r) % (n + 1)) = Nat.gcd (n + 1) r := by
    rw [Nat.gcd_comm, ← Nat.gcd_rec, Nat.gcd_self_sub_right (by omega)]
  rw [e]
end K47

set_option maxHeartbeats 0
namespace K47
/-! ### L4 - L6: sums -/
def cntL (x : Nat) : List Nat → Nat
  | [] => 0
  | g :: gs => cond (Nat.beq x g) (Nat.succ (cntL x gs)) (cntL x gs)
theorem once_all : allB 62 (fun n => allB n fun r => Nat.beq (cntL (Nat.gcd n r) (divs n)) 1) = true := by decide +kernel
theorem cntL_pos {x : Nat} : ∀ {gs : List Nat}, 0 < cntL x gs → x ∈ gs
  | [], h => absurd h (Nat.lt_irrefl 0)
  | g :: gs, h => by
    have h' : 0 < cond (Nat.beq x g) (Nat.succ (cntL x gs)) (cntL x gs) := h
    cases hb : Nat.beq x g with
    | true => rw [Nat.eq_of_beq_eq_true hb]; exact List.mem_cons_self
    | false =>
      rw [hb] at h'
      exact List.mem_cons_of_mem _ (cntL_pos h')
theorem once_at {n r : Nat} (hn : n ≤ 60) (hr : r ≤ n) : cntL (Nat.gcd (n + 1) r) (divs (n + 1)) = 1 := Nat.eq_of_beq_eq_true (allB_at (allB_at once_all (n + 1) (by omega)) r (by omega))
theorem sumI_congr {f g : Nat → Int} : ∀ {m : Nat}, (∀ k, k < m → f k = g k) → sumI f m = sumI g m
  | 0, _ => rfl
  | m + 1, h => by
    show sumI f m + f m = sumI g m + g m
    rw [sumI_congr fun k hk => h k (by omega), h m (by omega)]
theorem sum_ones {n r : Nat} (hn : n ≤ 60) (hr : r ≤ n) : sumI (fun k => sboM n r k) (n + 1) = (cF (n + 1) n r : Int) := by
  rw [cF_size (by omega) hr, size_gcd (by omega)]
  have h1 := List.all_eq_true.mp (allB_at chk4_all n (by omega)) (Nat.gcd (n + 1) r) (cntL_pos (by rw [show divs (Nat.succ n) = divs (n + 1) from rfl, once_at hn hr]; decide))
  rw [← of_decide_eq_true h1]
  exact sumI_congr fun k hk => sbo_gcdB hn (by omega)
/-- Σ over the divisors of how often times what -/
def wsum (F : Nat → Int) (c : Nat → Nat) : List Nat → Int
  | [] => 0
  | g :: gs => (c g : Int) * F g + wsum F c gs
theorem ch5_eq {N n k : Nat} : ∀ {gs : List Nat} {t : Int}, ch5 N n k gs t = t + wsum (fun g => sboT chB n g k) (fun g => cntG N g N) gs
  | [], t => (Int.add_zero t).symm
  | g :: gs, t => by
    show ch5 N n k gs (t + _) = t + (_ + _)
    rw [ch5_eq, Int.add_assoc]
theorem wsum_zero {F : Nat → Int} {c : Nat → Nat} (h : ∀ g, c g = 0) : ∀ {gs : List Nat}, wsum F c gs = 0
  | [] => rfl
  | g :: gs => by
    show (c g : Int) * F g + wsum F c gs = 0
    rw [h g, wsum_zero h]
    simp
theorem wsum_one {F : Nat → Int} {c : Nat → Nat} {x : Nat} : ∀ {gs : List Nat}, wsum F (fun g => cond (Nat.beq x g) (Nat.succ (c g)) (c g)) gs = wsum F c gs + (cntL x gs : Int) * F x
  | [] => by show (0 : Int) = 0 + ((0 : Nat) : Int) * F x; simp
  | g :: gs => by
    show ((cond (Nat.beq x g) (Nat.succ (c g)) (c g) : Nat) : Int) * F g + wsum F _ gs = ((c g : Int) * F g + wsum F c gs) + ((cond (Nat.beq x g) (Nat.succ (cntL x gs)) (cntL x gs) : Nat) : Int) * F x
    rw [wsum_one]
    cases hb : Nat.beq x g with
    | true =>
      have e := Nat.eq_of_beq_eq_true hb
      subst e
      show ((c x + 1 : Nat) : Int) * F x + _ = _ + ((cntL x gs + 1 : Nat) : Int) * F x
      rw [Int.natCast_add, Int.natCast_add, Int.add_mul, Int.add_mul]
      omega
    | false =>
      show (c g : Int) * F g + _ = _ + (cntL x gs : Int) * F x
      omega
theorem wsum_sum {N : Nat} {F : Nat → Int} {gs : List Nat} : ∀ {m : Nat}, (∀ r, r < m → cntL (Nat.gcd N r) gs = 1) → wsum F (fun g => cntG N g m) gs = sumI (fun r => F (Nat.gcd N r)) m
  | 0, _ => wsum_zero fun _ => rfl
  | m + 1, h => by
    show wsum F (fun g => cond (Nat.beq (Nat.gcd N m) g) (Nat.succ (cntG N g m)) (cntG N g m)) gs = sumI _ m + F (Nat.gcd N m)
    rw [wsum_one, wsum_sum fun r hr => h r (by omega), h m (by omega)]
    simp
theorem sum_rests {n k : Nat} (hn : n ≤ 60) (hk : k ≤ n) : sumI (fun r => sboM n r k) (n + 1) = (chooseL n k : Int) := by
  have h1 := of_decide_eq_true (allB_at (allB_at chk5_all n (by omega)) k (by omega))
  have h2 := Nat.eq_of_beq_eq_true (allB_at (allB_at chL_all n (by omega)) k (by omega))
  rw [h2, ← h1, ch5_eq, Int.zero_add, wsum_sum fun r hr => once_at hn (by omega)]
  exact sumI_congr fun r hr => sbo_gcdB hn (by omega)
/-- the common divisor as the rest -/
theorem size_cd {n r : Nat} (hn : n ≤ 200) (hr : r ≤ n) : sizeM n (Nat.gcd (n + 1) r % (n + 1)) = (cF (n + 1) n r : Int) := by
  rw [cF_size hn hr, size_gcd hn, size_gcd hn]
  congr 1
  rw [Nat.gcd_comm, ← Nat.gcd_rec, ← Nat.gcd_assoc, Nat.gcd_self]
/-! ### rings -/
theorem ring_facts {n r : Nat} (hn : n ≤ 9) (hr : r ≤ n) : memM n r = cF (n + 1) n r ∧ (ringsF n r).length = cF (n + 1) n r ∧ sgM n r = (cF (n + 1) n r : Int) := by
  have h1 := allB_at (allB_at chk6_all n (by omega)) r (by omega)
  obtain ⟨s, h2, h3⟩ := ofI_at h1
  simp only [Bool.and_eq_true] at h3
  have h4 := cF_size (by omega) hr
  rw [h2] at h4
  have h5 : cF (n + 1) n r = s := Int.ofNat.inj h4
  rw [h5]
  exact ⟨Nat.eq_of_beq_eq_true h3.1.1, Nat.eq_of_beq_eq_true h3.1.2, of_decide_eq_true h3.2⟩
end K47

set_option maxHeartbeats 4000000
namespace K47
open PySem PySem.Spec PyProof.Rows L2

section
variable {M : Model} {A : Around} {R : GenEnd} {Y : Protocol} {n : Nat} {s₀ : Shared} {c : Code} {fs : List PySem.Frame} {s : Shared} {env : Env}
  {K : Flow → Sem PySem.Fin} {H : Value → Sem PySem.Fin} {gd : Bool → Bool} {lv : List Value → List Value}

theorem seg_If {test : Expr} {body orelse : List Stmt} {pos : Pos}
    (h : wpAny M (A.over c fs) (isTrue test env (eval test env)) (fun b s' => if b = true then Seg M A R Y n s₀ c ((execs body env).wrap K H gd lv) fs s' else Seg M A R Y n s₀ c ((execs orelse env).wrap K H gd lv) fs s')
      (fun x s' => Seg M A R Y n s₀ c (H x) fs s') s) :
    Seg M A R Y n s₀ c ((exec (.If test body orelse pos) env).wrap K H gd lv) fs s := by
  rw [exec_If]
  show Seg M A R Y n s₀ c (.at pos fun _ => (isTrue test env (eval test env) >>= fun b => if b = true then execs body env else execs orelse env).wrap K H gd lv) fs s
  refine seg_at ?_
  rw [Sem.bind_eq_wrap', Sem.wrap_wrap]
  refine seg_wrap (wpAny_mono h (fun b s' hb => ?_) fun _ _ x => x)
  cases b with
  | true =>
    rw [if_pos rfl] at hb
    show Seg _ _ _ _ _ _ _ (Sem.wrap _ _ _ _ (if true = true then _ else _)) _ _
    rw [if_pos rfl]
    exact hb
  | false =>
    rw [if_neg Bool.false_ne_true] at hb
    show Seg _ _ _ _ _ _ _ (Sem.wrap _ _ _ _ (if false = true then _ else _)) _ _
    rw [if_neg Bool.false_ne_true]
    exact hb

theorem seg_For {target iter : Expr} {body : List Stmt} {pos : Pos}
    (hs : ∀ x, foldedSetIterable iter env x = pure x)
    (h : wpAny M (A.over c fs) (eval iter env) (fun x s₁ => wpAny M (A.over c fs) (pyIter x) (fun it s₂ => ∀ p, Seg M A R Y n s₀ (.forLoop target it body [] env) (M.den (.forLoop target it body [] env))
      (.ret (fun r => ((match r with | .ok f => (.pure f : Sem Flow) | .error e => .raise e).onRaise fun (x : Value) => do
        if (← field x 1) == Value.none then unsupported "frame.own-activation:exception-without-traceback"
        setFlight x env.frame).wrap K H gd lv) none (gd false) (lv []) c p [] :: fs) s₂) (fun x s' => Seg M A R Y n s₀ c (H x) fs s') s₁) (fun x s' => Seg M A R Y n s₀ c (H x) fs s') s) :
    Seg M A R Y n s₀ c ((exec (.For target iter body [] pos) env).wrap K H gd lv) fs s := by
  have e : exec (.For target iter body [] pos) env = (do
      standAt pos
      let it ← (do
        let v ← eval iter env
        let x ← foldedSetIterable iter env v
        standAt iter.pos
        holding [x] (pyIter x))
      runOwn (.forLoop target it body [] env) env) := by
    rw [exec_For]
    simp only [bind_assoc]
  rw [e]
  show Seg M A R Y n s₀ c (.at pos fun _ => ((do
        let v ← eval iter env
        let x ← foldedSetIterable iter env v
        standAt iter.pos
        holding [x] (pyIter x)) >>= fun it => runOwn (.forLoop target it body [] env) env).wrap K H gd lv) fs s
  refine seg_at ?_
  rw [Sem.bind_eq_wrap', Sem.wrap_wrap]
  refine seg_wrap ?_
  refine wpAny_bind (wpAny_mono h (fun x s₁ h₁ => ?_) fun _ _ x => x)
  rw [hs x]
  refine wpAny_bind (wpAny_pure (wpAny_bind (wpAny_standAt (wpAny_holding (wpAny_mono h₁ (fun it s₂ h₂ => ?_) fun _ _ x => x)))))
  exact seg_call h₂
end

section
variable {prog : Program} {w : World} {A : Around} {R : GenEnd} {Y : Protocol} {n : Nat} {s₀ : Shared} {fs : List PySem.Frame} {s : Shared} {env : Env}
abbrev noteS (env : Env) (e : Value) : Sem PySem.Fin := (do noteFrame e env; theTreesLotGoes e : Sem Unit).wrap (fun _ => .raise e) .raise id id
theorem seg_block_nil (h : Seg (model prog w) A R Y n s₀ (.block [] env) (.pure (.done .next)) fs s) : Seg (model prog w) A R Y n s₀ (.block [] env) ((model prog w).den (.block [] env)) fs s := h

theorem seg_forLoop {target : Expr} {it : Value} {body : List Stmt}
    (h : wpAny (model prog w) (A.over (.forLoop target it body [] env) fs) (pyNext it) (fun r s₁ => match r with
      | none => Seg (model prog w) A R Y n s₀ (.block [] env) (.pure (.done .next)) fs s₁
      | some v => wpAny (model prog w) (A.over (.forLoop target it body [] env) fs) (letOwnedTupleGo target it v) (fun _ s₂ =>
          wpAny (model prog w) (A.over (.forLoop target it body [] env) fs) (assign target env v) (fun _ s₃ =>
            Seg (model prog w) A R Y n s₀ (.forLoop target it body [] env) ((execs body env).wrap (fun f => match f with
              | .next | .cont => .pure (.again (.forLoop target it body [] env))
              | .brk => .pure (.done .next)
              | .ret v => .pure (.done (.ret v))) (noteS env) id id) fs s₃)
            (fun x s' => Seg (model prog w) A R Y n s₀ (.forLoop target it body [] env) (noteS env x) fs s') s₂)
          (fun x s' => Seg (model prog w) A R Y n s₀ (.forLoop target it body [] env) (noteS env x) fs s') s₁)
      (fun x s' => Seg (model prog w) A R Y n s₀ (.forLoop target it body [] env) (noteS env x) fs s') s) :
    Seg (model prog w) A R Y n s₀ (.forLoop target it body [] env) ((model prog w).den (.forLoop target it body [] env)) fs s := by
  show Seg _ A R Y n s₀ _ ((forTurn target it body [] env).onRaise (fun x => do noteFrame x env; theTreesLotGoes x)) fs s
  have e : forTurn target it body [] env = ((do
      standAt target.pos
      (pyNext it).onRaise (fun _ => standAt { target.pos with line := 0 }) : Sem (Option Value)) >>= fun r => match r with
      | none => again (.block [] env)
      | some v => (do
        letOwnedTupleGo target it v
        assign target env v : Sem Unit) >>= fun _ => execs body env >>= fun f => match f with
        | .next | .cont => again (.forLoop target it body [] env)
        | .brk => pure (.done .next)
        | .ret v => pure (.done (.ret v))) := by
    unfold forTurn
    simp only [bind_assoc]
    congr 1
  rw [e, Sem.onRaise_eq_wrap, Sem.bind_eq_wrap', Sem.wrap_wrap]
  have nE : ∀ x : Value, ((do noteFrame x env; theTreesLotGoes x : Sem Unit).bind fun _ => (.raise x : Sem PySem.Fin)) = noteS env x := fun x => Sem.bind_eq_wrap _ _
  refine seg_wrap ?_
  refine wpAny_bind (wpAny_standAt (wpAny_onRaise (wpAny_mono h (fun r s₁ h₁ => ?_) fun x s' hx => wpAny_standAt ?_)))
  · cases r with
    | none => exact seg_again rfl (seg_block_nil h₁)
    | some v =>
      show Seg _ A R Y n s₀ _ (Sem.wrap _ _ _ _ (Bind.bind _ _)) fs s₁
      rw [Sem.bind_eq_wrap', Sem.wrap_wrap]
      refine seg_wrap ?_
      refine wpAny_bind (wpAny_mono h₁ (fun _ s₂ h₂ => wpAny_mono h₂ (fun _ s₃ h₃ => ?_) fun x s' hx => ?_) fun x s' hx => ?_)
      · show Seg _ A R Y n s₀ _ (Sem.wrap _ _ _ _ (Bind.bind _ _)) fs s₃
        rw [Sem.bind_eq_wrap', Sem.wrap_wrap]
        rw [Sem.wrap_congr (execs body env) _ _ (K' := fun f => match f with
            | .next | .cont => .pure (.again (.forLoop target it body [] env))
            | .brk => .pure (.done .next)
            | .ret v => .pure (.done (.ret v))) (H' := noteS env) (fun f => by cases f <;> rfl) (fun e => by first | exact nE e | rfl)]
        exact h₃
      · first | (rw [← nE] at hx; exact hx) | (show Seg _ A R Y n s₀ _ _ fs s'; exact hx)
      · first | (rw [← nE] at hx; exact hx) | exact hx
  · first | (rw [← nE] at hx; exact hx) | exact hx
end

section
variable {X : Cx}
def tGIf (c : TT) (t u : TGn) : TGn := fun D ys σ H => c σ H fun b H1 => if b = true then t D ys σ H1 else u D ys σ H1
theorem gs_if {test : Expr} {a b : List Stmt} {pos : Pos} {tc : TT} {t u : TGn} (hc : PT X test tc) (ha : GSs X a t) (hb : GSs X b u) : GS X (.If test a b pos) (tGIf tc t u) := by
  refine ⟨fun A S ip R n ys s₀ c fs K J gd lv s σ H D g hn k hI ht => ?_⟩
  obtain ⟨acc, cc, r, I⟩ := hI
  refine seg_If ?_
  rw [g.over]
  refine wpAny_mono (hc.run _ s σ H _ I ht) (fun v s' hv => ?_) fun x s' hx => k.exc n s₀ x s' hx
  obtain ⟨H2, I2, q2⟩ := hv
  cases v with
  | true =>
    rw [if_pos rfl] at q2 ⊢
    exact ha.run A S ip R n ys s₀ c fs K J gd lv s' σ H2 D g hn k ⟨acc, cc, r, I2⟩ q2
  | false =>
    rw [if_neg Bool.false_ne_true] at q2 ⊢
    exact hb.run A S ip R n ys s₀ c fs K J gd lv s' σ H2 D g hn k ⟨acc, cc, r, I2⟩ q2

def tGFor (wi : TI) (g : TG) (tb : TGn) : TGn := fun D ys σ H => wi σ H fun J H1 => ∃ W : Nat → Nat → List V → L2.St → Hp → Prop, (∃ m, W 0 m ys σ H1) ∧ ∀ i m ys σ H, W i m ys σ H →
  (J.stop i H ∧ D.nx ys σ H) ∨ (J.go i H ∧ ∃ N : List V → L2.St → Hp → Prop, (∀ ys' σ' H', N ys' σ' H' → ∃ m', m' < m ∧ W (i + 1) m' ys' σ' H') ∧ ∀ x H', J.yld i H x H' → g x σ H' fun σ2 H2 => tb { D with nx := N, ct := N, bk := D.nx } ys σ2 H2)
theorem gs_for {tg iter : Expr} {body : List Stmt} {wi : TI} {g : TG} {tb : TGn} {pos : Pos} (hp : PassesOwn (model X.prog X.w) X.A X.env X.xe) (hc : X.calm = true) (hi : PI X tg iter wi) (hg : PG X tg g) (hb : GSs X body tb)
    (hs : ∀ x, foldedSetIterable iter X.env x = pure x := by intro _; rfl) : GS X (.For tg iter body [] pos) (tGFor wi g tb) := by
  refine ⟨fun A S ip R n ys s₀ c fs K J gd lv s σ H D gc hn k hI ht => ?_⟩
  obtain ⟨acc, cc, r, I⟩ := hI
  refine seg_For hs ?_
  rw [gc.over]
  refine wpAny_mono (hi.run _ s σ H _ I ht) (fun v s1 h1 => wpAny_mono h1 (fun itv s2 h2 => ?_) fun x s' hx => k.exc n s₀ x s' hx) fun x s' hx => k.exc n s₀ x s' hx
  obtain ⟨it, fp, tn, Jt, H2, e, I2, T, st2, f2, W, ⟨m0, w0⟩, turn⟩ := h2
  subst e
  intro p
  have gl := fun (kk : Result → Sem PySem.Fin) => gc_loop (k := kk) (c' := .forLoop tg (.ref it) body [] X.env) (l := lv []) (kp := []) (p := p) gc rfl rfl
  have stat : ∀ {H' : Hp} {acc' : Array Value} {cc' : Nat}, (∀ b ∈ fp, H' b = none) → ∀ b ∈ fp, FpOk X ((S, lstObj acc' cc') :: ip) H' b := fun hn b hb => by
    obtain ⟨z1, z2, z3, z4, z5, z6⟩ := f2 b hb
    refine ⟨hn b hb, z2, z3, z4, z5, fun q hq => ?_⟩
    rcases List.mem_append.mp hq with hq | hq
    · exact z6 q (List.mem_append_left _ hq)
    · rcases List.mem_cons.mp hq with hq | hq
      · rw [hq]
        exact z6 (S, lstObj acc cc) (List.mem_append_right _ List.mem_cons_self)
      · exact z6 q (List.mem_append_right _ (List.mem_cons_of_mem _ hq))
  have notS : ∀ b ∈ fp, b ≠ S := fun b hb e => (f2 b hb).2.2.2.2.2 (S, lstObj acc cc) (List.mem_append_right _ List.mem_cons_self) e.symm
  have loop : ∀ (m : Nat) (i n : Nat) (ys : List V) (s₀ s : Shared) (σ : L2.St) (H : Hp), n + ys.length = sizeLine → W i m ys σ H → GI X S ip ys σ H s → tn i s.heap → (∀ b ∈ fp, H b = none) →
      Seg (model X.prog X.w) A R (GY X S) n s₀ (.forLoop tg (.ref it) body [] X.env) ((model X.prog X.w).den (.forLoop tg (.ref it) body [] X.env))
        (.ret (fun r => ((match r with | .ok f => (.pure f : Sem Flow) | .error e => .raise e).onRaise (cameBack X.env)).wrap K J gd lv) none (gd false) (lv []) c p [] :: fs) s := by
    intro m
    induction m using Nat.strongRecOn with
    | ind m ih =>
      intro i n ys s₀ s σ H hn w hI st fr
      have ee : ∀ (n : Nat) (s₀ : Shared) (x : Value) (s' : Shared), X.xe x s' → Seg (model X.prog X.w) A R (GY X S) n s₀ (.forLoop tg (.ref it) body [] X.env)
          (noteS X.env x)
          (.ret (fun r => ((match r with | .ok f => (.pure f : Sem Flow) | .error e => .raise e).onRaise (cameBack X.env)).wrap K J gd lv) none (gd false) (lv []) c p [] :: fs) s' := fun n s₀ x s' hx => by
        refine seg_wrap ?_
        rw [(gl _).over]
        refine wpAny_bind (wpAny_mono (hp x s' hx) (fun _ s'' hcb => wpAny_theTreesLotGoes ?_) fun y s'' hcb => ?_)
        · exact seg_leaf (.error x) (seg_cameBack gc k hcb)
        · exact seg_leaf (.error y) (seg_cameBack gc k hcb)
      refine seg_forLoop ?_
      rw [(gl _).over]
      obtain ⟨acc1, cc1, r1, I1⟩ := hI
      rcases turn i m ys σ H w with ⟨stop, qn⟩ | ⟨go, N, hN, step⟩
      · refine wpAny_mono (T.done X rfl rfl rfl hc i _ s σ H X.xe I1 (stat fr) st stop) (fun r s4 hr => ?_) fun x s' hx => ee n s₀ x s' hx
        obtain ⟨hr, I4⟩ := hr
        subst hr
        exact seg_leaf (.ok .next) (k.ok n ys s₀ s4 .next hn ⟨σ, H, ⟨acc1, cc1, r1, I4⟩, qn⟩)
      · refine wpAny_mono (T.item X rfl rfl rfl hc i _ s σ H X.xe I1 (stat fr) st go) (fun r s4 hr => ?_) fun x s' hx => ee n s₀ x s' hx
        obtain ⟨u, hr, h4⟩ := hr
        subst hr
        refine wpAny_mono h4 (fun _ s5 h5 => ?_) fun x s' hx => ee n s₀ x s' hx
        obtain ⟨x, H5, I5, r5, y5, st5, fr5⟩ := h5
        have I5' := I5.pinned (stat fr5) (T.obj _ _ st5)
        refine wpAny_mono (hg.run _ s5 σ H5 x u _ I5' r5 (step x H5 y5)) (fun _ s6 h6 => ?_) fun x s' hx => ee n s₀ x s' hx
        obtain ⟨σ6, H6, I6, q6⟩ := h6
        have gb : GC X S (ip ++ pinsAt fp s5.heap) A (.forLoop tg (.ref it) body [] X.env) (.ret (fun r => ((match r with | .ok f => (.pure f : Sem Flow) | .error e => .raise e).onRaise (cameBack X.env)).wrap K J gd lv) none (gd false) (lv []) c p [] :: fs) id := by
          obtain ⟨a1, a2, a3, a4, a5, a6, a7⟩ := gl (fun r => ((match r with | .ok f => (.pure f : Sem Flow) | .error e => .raise e).onRaise (cameBack X.env)).wrap K J gd lv)
          refine ⟨a1, fun q hq => ?_, a3, a4, a5, a6, a7⟩
          rcases List.mem_append.mp hq with hq | hq
          · exact a2 q hq
          · exact notS q.1 (of_pinsAt hq).1
        have hI6 : GI X S (ip ++ pinsAt fp s5.heap) ys σ6 H6 s6 := ⟨acc1, cc1, r1, I6⟩
        refine hb.run A S (ip ++ pinsAt fp s5.heap) R n ys s₀ _ _ _ _ id id s6 σ6 H6 { D with nx := N, ct := N, bk := D.nx } gb hn ⟨fun n' ys' s₀' s7 f hn' hs => ?_, fun n' s₀' x s7 hx => ee n' s₀' x s7 hx⟩ hI6 q6
        have back : ∀ {ys' : List V} {σ7 : L2.St} {H7 : Hp}, GI X S (ip ++ pinsAt fp s5.heap) ys' σ7 H7 s7 → GI X S ip ys' σ7 H7 s7 ∧ tn (i + 1) s7.heap ∧ ∀ b ∈ fp, H7 b = none := fun {ys' σ7 H7} hI7 => by
          obtain ⟨acc7, cc7, r7, I7⟩ := hI7
          have pin : ∀ b ∈ fp, ∀ o, s5.heap.get? b = some o → s7.heap.get? b = some o ∧ H7 b = none := fun b hb o e => by
            have z := I7.pin (b, o) (List.mem_append_right _ (List.mem_cons_of_mem _ (List.mem_append_right _ (mem_pinsAt hb e))))
            exact ⟨z.1, z.2.1⟩
          refine ⟨⟨acc7, cc7, r7, I7.pins_of fun q hq => I7.pin q (List.mem_append_right _ ?_)⟩, T.keep _ _ _ st5 fun b hb o e => (pin b hb o e).1, fun b hb => ?_⟩
          · rcases List.mem_cons.mp hq with hq | hq
            · rw [hq]; exact List.mem_cons_self
            · exact List.mem_cons_of_mem _ (List.mem_append_left _ hq)
          · obtain ⟨o, e, d⟩ := T.obj _ _ st5 b hb
            exact (pin b hb o e).2
        cases f with
        | next =>
          obtain ⟨σ7, H7, I7, n7⟩ := hs
          obtain ⟨m', hm, w7⟩ := hN ys' σ7 H7 n7
          obtain ⟨b1, b2, b3⟩ := back I7
          exact seg_again rfl (ih m' hm (i + 1) n' ys' s₀' s7 σ7 H7 hn' w7 b1 b2 b3)
        | cont =>
          obtain ⟨σ7, H7, I7, n7⟩ := hs
          obtain ⟨m', hm, w7⟩ := hN ys' σ7 H7 n7
          obtain ⟨b1, b2, b3⟩ := back I7
          exact seg_again rfl (ih m' hm (i + 1) n' ys' s₀' s7 σ7 H7 hn' w7 b1 b2 b3)
        | brk =>
          obtain ⟨σ7, H7, I7, q7⟩ := hs
          exact seg_leaf (.ok .next) (k.ok n' ys' s₀' s7 .next hn' ⟨σ7, H7, (back I7).1, q7⟩)
        | ret v =>
          obtain ⟨x7, σ7, H7, I7, r7, q7⟩ := hs
          exact seg_leaf (.ok (.ret v)) (k.ok n' ys' s₀' s7 (.ret v) hn' ⟨x7, σ7, H7, (back I7).1, r7, q7⟩)
  exact loop m0 0 n ys s₀ s2 σ H2 hn w0 ⟨acc, cc, r, I2⟩ st2 fun b hb => (f2 b hb).1
end
end K47

set_option maxHeartbeats 4000000
namespace K47
open PySem PySem.Spec PyProof.Rows L2
open AutoSeq1 (wpAny_loadPart')

/-! ### enumerate(tuple) -/
theorem meets_enumerate_newT (l : Addr) (items : Array Value) (n : Nat) (dct : Option Addr) (sl : Array (Option Value)) :
    Meets (Builtin.«enumerate.__new__» ⟨[.type "enumerate", .ref l], []⟩) (fun _ R s => s.heap.get? l = some { cls := .type "tuple", dict := dct, data := .seq items n, slots := sl } ∧
      R (.ok (.ret (.ref (s.heap.push { cls := .type "tuple_iterator", data := .fields #[.ref l, .int 0 0] }).objs.size)))
        { s with heap := (s.heap.push { cls := .type "tuple_iterator", data := .fields #[.ref l, .int 0 0] }).push { cls := .type "enumerate", data := .fields #[.none, .bool false, .ref s.heap.objs.size, rawInt 0, .none, .none] } }) :=
  .of_wp fun prog w A R s h => by
    obtain ⟨hp, g, d, tk, os⟩ := s; obtain ⟨hl, h⟩ := h
    have hsub := sub_enumerate
    have hL : Heap.IsTuple (Shared.heap ⟨hp, g, d, tk, os⟩) l items := ⟨_, hl, rfl, n, rfl⟩
    wp_walk using wpAny_loadPart' hl
    refine wpAny_stack_any fun st => wpAny_pure ?_
    split
    · rename_i c _ _ _ _ _
      cases (c == Value.type "enumerate")
      · wp_walk using wpAny_loadPart' hl, wpAny_pyIter_tuple hL
        exact ⟨_, rfl, h⟩
      · wp_walk using wpAny_loadPart' hl, wpAny_pyIter_tuple hL
        exact ⟨_, rfl, h⟩
    · wp_walk using wpAny_loadPart' hl, wpAny_pyIter_tuple hL
      exact ⟨_, rfl, h⟩
theorem call_enumerate_tuple {prog : Program} {w : World} {A : Around} {E : Value → Shared → Prop} {s : Shared} {l : Addr} {items : Array Value} {Q : Value → Shared → Prop} (hL : s.heap.IsTuple l items)
    (h : ∀ h', IsEnum h' (s.heap.objs.size + 1) s.heap.objs.size 0 .none → h'.IsTupleIter s.heap.objs.size l 0 → h'.objs.size = s.heap.objs.size + 2 →
      (∀ b o, s.heap.get? b = some o → h'.get? b = some o) → Q (.ref (s.heap.objs.size + 1)) { s with heap := h' }) :
    wpAny (model prog w) A (call (.type "enumerate") [.ref l]) Q E s := by
  obtain ⟨⟨c, dct, dt, sl⟩, hl, hc, n, hd⟩ := hL
  replace hc : c = .type "tuple" := hc
  replace hd : dt = .seq items n := hd
  subst hc hd
  refine callType_new F.called_enumerate (by decide) (F.typeCall_enumerate_1 _) (F.newCall_enumerate_1 _) (fun obj => F.args_object_init_2 obj _) F.entry_enumerate_new
    (meets_enumerate_newT l items n dct sl) ⟨hl, ?_⟩
  have hz : (s.heap.push { cls := .type "tuple_iterator", data := .fields #[.ref l, .int 0 0] }).objs.size = s.heap.objs.size + 1 := Heap.size_push ..
  show _ ∧ _
  rw [hz]
  have he : IsEnum ((s.heap.push { cls := .type "tuple_iterator", data := .fields #[.ref l, .int 0 0] }).push
      { cls := .type "enumerate", data := .fields #[.none, .bool false, .ref s.heap.objs.size, rawInt 0, .none, .none] }) (s.heap.objs.size + 1) s.heap.objs.size 0 .none := by
    have := Heap.get?_push_size (s.heap.push { cls := .type "tuple_iterator", data := .fields #[.ref l, .int 0 0] })
      (o := { cls := .type "enumerate", data := .fields #[.none, .bool false, .ref s.heap.objs.size, rawInt 0, .none, .none] }) rfl
    rw [hz] at this; exact this
  refine ⟨⟨_, he, rfl⟩, h _ he ⟨_, Heap.get?_push_of_some _ (Heap.get?_push_size _ rfl), rfl, rfl⟩ (by rw [Heap.size_push, hz]) fun b o x => Heap.get?_push_of_some _ (Heap.get?_push_of_some _ x)⟩

/-- the tuple at a, each item in a new pair -/
def IteT (K : PySem.W.Frag) (a : Addr) : It :=
  ⟨fun i H => ∃ (xs : List V) (x : V), SqT K H a xs ∧ xs[i]? = some x, fun i H v H' => ∃ T x, v = .ref T ∧ H T = none ∧ H' = upd H T (.tup [.int (i : Nat), x]) ∧ ∀ xs, SqT K H a xs → xs[i]? = some x, fun i H => ∃ xs : List V, SqT K H a xs ∧ xs.length = i⟩
theorem turn_enumT {P : Program} {w : World} {K : PySem.W.Frag} {elts : List Expr} {kk : Nat} {tpos : Pos} (a e it : Addr) :
    Turn P w K (.Tuple elts kk tpos) (IteT K a) [e, it] e (fun i h => (∃ old, IsEnum h e it ((i : Nat) : Int) old) ∧ h.IsTupleIter it a i ∧ e ≠ it) where
  mem := by simp
  obj := fun i h st b hb => by
    obtain ⟨⟨old, he⟩, ⟨o, ho, hc, hd⟩, _⟩ := st
    have e' : b = e ∨ b = it := by simpa using hb
    rcases e' with z | z
    · rw [z]; exact ⟨_, he, fun v q => nomatch q⟩
    · rw [z]; exact ⟨o, ho, fun v q => by rw [hd] at q; cases q⟩
  keep := fun i h h' st k => let ⟨⟨old, he⟩, hi, hne⟩ := st; ⟨⟨old, k e (by simp) _ he⟩, hi.at fun o q => k it (by simp) o q, hne⟩
  item := by
    intro X hP hw hK hc i pins s σ H E I hf st hg
    subst hP hw hK
    obtain ⟨⟨old, he⟩, hit, hne⟩ := st
    obtain ⟨xs, x, hq, hx⟩ := hg
    obtain ⟨its, rv, p, hz⟩ := I.tuple hq
    obtain ⟨u, hu, ru⟩ := rv.get hx
    have p' : s.heap.IsTuple a its.toArray := p
    have hel : e < s.heap.objs.size := Heap.lt_size he
    have hil : it < s.heap.objs.size := by obtain ⟨_, q, _⟩ := hit; exact Heap.lt_size q
    have hal : a ≠ it := by
      rintro rfl
      obtain ⟨o1, e1, c1, _⟩ := id p'
      obtain ⟨o2, e2, c2, _⟩ := id hit
      rw [e1] at e2
      cases e2
      rw [c1] at c2
      exact absurd c2 (by decide)
    have hae : a ≠ e := by
      rintro rfl
      obtain ⟨o1, e1, c1, _⟩ := id p'
      rw [show s.heap.get? a = some _ from he] at e1
      cases e1
      simp at c1
    have hlt : i < its.toArray.size := by
      have := (List.getElem?_eq_some_iff.mp hu).1
      simpa using this
    refine wpAny_pyNext_enum_itemD (Draws.tuple (A := X.A.in1) (I.ok.hd hc) it a hal its.toArray) he ⟨hit, p'⟩ hlt hne (by simp; exact ⟨hne, Ne.symm hae⟩) fun y h' tk hy ho hs' hT hsz hk => ?_
    have ey : y = u := by
      have h1 : its[i]? = some y := by simpa using hy
      rw [hu] at h1
      exact (Option.some.inj h1).symm
    subst ey
    refine ⟨_, rfl, wpAny_letOwnedTupleGo_enum (s := { s with heap := h', toks := tk + 1 }) ho fun h'' he' sb => ?_⟩
    have hT2 : h''.get? s.heap.objs.size = some { cls := .type "tuple", data := .seq #[.int i tk, y] } := (sb.2 _ (Nat.ne_of_gt hel)).trans hT
    have new : ObjOk X.prog X.w (upd H s.heap.objs.size (.tup [.int (i : Nat), x])) h'' s.heap.objs.size (.tup [.int (i : Nat), x]) :=
      ⟨by show 2 ≤ sizeLine; decide, [.int i tk, y], .cons ⟨_, rfl⟩ (.cons ru .nil), ⟨_, hT2, rfl, _, rfl⟩⟩
    have I1 : Inv X pins σ (upd H s.heap.objs.size (.tup [.int (i : Nat), x])) { s with heap := h'', toks := tk + 1 } :=
      I.turnedNew (ch := [e, it]) (fun b ob hb q => (sb.2 b (fun z => hb (by simp [z]))).trans (hk b ob (fun z => hb (by simp [z])) (fun z => hb (by simp [z])) q)) hf (Nat.le_refl _) new
    refine ⟨.ref s.heap.objs.size, _, I1, rfl, ⟨_, x, rfl, I.hok.fresh (Nat.le_refl _), rfl, fun ys hy => by rw [I.tuple_inj hy hq]; exact hx⟩, ⟨⟨y, ?_⟩, hs'.1.at fun o q => (sb.2 it (Ne.symm hne)).trans q, hne⟩, fun b hb => ?_⟩
    · have e1 : ((i + 1 : Nat) : Int) = (i : Int) + 1 := by omega
      rw [e1]; exact he'
    · have hb' : b < s.heap.objs.size := by
        have e' : b = e ∨ b = it := by simpa using hb
        rcases e' with z | z
        · rw [z]; exact hel
        · rw [z]; exact hil
      rw [upd_ne (Nat.ne_of_lt hb')]
      exact (hf b hb).1
  done := by
    intro X hP hw hK hc i pins s σ H E I hf st hg
    subst hP hw hK
    obtain ⟨⟨old, he⟩, hit, hne⟩ := st
    obtain ⟨xs, hq, hx⟩ := hg
    obtain ⟨its, rv, p, hz⟩ := I.tuple hq
    obtain ⟨f0, f1, f2, f3, f4, f5⟩ := hf it (by simp)
    have hl := rv.length
    have p' : s.heap.IsTuple a its.toArray := p
    have hal : a ≠ it := by
      rintro rfl
      obtain ⟨o1, e1, c1, _⟩ := id p'
      obtain ⟨o2, e2, c2, _⟩ := id hit
      rw [e1] at e2
      cases e2
      rw [c1] at c2
      exact absurd c2 (by decide)
    have hn : i = its.toArray.size := by simp; omega
    subst hn
    exact wpAny_pyNext_enum_endD (Draws.tuple (A := X.A.in1) (I.ok.hd hc) it a hal its.toArray) he ⟨hit, p'⟩ fun h' eb => ⟨rfl, I.turned (t' := s.toks) (fun b o hb q => eb b o hb q) f0 f1 f3 f4 f5⟩
  self := fun A i s Q E st h => let ⟨⟨_, he⟩, _⟩ := st; wpAny_pyIter_enum he h
def iEnumT (K : PySem.W.Frag) (ta : TA) : TI := fun σ H R => ta σ H fun vs H1 => ∃ a xs, vs = [.ref a] ∧ SqT K H1 a xs ∧ R (IteT K a) H1
theorem pi_enumT {X : Cx} {e : Expr} {ta : TA} {p pos tpos : Pos} {elts : List Expr} {kk : Nat} (hg : Gl X "enumerate") (hm : X.mg "enumerate" = none) (ha : PA X [e] ta) (hs : starEach [e] X.env = [(false, eval e X.env)] := by rfl) :
    PI X (.Tuple elts kk tpos) (.Call (.Name "enumerate" p) [e] [] pos) (iEnumT X.K ta) := by
  refine ⟨fun pins s σ H R I h => ?_⟩
  refine Call_ (ld_blt I hg hm boot_enumerate (PyProof.Rows.callWith_type1 (thn (ha.run pos pins s σ H _ I h) fun us s1 ⟨vs, H1, I1, r1, q1⟩ => ?_) hs rfl))
  obtain ⟨a, xs, ex, hq, q⟩ := q1
  subst ex
  cases r1 with
  | cons r rr =>
    cases rr
    cases r
    obtain ⟨its, rv, p', hz⟩ := I1.tuple hq
    refine call_enumerate_tuple (items := its.toArray) p' fun h' he hit hsz hk => wpAny_pyIter_enum he ?_
    have I2 : Inv X pins σ H1 { s1 with heap := h' } := I1.kept (t' := s1.toks) hk
    refine ⟨s1.heap.objs.size + 1, [s1.heap.objs.size + 1, s1.heap.objs.size], _, _, H1, rfl, I2, turn_enumT a (s1.heap.objs.size + 1) s1.heap.objs.size, ⟨⟨.none, he⟩, hit, Nat.succ_ne_self _⟩, fun b hb => ?_, q⟩
    have e' : b = s1.heap.objs.size + 1 ∨ b = s1.heap.objs.size := by simpa using hb
    have hle : s1.heap.objs.size ≤ b := by
      rcases e' with z | z
      · rw [z]; exact Nat.le_add_right _ _
      · rw [z]; exact Nat.le_refl _
    exact I1.fpOk hle (I1.hok.fresh hle)

/-! ### sum of a tuple -/
def rSumT (K : PySem.W.Frag) : List V → Hp → VK → Prop := fun vs H Q => ∃ (a : Addr) (ns : List Int), vs = [V.ref a] ∧ SqT K H a (ns.map V.int) ∧ Q (.int ns.sum) H
theorem cr_sumT {X : Cx} (hc : X.calm = true) : CallR X (.builtin "sum") (rSumT X.K) := by
  intro pins s σ H xs us Q I r h
  obtain ⟨a, ns, rfl, ha, q⟩ := h
  obtain ⟨u, rfl, ru⟩ := vals1 r
  cases ru
  obtain ⟨its, rv, p, hz⟩ := I.tuple ha
  have hi : IntsAre its ns := rv.ints
  obtain ⟨zs, e⟩ := hi.allInts.items
  have hn : numsOf (intItems zs).toList = ns := by rw [← e]; exact hi.numsOf
  rw [nums_intItems] at hn
  have p' : s.heap.IsTuple a (intItems zs) := by rw [← e]; exact p
  refine PySem.W.ktm_sumG (I.ok.hd hc) p' fun h' tk t' hk => ?_
  rw [preSum_eq, List.take_of_length_le (by simp), hn]
  exact ⟨.int ns.sum, H, I.kept (t' := tk) hk, ⟨_, rfl⟩, q⟩

/-! ### list(d.keys()) -/
def tListKeys (td : TE) : TE := fun σ H Q => td σ H fun x H1 => ∃ d kvs, x = .ref d ∧ H1 d = some (.dK kvs) ∧ ∀ p, H1 p = none → Q (.ref p) (upd H1 p (.lst (kvs.map fun kv => kV kv.1)))
theorem pe_listKeys {X : Cx} {e : Expr} {td : TE} {p pos apos cpos : Pos} (hcalm : X.calm = true) (he : PE X e td) (hg : Gl X "list") (hm : X.mg "list" = none) (hv : bootBuiltins "list" = some (.type "list"))
    (hbase : attributeBase e "keys" X.env (eval e X.env) = eval e X.env := by rfl) (hline : (apos.endLine == cpos.line) = true := by rfl)
    (hst : starEach [.Call (.Attribute e "keys" apos) [] [] cpos] X.env = (false, eval (.Call (.Attribute e "keys" apos) [] [] cpos) X.env) :: starEach [] X.env := by rfl) :
    PE X (.Call (.Name "list" p) [.Call (.Attribute e "keys" apos) [] [] cpos] [] pos) (tListKeys td) := by
  refine ⟨fun pins s σ H Q I hq => ?_⟩
  refine wpAny_Call_Name_kw (ld_blt I hg hm hv ?_)
  refine PyProof.Rows.callWith_type1 ?_ hst rfl
  rw [hst]
  show wpAny _ _ (spliced ((false, eval (.Call (.Attribute e "keys" apos) [] [] cpos) X.env) :: backTo pos (starEach [] X.env))) _ _ s
  refine Calls.spliced_cons ?_
  refine wpAny_Call_method (T := "dict") (id := "dict.keys") hbase rfl hline F.plainAttrs_dict F.slot_dict_keys F.type_dict_keys (thn (he.run pins s σ H _ I hq) fun u s1 ⟨x, H1, I1, rx, d, kvs, ex, hd, q⟩ => ?_)
  subst ex
  obtain rfl : u = Value.ref d := rx
  obtain ⟨z, lo, vs, rel, dd⟩ := dk_of I1.hok hd
  obtain ⟨ep, hat⟩ := dd.dictAt
  refine ⟨hat.dictOf.typeIs, hat.dictOf.mapOf.noDict, ?_⟩
  have I2 : Inv X pins σ H1 { s1 with heap := s1.heap.push { cls := .type "dict_keys", data := .fields #[.ref d] } } := I1.kept (t' := s1.toks) fun b ob q => Heap.get?_push_of_some _ q
  show wpAny _ _ (callWith cpos (.builtin "dict.keys") [.ref d] [] []) _ X.xe s1
  refine method_meetsIn F.slot_dict_keys F.entry_dict_keys rfl (PySem.evalArgs_none ⟨rfl, hat.dictOf.typeIs, F.args_dict_keys_1 _, _, PySem.W.kdl_meets_keys (mixKind X.prog X.w) d lo, ⟨vs, hat.dictOf⟩, ?_⟩)
  refine Calls.spliced_nil ?_
  have ek : (kvs.map fun kv => kV kv.1) = vs.map fun p => kV p.1 := by
    have e := congrArg (List.map kV) rel.keys
    rw [List.map_map, List.map_map] at e
    exact e
  refine PySem.W.kdl_call (PySem.W.kdl_keys (knd := mixKind X.prog X.w) (kvs := vs) (ep := ep) (r := s1.heap.objs.size) (d := d)) (I1.ok.hd hcalm) ⟨⟨_, Heap.get?_push_size _ rfl, rfl, rfl⟩, hat.push _⟩ (by rw [← rel.length]; exact z) fun h' tk acc c' hk hD hacc => ?_
  have hv : Vals (vs.map fun p => kV p.1) acc.toList := keys_at (by rw [Array.length_toList]; exact hacc.1) fun j v e => hacc.2 j v (by rw [← Array.getElem?_toList]; exact e)
  refine ⟨.ref _, upd H1 _ (.lst (kvs.map fun kv => kV kv.1)), I2.laid (t' := tk) hk (Nat.le_refl _)
    (show ObjOk X.prog X.w _ _ _ (.lst (kvs.map fun kv => kV kv.1)) from ⟨by rw [List.length_map]; exact z, acc.toList, c', by rw [ek]; exact hv, by rw [Array.toArray_toList]; exact hD⟩), rfl, q _ (I2.hok.fresh (Nat.le_refl _))⟩
end K47

set_option maxHeartbeats 4000000
namespace K47
open PySem PySem.Spec PyProof.Rows L2 Evl

/-! ### a def of the top that callers use -/
structure Cal (P : Program) (w : World) (K : PySem.W.Frag) (mg : Str → Option Value) (base : Heap) (k : Nat) (name : Str) (ps : List Str) (dvs : List V) (sp : Sp) : Prop where
  ex : ∃ (f : Addr) (fd : FuncData) (ds : List Value), FnOk P w K mg base CX0 k f fd ps sp ∧ mg name = some (.ref f) ∧ PySem.W.keepIn K (.ref f) = true ∧ Binds K fd ps ds ∧ Vals dvs ds
theorem pe_c {X : Cx} {k k' : Nat} {name : Str} {ps : List Str} {dvs : List V} {sp : Sp} {p pos : Pos} {e : Expr} {es : List Expr} {t : TA} (c : Cal X.prog X.w X.K X.mg X.base k name ps dvs sp) (hr : Room k' X.A) (hg : Gl X name) (ha : PA X (e :: es) t) (hk : k ≤ k' := by decide)
    (hdb : (name == ("__debug__" : Str)) = false := by decide) (he : starEach (e :: es) X.env = (false, eval e X.env) :: starEach es X.env := by rfl) (hpl : (backTo pos (starEach es X.env)).any (·.1) = false := by rfl) :
    PE X (.Call (.Name name p) (e :: es) [] pos) (tCall sp dvs E0 t) := by
  obtain ⟨f, fd, ds, F, hm, kp, b, d⟩ := c.ex
  exact pe_call F (hr.mono hk) hg hm kp b d pass0 ha hdb he hpl

/-! ### the general evaluation: the value and the heap satisfy a word that lasts -/
def EvG (te : TE) (σ : L2.St) (H : Hp) (Po : V → Hp → Prop) : Prop := ∀ H1, Ex H H1 → ∀ Q : VK, (∀ v H2, Ex H1 H2 → Po v H2 → Q v H2) → te σ H1 Q
def RetG (Po : V → Hp → Prop) (H : Hp) (Q : VK) : Prop := ∀ v H2, Ex H H2 → Po v H2 → Q v H2
def SpW (sp : Sp) (vs : List V) (H : Hp) (Po : V → Hp → Prop) : Prop := ∀ H1, Ex H H1 → ∀ Q : VK, (∀ v H2, Ex H1 H2 → Po v H2 → Q v H2) → ∀ E : XK, sp vs H1 Q E
def IsT (xs : List V) : V → Hp → Prop := fun v H => ∃ p, v = .ref p ∧ H p = some (.tup xs)
def IsL (xs : List V) : V → Hp → Prop := fun v H => ∃ p, v = .ref p ∧ H p = some (.lst xs)
def Wd (H : Hp) : List V → List (List Int) → Prop := Paired fun x w => ∃ a, x = .ref a ∧ H a = some (.tup (w.map V.int))
theorem Wd.ex {H H' : Hp} (e : Ex H H') {xs : List V} {ws : List (List Int)} (h : Wd H xs ws) : Wd H' xs ws := Paired.mapP h fun _ _ ⟨a, e1, e2⟩ => ⟨a, e1, e a _ e2⟩
theorem Wd.get {H : Hp} : ∀ {xs : List V} {ws : List (List Int)} {i : Nat} {x : V}, Wd H xs ws → xs[i]? = some x → ∃ a w, x = .ref a ∧ ws[i]? = some w ∧ H a = some (.tup (w.map V.int))
  | _, _, _, _, .nil, e => by simp at e
  | _, _, 0, x, .cons r _, e => by
    simp at e
    subst e
    obtain ⟨a, e1, e2⟩ := r
    exact ⟨a, _, e1, rfl, e2⟩
  | _, _, i + 1, x, .cons _ t, e => by
    obtain ⟨a, w, h1, h2, h3⟩ := Wd.get (i := i) (x := x) t (by simpa using e)
    exact ⟨a, w, h1, by simpa using h2, h3⟩
theorem Wd.len {H : Hp} {xs : List V} {ws : List (List Int)} (h : Wd H xs ws) : xs.length = ws.length := Paired.length h
theorem Wd.app {H : Hp} : ∀ {xs ys : List V} {ws us : List (List Int)}, Wd H xs ws → Wd H ys us → Wd H (xs ++ ys) (ws ++ us)
  | _, _, _, _, .nil, s => s
  | _, _, _, _, .cons r t, s => .cons r (Wd.app t s)
def IsTW (ws : List (List Int)) : V → Hp → Prop := fun v H => ∃ p xs, v = .ref p ∧ H p = some (.tup xs) ∧ Wd H xs ws
def IsLW (ws : List (List Int)) : V → Hp → Prop := fun v H => ∃ p xs, v = .ref p ∧ H p = some (.lst xs) ∧ Wd H xs ws

/-! the rules, the written part told (within a comprehension's block it must be) -/
section
variable {X : Cx} {K : PySem.W.Frag}
theorem sl_tupK (h : X.K = K) : SlR X (rSlA K) := h ▸ sl_tupA
theorem sl_listK (h : X.K = K) : SlR X (rSlL K) := h ▸ sl_list
theorem op_catK (h : X.K = K) : OpR X (binaryOp .Add) (rCatA K) := h ▸ op_catA
theorem op_ltK (h : X.K = K) (hu : X.A.units < cLine) : OpR X (compareOp .Lt) (rLtT K) := h ▸ op_ltT hu
theorem op_eqK (h : X.K = K) (hu : X.A.units + 64 < cLine) : OpR X (compareOp .Eq) (rEqD K) := h ▸ op_eqD hu
theorem op_neK (h : X.K = K) (hu : X.A.units + 64 < cLine) : OpR X (compareOp .NotEq) (rNeD K) := h ▸ op_neD hu
theorem ix_listK (h : X.K = K) : IxR X (rIxL K) := h ▸ ix_list
theorem ix_tupK (h : X.K = K) : IxR X (rIxT K) := h ▸ ix_tup
theorem pi_tupK {tg l : Expr} {tl : TE} (h : X.K = K) (hl : PE X l tl) : PI X tg l (iTup K tl) := h ▸ pi_tup hl
theorem pi_listK {tg l : Expr} {tl : TE} (h : X.K = K) (hl : PE X l tl) : PI X tg l (iList K tl) := h ▸ pi_list hl
theorem cr_isiK (h : X.K = K) : CallR X (.builtin "isinstance") (rIsi K) := h ▸ call_isi
theorem cr_isiTK (h : X.K = K) : CallR X (.builtin "isinstance") (rIsiT K) := h ▸ call_isiT
theorem cr_sumK (h : X.K = K) (hc : X.calm = true) : CallR X (.builtin "sum") (rSum K) := h ▸ cr_sum hc
theorem cr_sumTK (h : X.K = K) (hc : X.calm = true) : CallR X (.builtin "sum") (rSumT K) := h ▸ cr_sumT hc
end
section
variable {K : PySem.W.Frag} {σ : L2.St} {H H' : Hp} {ta tb te tx : TE} {t u : TT} {x y z v : V} {r : R2} {P Po : V → Hp → Prop}
theorem EvG.mono (e : Ex H H') (h : EvG te σ H Po) : EvG te σ H' Po := fun H1 a Q q => h H1 (e.trans a) Q q
theorem evG_of (h : Ev te σ H v) : EvG te σ H (fun x _ => x = v) := fun H1 e Q q => h H1 e Q fun H2 e2 => q v H2 e2 rfl
theorem ev_ofG (h : EvG te σ H (fun x _ => x = v)) : Ev te σ H v := fun H1 e Q q => h H1 e Q fun x H2 e2 ex => by rw [ex]; exact q H2 e2
theorem evG_imp {Po' : V → Hp → Prop} (h : EvG te σ H P) (hi : ∀ v H', P v H' → Po' v H') : EvG te σ H Po' := fun H1 e Q q => h H1 e Q fun v H2 e2 p => q v H2 e2 (hi v H2 p)
/-- a reading of one place, told by what its part gives -/
theorem evG_L {xs : List V} (h : EvL te σ H xs) : EvG te σ H (IsL xs) := fun H1 e Q q => h H1 e Q fun p H2 _ e2 h2 => q (.ref p) H2 e2 ⟨p, rfl, h2⟩
theorem evG_U {xs : List V} (h : EvU te σ H xs) : EvG te σ H (IsT xs) := fun H1 e Q q => h H1 e Q fun p H2 _ e2 h2 => q (.ref p) H2 e2 ⟨p, rfl, h2⟩
theorem ev_opG {P1 P2 : V → Hp → Prop} (h1 : EvG ta σ H P1) (h2 : ∀ v H1, Ex H H1 → P1 v H1 → EvG tb σ H1 P2)
    (hr : ∀ x y H1 H2, Ex H H1 → P1 x H1 → Ex H1 H2 → P2 y H2 → ∀ Q : VK, (∀ v H3, Ex H2 H3 → Po v H3 → Q v H3) → r x y H2 Q) : EvG (tOp r ta tb) σ H Po := fun H0 e Q q =>
  h1 H0 e _ fun x H1 e1 p1 => h2 x H1 (e.trans e1) p1 H1 (Ex.refl _) _ fun y H2 e2 p2 => hr x y H1 H2 (e.trans e1) p1 e2 p2 Q fun v H3 e3 p3 => q v H3 ((e1.trans e2).trans e3) p3
theorem ev_cbG {rr : List V → Hp → VK → Prop} {P1 : V → Hp → Prop} (h1 : EvG ta σ H P1)
    (hr : ∀ x H1, Ex H H1 → P1 x H1 → ∀ Q : VK, (∀ v H3, Ex H1 H3 → Po v H3 → Q v H3) → rr [x] H1 Q) : EvG (tCB rr (tCons ta tNil)) σ H Po := fun H0 e Q q =>
  h1 H0 e _ fun x H1 e1 p1 => hr x H1 (e.trans e1) p1 Q fun v H3 e3 p3 => q v H3 (e1.trans e3) p3
theorem evG_call {sp : Sp} {dvs vs : List V} {E : XK} {ta : TA} (h : EvA ta σ H vs) (hs : SpW sp (vs ++ dvs) H Po) : EvG (tCall sp dvs E ta) σ H Po := fun H1 e Q q =>
  h H1 e _ fun H2 e2 => hs H2 (e.trans e2) Q (fun v H3 e3 p3 => q v H3 (e2.trans e3) p3) E
theorem spW_v {sp : Sp} {vs : List V} {z : V} (h : SpW sp vs H (fun x _ => x = z)) : SpV sp vs H z := fun H1 e Q q E => h H1 e Q (fun x H2 e2 ex => by rw [ex]; exact q H2 e2) E
theorem ev_callW {sp : Sp} {dvs vs : List V} {E : XK} {ta : TA} (h : EvA ta σ H vs) (hs : SpW sp (vs ++ dvs) H (fun x _ => x = v)) : Ev (tCall sp dvs E ta) σ H v := ev_call h (spW_v hs)

/-! ints -/
variable {i j : Int}
theorem ev_add (ha : Ev ta σ H (.int i)) (hb : Ev tb σ H (.int j)) : Ev (tOp (rI0 fun i j => .int (i + j)) ta tb) σ H (.int (i + j)) := ev_op ha hb rv_I0
theorem ev_sub (ha : Ev ta σ H (.int i)) (hb : Ev tb σ H (.int j)) : Ev (tOp (rI0 fun i j => .int (i - j)) ta tb) σ H (.int (i - j)) := ev_op ha hb rv_I0
theorem ev_mul (ha : Ev ta σ H (.int i)) (hb : Ev tb σ H (.int j)) (hc : CMul i j) : Ev (tOp (rI CMul fun i j => .int (i * j)) ta tb) σ H (.int (i * j)) := ev_op ha hb (rv_I hc)
theorem ev_mulW (ha : Ev ta σ H (.int i)) (hb : Ev tb σ H (.int j)) (hc : CMulW i j) : Ev (tOp (rI CMulW fun i j => .int (i * j)) ta tb) σ H (.int (i * j)) := ev_op ha hb (rv_I hc)
theorem ev_div (ha : Ev ta σ H (.int i)) (hb : Ev tb σ H (.int j)) (hc : CDiv i j) : Ev (tOp (rI CDiv fun i j => .int (i / j)) ta tb) σ H (.int (i / j)) := ev_op ha hb (rv_I hc)
theorem ev_mod (ha : Ev ta σ H (.int i)) (hb : Ev tb σ H (.int j)) (hc : 0 < j) : Ev (tOp (rI (fun _ j => 0 < j) fun i j => .int (i % j)) ta tb) σ H (.int (i % j)) := ev_op ha hb (rv_I hc)
theorem ev_pow (ha : Ev ta σ H (.int i)) (hb : Ev tb σ H (.int j)) (hc : CPow i j) : Ev (tOp (rI CPow fun i j => .int (i ^ j.toNat)) ta tb) σ H (.int (i ^ j.toNat)) := ev_op ha hb (rv_I hc)
theorem ev_shl (ha : Ev ta σ H (.int i)) (hb : Ev tb σ H (.int j)) (hc : CPow i j) : Ev (tOp (rI CPow fun i j => .int (i * 2 ^ j.toNat)) ta tb) σ H (.int (i * 2 ^ j.toNat)) := ev_op ha hb (rv_I hc)
theorem ev_shr (ha : Ev ta σ H (.int i)) (hb : Ev tb σ H (.int j)) (hc : 0 ≤ j) : Ev (tOp (rI (fun _ j => 0 ≤ j) fun i j => .int (i / 2 ^ j.toNat)) ta tb) σ H (.int (i / 2 ^ j.toNat)) := ev_op ha hb (rv_I hc)
theorem ev_and (ha : Ev ta σ H (.int i)) (hb : Ev tb σ H (.int j)) : Ev (tOp (rI0 fun i j => .int (Builtin.bitAnd i j)) ta tb) σ H (.int (Builtin.bitAnd i j)) := ev_op ha hb rv_I0
theorem ev_lt (ha : Ev ta σ H (.int i)) (hb : Ev tb σ H (.int j)) : Ev (tOp (rI0 fun i j => .bl (decide (i < j))) ta tb) σ H (.bl (decide (i < j))) := ev_op ha hb rv_I0
theorem ev_le (ha : Ev ta σ H (.int i)) (hb : Ev tb σ H (.int j)) : Ev (tOp (rI0 fun i j => .bl (decide (i ≤ j))) ta tb) σ H (.bl (decide (i ≤ j))) := ev_op ha hb rv_I0
theorem ev_gt (ha : Ev ta σ H (.int i)) (hb : Ev tb σ H (.int j)) : Ev (tOp (rI0 fun i j => .bl (decide (j < i))) ta tb) σ H (.bl (decide (j < i))) := ev_op ha hb rv_I0
theorem ev_ge (ha : Ev ta σ H (.int i)) (hb : Ev tb σ H (.int j)) : Ev (tOp (rI0 fun i j => .bl (decide (j ≤ i))) ta tb) σ H (.bl (decide (j ≤ i))) := ev_op ha hb rv_I0
theorem ev_eq (ha : Ev ta σ H (.int i)) (hb : Ev tb σ H (.int j)) : Ev (tOp rEq ta tb) σ H (.bl (decide (i = j))) := ev_is (ev_op ha hb (rv_eq rfl)) (by simp)
theorem ev_ne (ha : Ev ta σ H (.int i)) (hb : Ev tb σ H (.int j)) : Ev (tOp rNe ta tb) σ H (.bl (!decide (i = j))) := ev_is (ev_op ha hb (rv_ne rfl)) (by simp)
theorem ev_neg (ha : Ev ta σ H (.int i)) : Ev (tUn (rU fun i => .int (-i)) ta) σ H (.int (-i)) := ev_un ha ru_neg
theorem ev_eqN (ha : Ev ta σ H .non) (hb : Ev tb σ H x) : Ev (tOp (fun x y H Q => y = .non ∧ Q (.bl (decide (x = .non))) H) tb ta) σ H (.bl (decide (x = .non))) := ev_op hb ha fun H1 _ _ q => ⟨rfl, q H1 (Ex.refl H1)⟩
theorem ev_notN (ha : Ev ta σ H x) : Ev (tOp (fun x y H Q => y = .non ∧ Q (.bl (!decide (x = .non))) H) ta (tC .non)) σ H (.bl (!decide (x = .non))) := ev_op ha ev_c fun H1 _ _ q => ⟨rfl, q H1 (Ex.refl H1)⟩
theorem ev_isN (ha : Ev ta σ H x) : Ev (tOp (fun x y H Q => y = .non ∧ Q (.bl (decide (x = .non))) H) ta (tC .non)) σ H (.bl (decide (x = .non))) := ev_op ha ev_c fun H1 _ _ q => ⟨rfl, q H1 (Ex.refl H1)⟩
/-! int(x), abs(x), min(x, y) -/
def rInt1 : List V → Hp → VK → Prop := fun xs H Q => (∃ i, xs = [.int i] ∧ Q (.int i) H) ∨ ∃ k, xs = [.bl k] ∧ Q (.int (if k then 1 else 0)) H
theorem cr_int {X : Cx} : CallR X (.type "int") rInt1 := call_int1
def rAbs1 : List V → Hp → VK → Prop := fun xs H Q => ∃ i, xs = [.int i] ∧ Q (.int (if i < 0 then -i else i)) H
theorem cr_abs {X : Cx} : CallR X (.builtin "abs") rAbs1 := call_abs
def rMin2 : List V → Hp → VK → Prop := fun xs H Q => ∃ i j, xs = [.int i, .int j] ∧ Q (.int (if j < i then j else i)) H
theorem cr_min2 {X : Cx} (hc : X.calm = true) : CallR X (.builtin "min") rMin2 := call_min2 hc
def rLenA (K : PySem.W.Frag) : List V → Hp → VK → Prop := fun xs H Q => ∃ p ys, xs = [.ref p] ∧ (SqL K H p ys ∨ SqT K H p ys) ∧ Q (.int ys.length) H
theorem cr_lenA {X : Cx} : CallR X (.builtin "len") (rLenA X.K) := call_len_seq
def rListA (K : PySem.W.Frag) : List V → Hp → VK → Prop := fun xs H Q => ∃ p ys, xs = [.ref p] ∧ (SqL K H p ys ∨ SqT K H p ys) ∧ ∀ l, H l = none → Q (.ref l) (upd H l (.lst ys))
def rTupA (K : PySem.W.Frag) : List V → Hp → VK → Prop := fun xs H Q => ∃ p ys, xs = [.ref p] ∧ ((SqL K H p ys ∧ ∀ l, H l = none → Q (.ref l) (upd H l (.tup ys))) ∨ (SqT K H p ys ∧ Q (.ref p) H))
theorem cr_tupA {X : Cx} : CallR X (.type "tuple") (rTupA X.K) := call_tuple_of
theorem ev_int1 (ha : Ev ta σ H (.int i)) : Ev (tCB rInt1 (tCons ta tNil)) σ H (.int i) := ev_cb (ea_cons ha ea_nil) fun H1 _ _ q => Or.inl ⟨i, rfl, q H1 (Ex.refl H1)⟩
theorem ev_abs1 (ha : Ev ta σ H (.int i)) : Ev (tCB rAbs1 (tCons ta tNil)) σ H (.int (if i < 0 then -i else i)) := ev_cb (ea_cons ha ea_nil) fun H1 _ _ q => ⟨i, rfl, q H1 (Ex.refl H1)⟩
theorem ev_min2 (ha : Ev ta σ H (.int i)) (hb : Ev tb σ H (.int j)) : Ev (tCB rMin2 (tCons ta (tCons tb tNil))) σ H (.int (if j < i then j else i)) := ev_cb (ea_cons ha (ea_cons hb ea_nil)) fun H1 _ _ q => ⟨i, j, rfl, q H1 (Ex.refl H1)⟩
theorem ev_lenL {xs : List V} (ha : EvG ta σ H (IsL xs)) : Ev (tCB (rLenA K) (tCons ta tNil)) σ H (.int (xs.length : Int)) := ev_ofG (ev_cbG ha fun x H1 _ ⟨p, e, h⟩ Q q => ⟨p, xs, by rw [e], .inl (SqL.of h), q _ H1 (Ex.refl _) rfl⟩)
theorem ev_lenT {xs : List V} (ha : EvG ta σ H (IsT xs)) : Ev (tCB (rLenA K) (tCons ta tNil)) σ H (.int (xs.length : Int)) := ev_ofG (ev_cbG ha fun x H1 _ ⟨p, e, h⟩ Q q => ⟨p, xs, by rw [e], .inr (SqT.of h), q _ H1 (Ex.refl _) rfl⟩)
theorem cr_lenK {X : Cx} (h : X.K = K) : CallR X (.builtin "len") (rLenA K) := h ▸ cr_lenA
theorem cr_tupK {X : Cx} (h : X.K = K) : CallR X (.type "tuple") (rTupA K) := h ▸ cr_tupA
/-- a name that holds a tuple -/
theorem evG_varT {k : Nat} {p : Addr} {xs : List V} (h : σ[k]? = some (some (.ref p))) (hp : H p = some (.tup xs)) : EvG (tVar k) σ H (IsT xs) := fun H1 e Q q => ⟨.ref p, h, q _ H1 (Ex.refl _) ⟨p, rfl, e p _ hp⟩⟩
theorem evG_varL {k : Nat} {p : Addr} {xs : List V} (h : σ[k]? = some (some (.ref p))) (hp : H p = some (.lst xs)) : EvG (tVar k) σ H (IsL xs) := fun H1 e Q q => ⟨.ref p, h, q _ H1 (Ex.refl _) ⟨p, rfl, e p _ hp⟩⟩
/-- tuple(a new list) -/
theorem evG_tupL {xs : List V} (h : EvG ta σ H (IsL xs)) : EvG (tCB (rTupA K) (tCons ta tNil)) σ H (IsT xs) := ev_cbG h fun x H1 e1 ⟨p, e, hp⟩ Q q =>
  ⟨p, xs, by rw [e], .inl ⟨SqL.of hp, fun l hl => q (.ref l) _ (Ex.new hl) ⟨l, rfl, upd_same⟩⟩⟩
theorem evG_tupP {P1 : List V → Hp → Prop} (hP : ∀ xs H H', Ex H H' → P1 xs H → P1 xs H') (h : EvG ta σ H (fun v H => ∃ p xs, v = .ref p ∧ H p = some (.lst xs) ∧ P1 xs H)) :
    EvG (tCB (rTupA K) (tCons ta tNil)) σ H (fun v H => ∃ p xs, v = .ref p ∧ H p = some (.tup xs) ∧ P1 xs H) := ev_cbG h fun x H1 e1 ⟨p, xs, e, hp, p1⟩ Q q =>
  ⟨p, xs, by rw [e], .inl ⟨SqL.of hp, fun l hl => q (.ref l) _ (Ex.new hl) ⟨l, xs, rfl, upd_same, hP xs _ _ (Ex.new hl) p1⟩⟩⟩
theorem evG_sumL {ns : List Int} (h : EvG ta σ H (IsL (ns.map V.int))) : Ev (tCB (rSum K) (tCons ta tNil)) σ H (.int ns.sum) := ev_ofG (ev_cbG h fun x H1 _ ⟨p, e, hp⟩ Q q => ⟨p, ns, by rw [e], SqL.of hp, q _ H1 (Ex.refl _) rfl⟩)
theorem evG_sumT {ns : List Int} (h : EvG ta σ H (IsT (ns.map V.int))) : Ev (tCB (rSumT K) (tCons ta tNil)) σ H (.int ns.sum) := ev_ofG (ev_cbG h fun x H1 _ ⟨p, e, hp⟩ Q q => ⟨p, ns, by rw [e], SqT.of hp, q _ H1 (Ex.refl _) rfl⟩)
/-- t + u, tuples -/
theorem evG_cat {xs ys : List V} (h1 : EvG ta σ H (IsT xs)) (h2 : EvG tb σ H (IsT ys)) (hz : xs.length + ys.length ≤ 100000) : EvG (tOp (rCatA K) ta tb) σ H (IsT (xs ++ ys)) :=
  ev_opG h1 (fun v H1 e _ => h2.mono e) fun x y H1 H2 e1 ⟨p, ex, hp⟩ e2 ⟨q, ey, hq⟩ Q k => by
    subst ex ey
    refine ⟨p, q, xs, ys, rfl, rfl, SqT.of (e2 p _ hp), SqT.of hq, sz_of hz, fun h => ?_, fun _ h => ?_, fun _ _ l hl => ?_⟩
    · refine k _ _ (Ex.refl _) ⟨q, rfl, ?_⟩
      rw [h]
      exact hq
    · refine k _ _ (Ex.refl _) ⟨p, rfl, ?_⟩
      rw [h, List.append_nil]
      exact e2 p _ hp
    · exact k _ _ (Ex.new hl) ⟨l, rfl, upd_same⟩
theorem sIx_whole (n : Nat) (lo hi : Option Int) (xs : List V) (hn : xs.length = n) (h : HT.sIx n 0 lo = 0 ∧ HT.sIx n n hi = n) : cutV xs lo hi = xs := by
  unfold cutV
  rw [hn, h.1, h.2, List.drop_zero, Nat.sub_zero, List.take_of_length_le (Nat.le_of_eq hn)]
/-- t[lo:hi], a tuple -/
theorem evG_slT {tl th : TO} {xs : List V} {lo hi : Option Int} (h : EvG te σ H (IsT xs)) (h1 : EvO tl σ H lo) (h2 : EvO th σ H hi) : EvG (tSl (rSlA K) te tl th) σ H (IsT (cutV xs lo hi)) := fun H1 e Q k =>
  h H1 e _ fun x H2 e2 ⟨p, ex, hp⟩ => h1 H2 (e.trans e2) _ fun H3 e3 => h2 H3 ((e.trans e2).trans e3) _ fun H4 e4 => by
    subst ex
    have hp4 := e4 p _ (e3 p _ hp)
    refine ⟨p, xs, rfl, SqT.of hp4, fun hw => ?_, fun _ l hl => ?_⟩
    · refine k _ _ ((e2.trans e3).trans e4) ⟨p, rfl, ?_⟩
      rw [sIx_whole _ lo hi xs rfl hw]
      exact hp4
    · exact k _ _ (((e2.trans e3).trans e4).trans (Ex.new hl)) ⟨l, rfl, upd_same⟩
theorem evG_tup {ta : TA} {vs : List V} (h : EvA ta σ H vs) (hl : vs.length ≤ 100000) : EvG (tTup ta) σ H (IsT vs) := evG_U (eu_tup h hl)
theorem evG_lst {ta : TA} {vs : List V} (h : EvA ta σ H vs) (hl : vs.length ≤ 100000) : EvG (tLst ta) σ H (IsL vs) := evG_L (el_lst h hl)
/-- xs + ys, lists -/
theorem evG_catL {xs ys : List V} (h1 : EvG ta σ H (IsL xs)) (h2 : EvG tb σ H (IsL ys)) (hz : xs.length + ys.length ≤ 100000) : EvG (tOp rCat ta tb) σ H (IsL (xs ++ ys)) :=
  ev_opG h1 (fun v H1 e _ => h2.mono e) fun x y H1 H2 e1 ⟨p, ex, hp⟩ e2 ⟨q, ey, hq⟩ Q k => by
    subst ex ey
    exact ⟨p, q, xs, ys, rfl, rfl, e2 p _ hp, hq, sz_of hz, fun l hl => k _ _ (Ex.new hl) ⟨l, rfl, upd_same⟩⟩
theorem evG_rep {xs : List V} {n : Int} (h1 : EvG ta σ H (IsL xs)) (h2 : Ev tb σ H (.int n)) (hn : 0 ≤ n ∧ n ≤ 1000) (hz : xs.length * n.toNat ≤ 100000) : EvG (tOp rRep ta tb) σ H (IsL ((List.replicate n.toNat xs).flatten)) :=
  ev_opG h1 (fun v H1 e _ => (evG_of h2).mono e) fun x y H1 H2 e1 ⟨p, ex, hp⟩ e2 ey Q k => by
    subst ex ey
    exact ⟨p, n, xs, rfl, rfl, e2 p _ hp, by omega, by omega, sz_of hz, fun l hl => k _ _ (Ex.new hl) ⟨l, rfl, upd_same⟩⟩
theorem evG_rev {xs : List V} (h : EvG te σ H (IsL xs)) : EvG (tRevL K te) σ H (IsL xs.reverse) := fun H1 e Q k =>
  h H1 e _ fun x H2 e2 ⟨p, ex, hp⟩ => ⟨p, xs, ex, SqL.of hp, fun l hl => k _ _ (e2.trans (Ex.new hl)) ⟨l, rfl, upd_same⟩⟩
theorem ev_ixL {xs : List V} {i : Int} (h1 : EvG ta σ H (IsL xs)) (h2 : Ev tb σ H (.int i)) (ha : atI xs i = some v) : Ev (tOp (rIxL K) ta tb) σ H v :=
  ev_ofG (ev_opG h1 (fun v H1 e _ => (evG_of h2).mono e) fun x y H1 H2 e1 ⟨p, ex, hp⟩ e2 ey Q k => ⟨p, xs, i, v, ex, ey, SqL.of (e2 p _ hp), ha, k _ _ (Ex.refl _) rfl⟩)
theorem ev_ixT {xs : List V} {i : Int} (h1 : EvG ta σ H (IsT xs)) (h2 : Ev tb σ H (.int i)) (ha : atI xs i = some v) : Ev (tOp (rIxT K) ta tb) σ H v :=
  ev_ofG (ev_opG h1 (fun v H1 e _ => (evG_of h2).mono e) fun x y H1 H2 e1 ⟨p, ex, hp⟩ e2 ey Q k => ⟨p, xs, i, v, ex, ey, SqT.of (e2 p _ hp), ha, k _ _ (Ex.refl _) rfl⟩)
theorem ev_ltT {ns ms : List Int} (h1 : EvG ta σ H (IsT (ns.map V.int))) (h2 : EvG tb σ H (IsT (ms.map V.int))) : Ev (tOp (rLtT K) ta tb) σ H (.bl (HT.lexLt ns ms)) :=
  ev_ofG (ev_opG h1 (fun v H1 e _ => h2.mono e) fun x y H1 H2 e1 ⟨p, ex, hp⟩ e2 ⟨q, ey, hq⟩ Q k => ⟨p, q, ns, ms, ex, ey, SqT.of (e2 p _ hp), SqT.of hq, k _ _ (Ex.refl _) rfl⟩)
theorem dpInts {ns : List Int} : DpAll K H (ns.map V.int) (ns.map PyData.int) := by
  induction ns with
  | nil => exact .nil
  | cons n r ih => exact .cons (.int n) ih
/-! isinstance -/
theorem ev_isi {a b : String} {q : Bool} (ha : Ev ta σ H x) (hc : Ev tb σ H (.ty b)) (ty : ∀ H', Ex H H' → TyX K H' x (.type a)) (e : kitB a b = some q) : Ev (tCB (rIsi K) (tCons ta (tCons tb tNil))) σ H (.bl q) :=
  ev_cb (ea_cons ha (ea_cons hc ea_nil)) fun H1 e1 _ k => ⟨x, .ty b, .type a, .type b, q, rfl, .ty b, ty H1 e1, kit_ty e, k H1 (Ex.refl H1)⟩

/-! ### statements, general -/
variable {D : Ends} {tu tw tz : TS} {g : TG}
theorem s_asgG {k : Nat} (h : EvG te σ H Po) (q : ∀ v H1, Ex H H1 → Po v H1 → D.nx (σ.set k (some v)) H1) : tAsg te (gName k) D σ H := h H (Ex.refl H) _ fun v H1 e p => q v H1 e p
theorem q_asgG {k : Nat} (h : EvG te σ H Po) (q : ∀ v H1, Ex H H1 → Po v H1 → tz D (σ.set k (some v)) H1) : tSeq (tAsg te (gName k)) tz D σ H := s_asgG (D := { D with nx := tz D }) h q
theorem s_retG (h : EvG te σ H Po) (q : ∀ v H1, Ex H H1 → Po v H1 → D.rt v H1) : tRet te D σ H := h H (Ex.refl H) _ q
theorem s_dropG (h : EvG te σ H Po) (q : ∀ v H1, Ex H H1 → Po v H1 → D.nx σ H1) : tDrop te D σ H := h H (Ex.refl H) _ q
theorem q_dropG (h : EvG te σ H Po) (q : ∀ v H1, Ex H H1 → Po v H1 → tz D σ H1) : tSeq (tDrop te) tz D σ H := s_dropG (D := { D with nx := tz D }) h q
/-- if not (what holds): never -/
theorem q_pass {b : Bool} (h : EvT t σ H b) (hb : b = false) (h2 : ∀ H1, Ex H H1 → tz D σ H1) : tSeq (tIfS t tu tNext) tz D σ H :=
  q_when h (fun e => by rw [hb] at e; cases e) fun _ H1 e => h2 H1 e
theorem s_pass {b : Bool} (h : EvT t σ H b) (hb : b = false) (h2 : ∀ H1, Ex H H1 → D.nx σ H1) : tIfS t tu tNext D σ H :=
  s_when h (fun e => by rw [hb] at e; cases e) fun _ H1 e => h2 H1 e
/-- a loop over a tuple that a call gives; the invariant speaks of slots and heap -/
theorem s_forTG {xs : List V} {tl : TE} (h : EvG tl σ H (IsT xs)) (Pv : Nat → L2.St → Hp → Prop) (h0 : ∀ H1, Ex H H1 → Pv 0 σ H1)
    (hs : ∀ i x σ' H', xs[i]? = some x → Pv i σ' H' → ∀ N : L2.St → Hp → Prop, (∀ σ2 H2, Ex H' H2 → Pv (i + 1) σ2 H2 → N σ2 H2) → g x σ' H' fun σ2 H2 => tu { D with nx := N, ct := N, bk := D.nx } σ2 H2) (hd : ∀ σ' H', Pv xs.length σ' H' → D.nx σ' H') : tFor (iTup K tl) g tu D σ H :=
  h H (Ex.refl H) _ fun v H1 e ⟨p, ev, hp⟩ => ⟨p, ev, ⟨xs, SqT.of hp⟩, for_tup (fun i σ' H' => Pv i σ' H' ∧ Ex H1 H') ⟨h0 H1 e, Ex.refl _⟩ (fun i σ' H' _ q => SqT.of (q.2 p _ hp)) (fun i x σ' H' hi q => hs i x σ' H' hi q.1 _ fun σ2 H2 e2 p2 => ⟨p2, q.2.trans e2⟩) fun σ' H' q => hd σ' H' q.1⟩
/-- the same, the invariant of the slots alone: nothing elder changes -/
theorem s_forTE {xs : List V} {tl : TE} {j : Nat} (h : EvG tl σ H (IsT xs)) (Iv : Nat → L2.St → Prop) (h0 : Iv 0 σ)
    (hs : ∀ i x σ' H', Ex H H' → xs[i]? = some x → Iv i σ' → ∀ N : L2.St → Hp → Prop, (∀ σ2 H2, Ex H' H2 → Iv (i + 1) σ2 → N σ2 H2) → tu { D with nx := N, ct := N, bk := D.nx } (σ'.set j (some x)) H') (hd : ∀ σ' H', Ex H H' → Iv xs.length σ' → D.nx σ' H') : tFor (iTup K tl) (gName j) tu D σ H :=
  h H (Ex.refl H) _ fun v H1 e ⟨p, ev, hp⟩ => ⟨p, ev, ⟨xs, SqT.of hp⟩, for_tup (fun i σ' H' => Iv i σ' ∧ Ex H1 H') ⟨h0, Ex.refl _⟩ (fun i σ' H' _ q => SqT.of (q.2 p _ hp)) (fun i x σ' H' hi q => hs i x σ' H' (e.trans q.2) hi q.1 _ fun σ2 H2 e2 p2 => ⟨p2, q.2.trans e2⟩) fun σ' H' q => hd σ' H' (e.trans q.2) q.1⟩
theorem q_forTE {xs : List V} {tl : TE} {j : Nat} (h : EvG tl σ H (IsT xs)) (Iv : Nat → L2.St → Prop) (h0 : Iv 0 σ)
    (hs : ∀ i x σ' H', Ex H H' → xs[i]? = some x → Iv i σ' → ∀ N : L2.St → Hp → Prop, (∀ σ2 H2, Ex H' H2 → Iv (i + 1) σ2 → N σ2 H2) → tu { D with nx := N, ct := N, bk := tz D } (σ'.set j (some x)) H') (hd : ∀ σ' H', Ex H H' → Iv xs.length σ' → tz D σ' H') : tSeq (tFor (iTup K tl) (gName j) tu) tz D σ H :=
  s_forTE (D := { D with nx := tz D }) h Iv h0 hs hd
/-- over a new list -/
theorem s_forLE {xs : List V} {tl : TE} {j : Nat} (h : EvG tl σ H (IsL xs)) (Iv : Nat → L2.St → Prop) (h0 : Iv 0 σ)
    (hs : ∀ i x σ' H', Ex H H' → xs[i]? = some x → Iv i σ' → ∀ N : L2.St → Hp → Prop, (∀ σ2 H2, Ex H' H2 → Iv (i + 1) σ2 → N σ2 H2) → tu { D with nx := N, ct := N, bk := D.nx } (σ'.set j (some x)) H') (hd : ∀ σ' H', Ex H H' → Iv xs.length σ' → D.nx σ' H') : tFor (iList K tl) (gName j) tu D σ H :=
  h H (Ex.refl H) _ fun v H1 e ⟨p, ev, hp⟩ => ⟨p, ev, ⟨xs, SqL.of hp⟩, for_list (fun i σ' H' => Iv i σ' ∧ Ex H1 H') ⟨h0, Ex.refl _⟩ (fun i σ' H' _ q => SqL.of (q.2 p _ hp)) (fun i x σ' H' hi q => hs i x σ' H' (e.trans q.2) hi q.1 _ fun σ2 H2 e2 p2 => ⟨p2, q.2.trans e2⟩) fun σ' H' q => hd σ' H' (e.trans q.2) q.1⟩
/-- for j in range(n) -/
theorem s_forRE {ta : TA} {j : Nat} {n : Int} (h : EvA ta σ H [.int n]) (hn : 0 ≤ n ∧ n ≤ 100000) (Iv : Nat → L2.St → Prop) (h0 : Iv 0 σ)
    (hs : ∀ (i : Nat) σ' H', Ex H H' → (i : Int) < n → Iv i σ' → ∀ N : L2.St → Hp → Prop, (∀ σ2 H2, Ex H' H2 → Iv (i + 1) σ2 → N σ2 H2) → tu { D with nx := N, ct := N, bk := D.nx } (σ'.set j (some (.int (i : Int)))) H') (hd : ∀ σ' H', Ex H H' → Iv n.toNat σ' → D.nx σ' H') : tFor (iRng1 ta) (gName j) tu D σ H :=
  s_forR1 h hn (fun i σ' H' => Iv i σ' ∧ Ex H H') (fun H1 e => ⟨h0, e⟩) (fun i σ' H' hi q => hs i σ' H' q.2 hi q.1 _ fun σ2 H2 e2 p2 => ⟨p2, q.2.trans e2⟩) fun σ' H' q => hd σ' H' q.2 q.1
theorem q_forRE {ta : TA} {j : Nat} {n : Int} (h : EvA ta σ H [.int n]) (hn : 0 ≤ n ∧ n ≤ 100000) (Iv : Nat → L2.St → Prop) (h0 : Iv 0 σ)
    (hs : ∀ (i : Nat) σ' H', Ex H H' → (i : Int) < n → Iv i σ' → ∀ N : L2.St → Hp → Prop, (∀ σ2 H2, Ex H' H2 → Iv (i + 1) σ2 → N σ2 H2) → tu { D with nx := N, ct := N, bk := tz D } (σ'.set j (some (.int (i : Int)))) H') (hd : ∀ σ' H', Ex H H' → Iv n.toNat σ' → tz D σ' H') : tSeq (tFor (iRng1 ta) (gName j) tu) tz D σ H :=
  s_forRE (D := { D with nx := tz D }) h hn Iv h0 hs hd
/-- for j in range(lo, n) -/
theorem s_forR2E {ta : TA} {j : Nat} {lo n : Int} (h : EvA ta σ H [.int lo, .int n]) (hn : 0 ≤ lo ∧ lo ≤ 100000 ∧ -100000 ≤ n ∧ n ≤ 100000) (Iv : Nat → L2.St → Prop) (h0 : Iv 0 σ)
    (hs : ∀ (i : Nat) σ' H', Ex H H' → lo + (i : Int) < n → Iv i σ' → ∀ N : L2.St → Hp → Prop, (∀ σ2 H2, Ex H' H2 → Iv (i + 1) σ2 → N σ2 H2) → tu { D with nx := N, ct := N, bk := D.nx } (σ'.set j (some (.int (lo + (i : Int))))) H') (hd : ∀ σ' H', Ex H H' → Iv (n - lo).toNat σ' → D.nx σ' H') : tFor (iRng2 ta) (gName j) tu D σ H :=
  s_forR2 h hn (fun i σ' H' => Iv i σ' ∧ Ex H H') (fun H1 e => ⟨h0, e⟩) (fun i σ' H' hi q => hs i σ' H' q.2 hi q.1 _ fun σ2 H2 e2 p2 => ⟨p2, q.2.trans e2⟩) fun σ' H' q => hd σ' H' q.2 q.1
theorem q_forR2E {ta : TA} {j : Nat} {lo n : Int} (h : EvA ta σ H [.int lo, .int n]) (hn : 0 ≤ lo ∧ lo ≤ 100000 ∧ -100000 ≤ n ∧ n ≤ 100000) (Iv : Nat → L2.St → Prop) (h0 : Iv 0 σ)
    (hs : ∀ (i : Nat) σ' H', Ex H H' → lo + (i : Int) < n → Iv i σ' → ∀ N : L2.St → Hp → Prop, (∀ σ2 H2, Ex H' H2 → Iv (i + 1) σ2 → N σ2 H2) → tu { D with nx := N, ct := N, bk := tz D } (σ'.set j (some (.int (lo + (i : Int))))) H') (hd : ∀ σ' H', Ex H H' → Iv (n - lo).toNat σ' → tz D σ' H') : tSeq (tFor (iRng2 ta) (gName j) tu) tz D σ H :=
  s_forR2E (D := { D with nx := tz D }) h hn Iv h0 hs hd
/-- while, the invariant of the slots alone -/
theorem q_whileE (W : Nat → L2.St → Prop) (m0 : Nat) (h0 : W m0 σ)
    (hs : ∀ m σ' H', Ex H H' → W m σ' → ∃ b, EvT t σ' H' b ∧ (b = true → ∀ H1, Ex H' H1 → ∀ N : L2.St → Hp → Prop, (∀ m' σ2 H2, Ex H1 H2 → m' < m → W m' σ2 → N σ2 H2) → tu { D with nx := N, ct := N, bk := tz D } σ' H1) ∧ (b = false → ∀ H1, Ex H' H1 → tz D σ' H1)) : tSeq (tWhile t tu) tz D σ H :=
  q_while (fun m σ' H' => W m σ' ∧ Ex H H') m0 ⟨h0, Ex.refl _⟩ fun m σ' H' q => by
    obtain ⟨b, hb, h1, h2⟩ := hs m σ' H' q.2 q.1
    exact ⟨b, hb, fun e H1 e1 => ⟨fun σ2 H2 => ∃ m', m' < m ∧ W m' σ2 ∧ Ex H H2, fun σ2 H2 ⟨m', a, b', c⟩ => ⟨m', a, b', c⟩, h1 e H1 e1 _ fun m' σ2 H2 e2 lt w => ⟨m', lt, w, (q.2.trans e1).trans e2⟩⟩, h2⟩
/-- for i, x in enumerate(a tuple) -/
theorem for_enumT {a : Addr} {xs : List V} {j k : Nat} (Iv : Nat → L2.St → Prop) {H1 : Hp} (hp : H1 a = some (.tup xs)) (h0 : Iv 0 σ)
    (hs : ∀ i x σ' H', Ex H1 H' → xs[i]? = some x → Iv i σ' → ∀ N : L2.St → Hp → Prop, (∀ σ2 H2, Ex H' H2 → Iv (i + 1) σ2 → N σ2 H2) → tu { D with nx := N, ct := N, bk := D.nx } ((σ'.set j (some (.int (i : Nat)))).set k (some x)) H') (hd : ∀ σ' H', Ex H1 H' → Iv xs.length σ' → D.nx σ' H') :
    ∃ W : Nat → Nat → L2.St → Hp → Prop, (∃ m, W 0 m σ H1) ∧ ∀ i m σ H, W i m σ H →
      ((IteT K a).stop i H ∧ D.nx σ H) ∨ ((IteT K a).go i H ∧ ∃ N : L2.St → Hp → Prop, (∀ σ' H', N σ' H' → ∃ m', m' < m ∧ W (i + 1) m' σ' H') ∧ ∀ x H', (IteT K a).yld i H x H' → gTup K 2 (gCons (gName j) (gCons (gName k) gNil)) x σ H' fun σ2 H2 => tu { D with nx := N, ct := N, bk := D.nx } σ2 H2) := by
  refine ⟨fun i m σ H => m = xs.length - i ∧ i ≤ xs.length ∧ Iv i σ ∧ Ex H1 H, ⟨xs.length, by simp, Nat.zero_le _, h0, Ex.refl _⟩, ?_⟩
  rintro i m σ H ⟨rfl, hi, p, e⟩
  have q : SqT K H a xs := SqT.of (e a _ hp)
  by_cases hlt : i < xs.length
  · refine .inr ⟨⟨xs, xs[i], q, by simp [hlt]⟩, fun σ2 H2 => Iv (i + 1) σ2 ∧ Ex H1 H2, fun σ' H' p' => ⟨xs.length - (i + 1), by omega, rfl, hlt, p'.1, p'.2⟩, fun x H' y => ?_⟩
    obtain ⟨T, z, ev, hT, eH, hx⟩ := y
    subst ev eH
    have e2 : Ex H (upd H T (.tup [.int (i : Nat), z])) := Ex.new hT
    exact ⟨T, _, rfl, SqT.of upd_same, rfl, _, _, rfl, _, _, rfl, rfl, hs i z σ _ (e.trans e2) (hx xs q) p _ fun σ2 H2 e3 p2 => ⟨p2, (e.trans e2).trans e3⟩⟩
  · have ei : i = xs.length := by omega
    subst ei
    exact .inl ⟨⟨xs, q, rfl⟩, hd σ H e p⟩
theorem s_forENE {xs : List V} {j k : Nat} (h : EvG ta σ H (IsT xs)) (Iv : Nat → L2.St → Prop) (h0 : Iv 0 σ)
    (hs : ∀ i x σ' H', Ex H H' → xs[i]? = some x → Iv i σ' → ∀ N : L2.St → Hp → Prop, (∀ σ2 H2, Ex H' H2 → Iv (i + 1) σ2 → N σ2 H2) → tu { D with nx := N, ct := N, bk := D.nx } ((σ'.set j (some (.int (i : Nat)))).set k (some x)) H') (hd : ∀ σ' H', Ex H H' → Iv xs.length σ' → D.nx σ' H') :
    tFor (iEnumT K (tCons ta tNil)) (gTup K 2 (gCons (gName j) (gCons (gName k) gNil))) tu D σ H :=
  h H (Ex.refl H) _ fun v H1 e ⟨p, ev, hp⟩ => ⟨p, xs, by rw [ev], SqT.of hp, for_enumT Iv hp h0 (fun i x σ' H' e' hx p' N hN => hs i x σ' H' (e.trans e') hx p' N hN) fun σ' H' e' p' => hd σ' H' (e.trans e') p'⟩
theorem q_forENE {xs : List V} {j k : Nat} (h : EvG ta σ H (IsT xs)) (Iv : Nat → L2.St → Prop) (h0 : Iv 0 σ)
    (hs : ∀ i x σ' H', Ex H H' → xs[i]? = some x → Iv i σ' → ∀ N : L2.St → Hp → Prop, (∀ σ2 H2, Ex H' H2 → Iv (i + 1) σ2 → N σ2 H2) → tu { D with nx := N, ct := N, bk := tz D } ((σ'.set j (some (.int (i : Nat)))).set k (some x)) H') (hd : ∀ σ' H', Ex H H' → Iv xs.length σ' → tz D σ' H') :
    tSeq (tFor (iEnumT K (tCons ta tNil)) (gTup K 2 (gCons (gName j) (gCons (gName k) gNil))) tu) tz D σ H := s_forENE (D := { D with nx := tz D }) h Iv h0 hs hd
/-- a, b = e1, e2 -/
theorem q_par {k l : Nat} {ta : TA} {x y : V} (h : EvA ta σ H [x, y]) (q : ∀ H1, Ex H H1 → tz D ((σ.set k (some x)).set l (some y)) H1) : tSeq (tPar k l ta) tz D σ H := h H (Ex.refl H) _ fun H1 e => ⟨x, y, rfl, q H1 e⟩
theorem s_par {k l : Nat} {ta : TA} {x y : V} (h : EvA ta σ H [x, y]) (q : ∀ H1, Ex H H1 → D.nx ((σ.set k (some x)).set l (some y)) H1) : tPar k l ta D σ H := h H (Ex.refl H) _ fun H1 e => ⟨x, y, rfl, q H1 e⟩
end
end K47

set_option maxHeartbeats 4000000
namespace K47
open PySem PySem.Spec PyProof.Rows L2 Evl
def topS (i : Nat) : Stmt := PySem.Challenge.pw_lostplaces_k47_whole_rings_and_members_o.main.body.getD i (.Pass ⟨0, 0, 0, 0⟩)
/-- the built-ins' names are not taken; the constants -/
structure Txt (mg : Str → Option Value) : Prop where
  len_ : mg "len" = none
  isinstance_ : mg "isinstance" = none
  int_ : mg "int" = none
  bool_ : mg "bool" = none
  list_ : mg "list" = none
  tuple_ : mg "tuple" = none
  range_ : mg "range" = none
  min_ : mg "min" = none
  sum_ : mg "sum" = none
  enumerate_ : mg "enumerate" = none
  abs_ : mg "abs" = none
  MOST_DIVIDED : ∃ t, mg "MOST_DIVIDED" = some (.int 2000 t)
  MOST_RING : ∃ t, mg "MOST_RING" = some (.int 10 t)
  MOST_SINGLE : ∃ t, mg "MOST_SINGLE" = some (.int 201 t)
  MOST_SIZED : ∃ t, mg "MOST_SIZED" = some (.int 200 t)
  MOST_LENGTH : ∃ t, mg "MOST_LENGTH" = some (.int 200 t)
  MOST_MODULUS : ∃ t, mg "MOST_MODULUS" = some (.int 1000000 t)
  MOST_WALKED : ∃ t, mg "MOST_WALKED" = some (.int 14 t)
theorem pe_gint {X : Cx} {x : Str} {i : Int} {pos : Pos} (h : ∃ t, X.mg x = some (.int i t)) (hg : Gl X x) (hd : (x == ("__debug__" : Str)) = false := by decide) : PE X (.Name x pos) (tC (.int i)) := by
  obtain ⟨t, h⟩ := h
  exact pe_glob hg h ⟨t, rfl⟩ hd
/-- a def that has defaults, and lets nothing out -/
theorem FunD_ok {P : Program} {w : World} {K : PySem.W.Frag} {mg : Str → Option Value} {base : Heap} {x qual : Str} {params : Arguments} {body : List Stmt} {scope : Scope} {dvs : List V} {kws : List (Str × V)} {f : Addr} {fd : FuncData} {N ps : List Str} {k : Nat} {sp : Sp}
    (F : FunD K x qual params body scope dvs kws f fd) (S : FnScope N ps scope) (len : ∀ vs H Q E, sp vs H Q E → vs.length = ps.length)
    (hbody : ∀ (cdv : Value) (A : Around) (outer : List Env) (s : Shared) (H : Hp) (vs : List V) (Q : VK) (E : XK), Room k (A.deeper (envOfC qual scope s.heap.objs.size f cdv)) → sp vs H Q E →
      ∃ t, PSs (cxOf CX0 P w K mg base N qual scope f cdv A outer s H E).nox body t ∧ t { nx := fun _ H' => Q .non H', rt := Q } (start N vs) H) : FnOk P w K mg base CX0 (k + 1) f fd ps sp :=
  F.ok S len fun cdv A outer s H vs Q E hr hsp => by
    obtain ⟨t, h, q⟩ := hbody cdv A outer s H vs Q E hr hsp
    exact ⟨t, h.nox, q⟩
theorem isi_int_int : kitB "int" "int" = some true := by decide +kernel
theorem isi_int_bool : kitB "int" "bool" = some false := by decide +kernel
theorem tyx_int {K : PySem.W.Frag} {i : Int} {H : Hp} : ∀ H', Ex H H' → TyX K H' (.int i) (.type "int") := fun _ _ => .base (.int i)
local macro_rules | `(tactic| walk_at "evs") => `(tactic| first | assumption | omega | decide | exact ⟨by omega, by omega⟩ | exact Or.inl ⟨by omega, by omega⟩ | exact Or.inr ⟨by omega, by omega⟩)
local macro_rules | `(tactic| walk_at "ev") => `(tactic| first
  | with_reducible exact ev_c
  | ((with_reducible apply ev_var); rfl)
  | ((with_reducible apply ev_add) <;> walk_at "ev")
  | ((with_reducible apply ev_sub) <;> walk_at "ev")
  | ((with_reducible apply ev_neg) <;> walk_at "ev")
  | ((with_reducible apply ev_int1) <;> walk_at "ev")
  | ((with_reducible apply ev_mod); (· walk_at "ev"); (· walk_at "ev"); (· walk_at "evs"))
  | ((with_reducible apply ev_div); (· walk_at "ev"); (· walk_at "ev"); (· walk_at "evs"))
  | ((with_reducible apply ev_mul); (· walk_at "ev"); (· walk_at "ev"); (· walk_at "evs"))
  | ((with_reducible apply ev_lt) <;> walk_at "ev")
  | ((with_reducible apply ev_le) <;> walk_at "ev")
  | ((with_reducible apply ev_gt) <;> walk_at "ev")
  | ((with_reducible apply ev_ge) <;> walk_at "ev")
  | ((with_reducible apply ev_eq) <;> walk_at "ev")
  | ((with_reducible apply ev_ne) <;> walk_at "ev")
  | ((with_reducible apply ev_min2) <;> walk_at "ev")
  | (apply ev_isi (a := "int") (ty := tyx_int) (e := isi_int_int) <;> walk_at "ev")
  | (apply ev_isi (a := "int") (ty := tyx_int) (e := isi_int_bool) <;> walk_at "ev"))
local macro_rules | `(tactic| walk_at "et") => `(tactic| first
  | ((with_reducible apply et_test); walk_at "ev")
  | ((with_reducible apply et_B); walk_at "ev")
  | ((with_reducible apply et_not); walk_at "et"))
local macro_rules | `(tactic| walk_at "ea") => `(tactic| first
  | with_reducible exact ea_nil
  | ((with_reducible apply ea_cons); (· walk_at "ev"); (· walk_at "ea")))

section
variable {P : Program} {w : World} {K : PySem.W.Frag} {mg : Str → Option Value} {base : Heap}

/-! ### is_whole -/
abbrev s_is_whole : Stmt := topS 10
abbrev n_is_whole : List Str := ["thing", "low", "high"]
abbrev p_is_whole : List Str := ["thing", "low", "high"]
theorem sc_is_whole : FnScope n_is_whole p_is_whole (defScope s_is_whole) := ⟨rfl, rfl, rfl, by decide +kernel, rfl, by decide +kernel, by decide +kernel⟩
def sp_is_whole : Sp := fun vs H Q _ => ∃ a lo hi : Int, vs = [.int a, .int lo, .int hi] ∧ RetV (.bl (decide (lo ≤ a ∧ a ≤ hi))) H Q
theorem ok_is_whole {f : Addr} {fd : FuncData} (F : FunD K "is_whole" "is_whole" (defArgs s_is_whole) (defBody s_is_whole) (defScope s_is_whole) [.non, .non] [] f fd) (T : Txt mg) : FnOk P w K mg base CX0 1 f fd p_is_whole sp_is_whole := by
  refine FunD_ok F sc_is_whole (fun vs H Q E h => ?_) (fun cdv A outer s H vs Q E hr h => ?_)
  · obtain ⟨a, lo, hi, rfl, _⟩ := h
    rfl
  · obtain ⟨a, lo, hi, rfl, k⟩ := h
    refine ⟨_, (pss_cons (ps_if (PW.pt (pw_or (pt_not (pt_val (pe_callB (cr_isiK (K := K) rfl) (by rfl) T.isinstance_ boot_isinstance (pa_cons (pv 0) (pa_cons (pe_bltn (by rfl) T.int_ (by decide +kernel) (show RelV (.ty "int") _ from rfl)) pa_nil))))) (pw_or1 (pt_val (pe_callB (cr_isiK (K := K) rfl) (by rfl) T.isinstance_ boot_isinstance (pa_cons (pv 0) (pa_cons (pe_bltn (by rfl) T.bool_ (by decide +kernel) (show RelV (.ty "bool") _ from rfl)) pa_nil)))))))
      (pss_one (ps_ret pe_bl))
      pss_nil)
      (pss_cons (ps_if (PW.pt (pw_and (pt_cmpR op_notN (pv 1) pe_non (nomark _)) (pw_and1 (pt_cmpR op_lt (pv 0) (pv 1) (nomark _)))))
      (pss_one (ps_ret pe_bl))
      pss_nil)
      (pss_one (ps_ret (pe_or (pe_cmpR op_isN (pv 2) pe_non (nomark _)) (pe_one (pe_cmpR op_le (pv 0) (pv 2) (nomark _)))))))), ?_⟩
    refine q_pass (b := false) (et_or (a := false) (b := false) (et_not (a := true) (by walk_at "et")) fun _ => (by walk_at "et")) rfl fun H1 e1 => ?_
    have t1 : ∀ H2, EvT (tAnd (tTest (tOp (fun x y H Q => y = V.non ∧ Q (V.bl !decide (x = V.non)) H) (tVar 1) (tC V.non))) (tTest (tOp (rI0 fun i j => V.bl (decide (i < j))) (tVar 0) (tVar 1)))) (L2.start n_is_whole [V.int a, V.int lo, V.int hi]) H2 (decide (a < lo)) := fun H2 =>
      et_is (et_and (a := true) (et_is (et_test (ev_notN (x := .int lo) (ev_var rfl))) (by simp)) fun _ => et_test (ev_lt (ev_var rfl) (ev_var rfl))) (by simp)
    refine q_when (t1 H1) (fun hb H2 e2 => ?_) fun hb H2 e2 => ?_
    · refine s_ret ev_c fun H3 e3 => ?_
      have hb := of_decide_eq_true hb
      have e : decide (lo ≤ a ∧ a ≤ hi) = false := decide_eq_false (by omega)
      rw [e] at k
      exact k H3 ((e1.trans e2).trans e3)
    · have hb := of_decide_eq_false hb
      refine s_ret (ev_is (ev_orV (a := false) (ev_is (ev_isN (x := .int hi) (ev_var rfl)) (by simp)) fun _ => ev_le (ev_var rfl) (ev_var rfl)) rfl) fun H3 e3 => ?_
      have e : decide (lo ≤ a ∧ a ≤ hi) = (false || decide (a ≤ hi)) := by
        rw [Bool.false_or]
        exact decide_eq_decide.mpr (by omega)
      rw [e] at k
      exact k H3 ((e1.trans e2).trans e3)
theorem sv_is_whole {a lo hi : Int} {H : Hp} {b : Bool} (h : decide (lo ≤ a ∧ a ≤ hi) = b) : SpV sp_is_whole ([.int a, .int lo, .int hi] ++ []) H (.bl b) := fun H1 _ Q q E => ⟨a, lo, hi, rfl, fun H2 e2 => by rw [h]; exact q H2 e2⟩
abbrev C_is_whole (P : Program) (w : World) (K : PySem.W.Frag) (mg : Str → Option Value) (base : Heap) := Cal P w K mg base 1 "is_whole" p_is_whole [] sp_is_whole

/-! ### check_number -/
abbrev s_check_number : Stmt := topS 11
abbrev n_check_number : List Str := ["thing", "low", "high"]
abbrev p_check_number : List Str := ["thing", "low", "high"]
theorem sc_check_number : FnScope n_check_number p_check_number (defScope s_check_number) := ⟨rfl, rfl, rfl, by decide +kernel, rfl, by decide +kernel, by decide +kernel⟩
def sp_check_number : Sp := fun vs H Q _ => ∃ a lo hi : Int, vs = [.int a, .int lo, .int hi] ∧ lo ≤ a ∧ a ≤ hi ∧ RetV (.int a) H Q
theorem ok_check_number {f : Addr} {fd : FuncData} (F : Fun K "check_number" "check_number" s_check_number f fd) (T : Txt mg) (c_is_whole : C_is_whole P w K mg base) : FnOk P w K mg base CX0 2 f fd p_check_number sp_check_number := by
  refine F.ok sc_check_number (fun vs H Q E h => ?_) (fun cdv A outer s H vs Q E hr h => ?_)
  · obtain ⟨a, lo, hi, rfl, _⟩ := h
    rfl
  · obtain ⟨a, lo, hi, rfl, h1, h2, k⟩ := h
    refine ⟨_, (pss_cons (ps_if (pt_not (pt_val (pe_c c_is_whole hr (by rfl) (pa_cons (pv 0) (pa_cons (pv 1) (pa_cons (pv 2) pa_nil))))))
      (pss_one ps_never)
      pss_nil)
      (pss_one (ps_ret (pv 0)))), ?_⟩
    refine q_pass (b := false) (et_not (a := true) (et_B (ev_call (by walk_at "ea") (sv_is_whole (decide_eq_true ⟨h1, h2⟩))))) rfl fun H1 e1 => ?_
    exact s_ret (ev_var rfl) fun H3 e3 => k H3 (e1.trans e3)
theorem sv_check_number {a lo hi : Int} {H : Hp} (h1 : lo ≤ a) (h2 : a ≤ hi) : SpV sp_check_number ([.int a, .int lo, .int hi] ++ []) H (.int a) := fun H1 _ Q q E => ⟨a, lo, hi, rfl, h1, h2, fun H2 e2 => q H2 e2⟩
abbrev C_check_number (P : Program) (w : World) (K : PySem.W.Frag) (mg : Str → Option Value) (base : Heap) := Cal P w K mg base 2 "check_number" p_check_number [] sp_check_number

/-! ### power_of -/
abbrev s_power_of : Stmt := topS 12
abbrev n_power_of : List Str := ["base", "exponent", "total", "step"]
abbrev p_power_of : List Str := ["base", "exponent"]
theorem sc_power_of : FnScope n_power_of p_power_of (defScope s_power_of) := ⟨rfl, rfl, rfl, by decide +kernel, rfl, by decide +kernel, by decide +kernel⟩
def sp_power_of : Sp := fun vs H Q _ => ∃ (b : Int) (e : Nat), vs = [.int b, .int (e : Int)] ∧ (-1000 ≤ b ∧ b ≤ 1000) ∧ e ≤ 1000 ∧ RetV (.int (b ^ e)) H Q
theorem ok_power_of {f : Addr} {fd : FuncData} (F : Fun K "power_of" "power_of" s_power_of f fd) (T : Txt mg) : FnOk P w K mg base CX0 1 f fd p_power_of sp_power_of := by
  refine F.ok sc_power_of (fun vs H Q E h => ?_) (fun cdv A outer s H vs Q E hr h => ?_)
  · obtain ⟨b, e, rfl, _⟩ := h
    rfl
  · obtain ⟨b, e, rfl, hb, he, k⟩ := h
    refine ⟨_, (pss_cons (ps_set (i := 2) sc_power_of.nd rfl (by first | exact Or.inl rfl | exact Or.inr rfl) pe_int)
      (pss_cons (ps_for PassesOwn.never rfl (pi_range1 (by rfl) T.range_ (pa_cons (pv 1) pa_nil)) (pg_name (i := 3) sc_power_of.nd rfl (by first | exact Or.inl rfl | exact Or.inr rfl))
      (pss_one (ps_set (i := 2) sc_power_of.nd rfl (by first | exact Or.inl rfl | exact Or.inr rfl) (pe_op op_mul (pv 2) (pv 0)))))
      (pss_one (ps_ret (pv 2))))), ?_⟩
    refine q_asg ev_c fun H1 e1 => ?_
    refine q_forRE (n := (e : Int)) (by walk_at "ea") ⟨by omega, by omega⟩ (fun i σ' => ∃ st, σ' = [some (.int b), some (.int (e : Int)), some (.int (b ^ i)), st]) ⟨none, by rw [Int.pow_zero]; rfl⟩ ?_ ?_
    · rintro i σ' H' e' hi ⟨st, rfl⟩ N hN
      refine s_asg (v := .int (b ^ i * b)) (by walk_at "ev") fun H2 e2 => hN _ H2 e2 ⟨some (.int i), ?_⟩
      rw [Int.pow_succ]
      rfl
    · rintro σ' H' e' ⟨st, rfl⟩
      exact s_ret (ev_var rfl) fun H3 e3 => k H3 ((e1.trans e').trans e3)
theorem sv_power_of {b : Int} {e : Nat} {H : Hp} {z : Int} (h1 : -1000 ≤ b ∧ b ≤ 1000) (h2 : e ≤ 1000) (hz : b ^ e = z) : SpV sp_power_of ([.int b, .int (e : Int)] ++ []) H (.int z) := fun H1 _ Q q E => ⟨b, e, rfl, h1, h2, fun H2 e2 => by rw [hz]; exact q H2 e2⟩
abbrev C_power_of (P : Program) (w : World) (K : PySem.W.Frag) (mg : Str → Option Value) (base : Heap) := Cal P w K mg base 1 "power_of" p_power_of [] sp_power_of

/-! ### choose_of -/
abbrev s_choose_of : Stmt := topS 13
abbrev n_choose_of : List Str := ["many", "taken", "total", "step"]
abbrev p_choose_of : List Str := ["many", "taken"]
theorem sc_choose_of : FnScope n_choose_of p_choose_of (defScope s_choose_of) := ⟨rfl, rfl, rfl, by decide +kernel, rfl, by decide +kernel, by decide +kernel⟩
def sp_choose_of : Sp := fun vs H Q _ => ∃ (m t : Nat), vs = [.int (m : Int), .int (t : Int)] ∧ m ≤ 1000 ∧ RetV (.int (chooseP m t : Nat)) H Q
theorem chL_step {m i : Nat} (h : i ≤ m) : ((chL m i : Nat) : Int) * ((m : Int) - (i : Int)) / ((i : Int) + 1) = ((chL m (i + 1) : Nat) : Int) := by
  show _ = ((chL m i * (m - i) / (i + 1) : Nat) : Int)
  rw [Int.natCast_ediv, Int.natCast_mul, Int.natCast_sub h, Int.natCast_add]
  rfl
theorem ok_choose_of {f : Addr} {fd : FuncData} (F : Fun K "choose_of" "choose_of" s_choose_of f fd) (T : Txt mg) : FnOk P w K mg base CX0 1 f fd p_choose_of sp_choose_of := by
  refine F.ok sc_choose_of (fun vs H Q E h => ?_) (fun cdv A outer s H vs Q E hr h => ?_)
  · obtain ⟨m, t, rfl, _⟩ := h
    rfl
  · obtain ⟨m, t, rfl, hm, k⟩ := h
    refine ⟨_, (pss_cons (ps_if (PW.pt (pw_or (pt_cmpR op_lt (pv 1) pe_int (nomark _)) (pw_or1 (pt_cmpR op_gt (pv 1) (pv 0) (nomark _)))))
      (pss_one (ps_ret pe_int))
      pss_nil)
      (pss_cons (ps_set (i := 2) sc_choose_of.nd rfl (by first | exact Or.inl rfl | exact Or.inr rfl) pe_int)
      (pss_cons (ps_for PassesOwn.never rfl (pi_range1 (by rfl) T.range_ (pa_cons (pe_callB (cr_min2 rfl) (by rfl) T.min_ boot_min (pa_cons (pv 1) (pa_cons (pe_op op_sub (pv 0) (pv 1)) pa_nil))) pa_nil)) (pg_name (i := 3) sc_choose_of.nd rfl (by first | exact Or.inl rfl | exact Or.inr rfl))
      (pss_one (ps_set (i := 2) sc_choose_of.nd rfl (by first | exact Or.inl rfl | exact Or.inr rfl) (pe_op op_fdiv (pe_op op_mul (pv 2) (pe_op op_sub (pv 0) (pv 3))) (pe_op op_add (pv 3) pe_int)))))
      (pss_one (ps_ret (pv 2)))))), ?_⟩
    have k0 : (m < t) → RetV (.int 0) H Q := fun h => by
      unfold chooseP at k
      rw [if_pos h] at k
      exact k
    refine q_when (b := decide ((m : Int) < (t : Int))) (et_is (et_or (a := false) (b := decide ((m : Int) < (t : Int))) (et_is (by walk_at "et") (decide_eq_false (by omega))) fun _ => by walk_at "et") rfl) (fun hb H1 e1 => ?_) fun hb H1 e1 => ?_
    · exact s_ret ev_c fun H2 e2 => k0 (by have := of_decide_eq_true hb; omega) H2 (e1.trans e2)
    · have hb := of_decide_eq_false hb
      have htm : t ≤ m := by omega
      unfold chooseP at k
      rw [if_neg (by omega)] at k
      refine q_asg ev_c fun H2 e2 => ?_
      have en : (if (m : Int) - (t : Int) < (t : Int) then (m : Int) - (t : Int) else (t : Int)) = ((min t (m - t) : Nat) : Int) := by
        by_cases h : (m : Int) - (t : Int) < (t : Int)
        · rw [if_pos h, Nat.min_eq_right (by omega)]
          omega
        · rw [if_neg h, Nat.min_eq_left (by omega)]
      refine q_forRE (n := ((min t (m - t) : Nat) : Int)) (ea_cons (ev_is (by walk_at "ev") (congrArg V.int en)) ea_nil) ⟨by omega, by omega⟩ (fun i σ' => ∃ st, σ' = [some (.int (m : Int)), some (.int (t : Int)), some (.int (chL m i : Nat)), st]) ⟨none, rfl⟩ ?_ ?_
      · rintro i σ' H' e' hi ⟨st, rfl⟩ N hN
        have him : i ≤ m := by omega
        have h1 : CMul ((chL m i : Nat) : Int) ((m : Int) - (i : Int)) := Or.inr ⟨by omega, by omega⟩
        have h2 : CDiv (((chL m i : Nat) : Int) * ((m : Int) - (i : Int))) ((i : Int) + 1) := ⟨by omega, by omega⟩
        refine s_asg (v := .int (((chL m i : Nat) : Int) * ((m : Int) - (i : Int)) / ((i : Int) + 1))) (by walk_at "ev") fun H2 e2 => hN _ H2 e2 ⟨some (.int i), ?_⟩
        rw [chL_step him]
        rfl
      · rintro σ' H' e' ⟨st, rfl⟩
        exact s_ret (ev_var rfl) fun H3 e3 => k H3 (((e1.trans e2).trans e').trans e3)
theorem sv_choose_of {m t : Nat} {H : Hp} (h1 : m ≤ 1000) : SpV sp_choose_of ([.int (m : Int), .int (t : Int)] ++ []) H (.int (chooseP m t : Nat)) := fun H1 _ Q q E => ⟨m, t, rfl, h1, fun H2 e2 => q H2 e2⟩
abbrev C_choose_of (P : Program) (w : World) (K : PySem.W.Frag) (mg : Str → Option Value) (base : Heap) := Cal P w K mg base 1 "choose_of" p_choose_of [] sp_choose_of

/-! ### check_word -/
abbrev s_check_word : Stmt := topS 14
abbrev n_check_word : List Str := ["letters", "word", "most", "at", "letter"]
abbrev p_check_word : List Str := ["letters", "word", "most"]
theorem sc_check_word : FnScope n_check_word p_check_word (defScope s_check_word) := ⟨rfl, rfl, rfl, by decide +kernel, rfl, by decide +kernel, by decide +kernel⟩
-- 0 letters 1 word 2 most 3 at 4 letter
def Let3 (ns : List Int) : Prop := ns.length ≤ 24 ∧ ∀ x ∈ ns, 0 ≤ x ∧ x ≤ 3
def sp_check_word : Sp := fun vs H Q _ => ∃ (a : Addr) (ns : List Int), vs = [.int 4, .ref a, .int 24] ∧ H a = some (.tup (ns.map V.int)) ∧ Let3 ns ∧ RetV (.ref a) H Q
theorem isi_tup_list : kitB "tuple" "list" = some false := by decide +kernel
theorem isi_tup_tup : kitB "tuple" "tuple" = some true := by decide +kernel
theorem get_int {ns : List Int} {i : Nat} {x : V} (h : (ns.map V.int)[i]? = some x) : ∃ z, x = .int z ∧ ns[i]? = some z ∧ z ∈ ns := by
  rw [List.getElem?_map] at h
  cases e : ns[i]? with
  | none => rw [e] at h; cases h
  | some z =>
    rw [e] at h
    exact ⟨z, (Option.some.inj h).symm, rfl, List.mem_of_getElem? e⟩
theorem ev_isiLT {ta : TE} {σ : L2.St} {H : Hp} {xs : List V} (h : EvG ta σ H (IsT xs)) : Ev (tCB (rIsiT K) (tCons ta (tCons (tTup (tCons (tC (.ty "list")) (tCons (tC (.ty "tuple")) tNil))) tNil))) σ H (.bl true) := fun H1 e Q q =>
  h H1 e _ fun x H2 e2 ⟨p, ex, hp⟩ => ⟨by show 2 ≤ sizeLine; decide, fun l hl => ⟨x, l, [.ty "list", .ty "tuple"], .type "tuple", [.type "list", .type "tuple"], true, rfl, upd_same, .cons (.ty _) (.cons (.ty _) .nil), by
    subst ex
    exact .base (.tup (Ex.new hl p _ hp)), kitAny_cons (kit_ty isi_tup_list) (fun _ => kitAny_cons (kit_ty isi_tup_tup) (fun h => by cases h) fun _ => rfl) (fun h => by cases h), q _ (e2.trans (Ex.new hl))⟩⟩
theorem ok_check_word {f : Addr} {fd : FuncData} (F : FunD K "check_word" "check_word" (defArgs s_check_word) (defBody s_check_word) (defScope s_check_word) [.int 24] [] f fd) (T : Txt mg) (c_is_whole : C_is_whole P w K mg base) : FnOk P w K mg base CX0 2 f fd p_check_word sp_check_word := by
  refine FunD_ok F sc_check_word (fun vs H Q E h => ?_) (fun cdv A outer s H vs Q E hr h => ?_)
  · obtain ⟨a, ns, rfl, _⟩ := h
    rfl
  · obtain ⟨a, ns, rfl, ha, hn, k⟩ := h
    refine ⟨_, (pss_cons (ps_if (PW.pt (pw_or (pt_not (pt_val (pe_callB (cr_isiTK (K := K) rfl) (by rfl) T.isinstance_ boot_isinstance (pa_cons (pv 1) (pa_cons (pe_tup (pa_cons (pe_bltn (by rfl) T.list_ (by decide +kernel) (show RelV (.ty "list") _ from rfl)) (pa_cons (pe_bltn (by rfl) T.tuple_ (by decide +kernel) (show RelV (.ty "tuple") _ from rfl)) pa_nil))) pa_nil))))) (pw_or1 (pt_cmpR op_gt (pe_callB (cr_lenK (K := K) rfl) (by rfl) T.len_ PySem.boot_len (pa_cons (pv 1) pa_nil)) (pv 2) (nomark _)))))
      (pss_one ps_never)
      pss_nil)
      (pss_cons (ps_for PassesOwn.never rfl (pi_enumT (by rfl) T.enumerate_ (pa_cons (pv 1) pa_nil)) (pg_tup rfl (pgs_cons (pg_name (i := 3) sc_check_word.nd rfl (by first | exact Or.inl rfl | exact Or.inr rfl)) (pgs_cons (pg_name (i := 4) sc_check_word.nd rfl (by first | exact Or.inl rfl | exact Or.inr rfl)) pgs_nil)))
      (pss_one (ps_if (pt_not (pt_val (pe_c c_is_whole hr (by rfl) (pa_cons (pv 4) (pa_cons pe_int (pa_cons (pe_op op_sub (pv 0) pe_int) pa_nil))))))
        (pss_one ps_never)
        pss_nil)))
      (pss_one (ps_ret (pe_callTy (cr_tupK (K := K) rfl) (by rfl) T.tuple_ boot_tuple (pa_cons (pv 1) pa_nil)))))), ?_⟩
    have hw : EvG (tVar 1) (L2.start n_check_word [V.int 4, V.ref a, V.int 24]) H (IsT (ns.map V.int)) := evG_varT rfl ha
    refine q_pass (b := false) (et_or (a := false) (b := false) (et_not (a := true) (et_B (ev_isiLT hw))) fun _ => et_is (et_test (ev_gt (ev_lenT hw) (ev_var rfl))) (decide_eq_false ?_)) rfl fun H1 e1 => ?_
    · rw [List.length_map]
      have := hn.1
      omega
    · refine q_forENE (hw.mono e1) (fun i σ' => ∃ x y, σ' = [some (.int 4), some (.ref a), some (.int 24), x, y]) ⟨none, none, rfl⟩ ?_ ?_
      · rintro i x σ' H' e' hx ⟨y, z, rfl⟩ N hN
        obtain ⟨n, rfl, _, hm⟩ := get_int hx
        refine s_pass (b := false) (et_not (a := true) (et_B (ev_call (by walk_at "ea") (sv_is_whole (a := n) (lo := 0) (hi := 4 - 1) (decide_eq_true ⟨(hn.2 n hm).1, by have := (hn.2 n hm).2; omega⟩))))) rfl fun H2 e2 => ?_
        exact hN _ H2 e2 ⟨_, _, rfl⟩
      · rintro σ' H' e' ⟨x, y, rfl⟩
        have e2 := e1.trans e'
        refine s_ret (ev_cb (ea_cons (ev_var rfl) ea_nil) fun H3 e3 Q' q => ⟨a, ns.map V.int, rfl, .inr ⟨SqT.of (e3 a _ (e2 a _ ha)), q _ (Ex.refl _)⟩⟩) fun H3 e3 => k H3 (e2.trans e3)
theorem sv_check_word {a : Addr} {ns : List Int} {H : Hp} (ha : H a = some (.tup (ns.map V.int))) (hn : Let3 ns) : SpV sp_check_word ([.int 4, .ref a] ++ [.int 24]) H (.ref a) := fun H1 e Q q E => ⟨a, ns, rfl, e a _ ha, hn, fun H2 e2 => q H2 e2⟩
abbrev C_check_word (P : Program) (w : World) (K : PySem.W.Frag) (mg : Str → Option Value) (base : Heap) := Cal P w K mg base 2 "check_word" p_check_word [.int 24] sp_check_word
end
end K47

set_option maxHeartbeats 4000000
namespace K47
open PySem PySem.Spec PyProof.Rows L2 Evl
local macro_rules | `(tactic| walk_at "evs") => `(tactic| first | assumption | omega | decide | exact ⟨by omega, by omega⟩ | exact Or.inl ⟨by omega, by omega⟩ | exact Or.inr ⟨by omega, by omega⟩)
local macro_rules | `(tactic| walk_at "ev") => `(tactic| first
  | with_reducible exact ev_c
  | ((with_reducible apply ev_var); rfl)
  | ((with_reducible apply ev_add) <;> walk_at "ev")
  | ((with_reducible apply ev_sub) <;> walk_at "ev")
  | ((with_reducible apply ev_neg) <;> walk_at "ev")
  | ((with_reducible apply ev_int1) <;> walk_at "ev")
  | ((with_reducible apply ev_mod); (· walk_at "ev"); (· walk_at "ev"); (· walk_at "evs"))
  | ((with_reducible apply ev_div); (· walk_at "ev"); (· walk_at "ev"); (· walk_at "evs"))
  | ((with_reducible apply ev_mul); (· walk_at "ev"); (· walk_at "ev"); (· walk_at "evs"))
  | ((with_reducible apply ev_lt) <;> walk_at "ev")
  | ((with_reducible apply ev_le) <;> walk_at "ev")
  | ((with_reducible apply ev_gt) <;> walk_at "ev")
  | ((with_reducible apply ev_ge) <;> walk_at "ev")
  | ((with_reducible apply ev_eq) <;> walk_at "ev")
  | ((with_reducible apply ev_ne) <;> walk_at "ev")
  | ((with_reducible apply ev_min2) <;> walk_at "ev")
  | (apply ev_isi (a := "int") (ty := tyx_int) (e := isi_int_int) <;> walk_at "ev")
  | (apply ev_isi (a := "int") (ty := tyx_int) (e := isi_int_bool) <;> walk_at "ev"))
local macro_rules | `(tactic| walk_at "et") => `(tactic| first
  | ((with_reducible apply et_test); walk_at "ev")
  | ((with_reducible apply et_B); walk_at "ev")
  | ((with_reducible apply et_not); walk_at "et"))
local macro_rules | `(tactic| walk_at "ea") => `(tactic| first
  | with_reducible exact ea_nil
  | ((with_reducible apply ea_cons); (· walk_at "ev"); (· walk_at "ea")))

section
variable {P : Program} {w : World} {K : PySem.W.Frag} {mg : Str → Option Value} {base : Heap}
def vN (l : List Nat) : List V := l.map fun (k : Nat) => V.int (k : Int)
theorem vN_app (a b : List Nat) : vN (a ++ b) = vN a ++ vN b := List.map_append ..
theorem vN_rev (a : List Nat) : vN a.reverse = (vN a).reverse := List.map_reverse ..
theorem vN_len (a : List Nat) : (vN a).length = a.length := List.length_map ..
theorem vN_get {l : List Nat} {i : Nat} {x : V} (h : (vN l)[i]? = some x) : ∃ k : Nat, x = .int (k : Int) ∧ l[i]? = some k ∧ k ∈ l := by
  unfold vN at h
  rw [List.getElem?_map] at h
  cases e : l[i]? with
  | none => rw [e] at h; cases h
  | some z =>
    rw [e] at h
    exact ⟨z, (Option.some.inj h).symm, rfl, List.mem_of_getElem? e⟩
theorem two_lists {D : Ends} {σ : L2.St} {H : Hp} {i j : Nat} {tz : TS} (k : ∀ p q H1, H p = none → H q = none → p ≠ q → Ex H H1 → H1 p = some (.lst []) → H1 q = some (.lst []) → tz D ((σ.set i (some (.ref p))).set j (some (.ref q))) H1) :
    tSeq (tPar i j (tCons (tLst tNil) (tCons (tLst tNil) tNil))) tz D σ H := by
  refine ⟨Nat.zero_le _, fun p hp => ⟨Nat.zero_le _, fun q hq => ⟨_, _, rfl, ?_⟩⟩⟩
  have hpq : p ≠ q := by
    rintro rfl
    rw [upd_same] at hq
    cases hq
  have hq0 : H q = none := by
    rw [upd_ne (Ne.symm hpq)] at hq
    exact hq
  exact k p q _ hp hq0 hpq ((Ex.new hp).trans (Ex.new hq)) (by rw [upd_ne hpq, upd_same]) upd_same

/-! ### divisors_of -/
abbrev s_divisors_of : Stmt := topS 17
abbrev n_divisors_of : List Str := ["number", "low", "high", "k"]
abbrev p_divisors_of : List Str := ["number"]
theorem sc_divisors_of : FnScope n_divisors_of p_divisors_of (defScope s_divisors_of) := ⟨rfl, rfl, rfl, by decide +kernel, rfl, by decide +kernel, by decide +kernel⟩
-- 0 number 1 low 2 high 3 k
def sp_divisors_of : Sp := fun vs H Q _ => ∃ (n : Nat), vs = [.int (n : Int)] ∧ 1 ≤ n ∧ n ≤ 201 ∧ RetG (IsT (vN (divs n))) H Q
theorem ok_divisors_of {f : Addr} {fd : FuncData} (F : Fun K "divisors_of" "divisors_of" s_divisors_of f fd) (T : Txt mg) (c_check_number : C_check_number P w K mg base) : FnOk P w K mg base CX0 3 f fd p_divisors_of sp_divisors_of := by
  refine F.ok sc_divisors_of (fun vs H Q E h => ?_) (fun cdv A outer s H vs Q E hr h => ?_)
  · obtain ⟨n, rfl, _⟩ := h
    rfl
  · obtain ⟨n, rfl, h1, h2, k⟩ := h
    refine ⟨_, (pss_cons (ps_expr (pe_c c_check_number hr (by rfl) (pa_cons (pv 0) (pa_cons pe_int (pa_cons (pe_gint T.MOST_DIVIDED (by rfl)) pa_nil)))))
      (pss_cons (ps_par (i := 1) (j := 2) (by rfl) sc_divisors_of.nd rfl rfl (by decide) rfl rfl (pa_cons (pe_lst pa_nil) (pa_cons (pe_lst pa_nil) pa_nil)) (by rfl))
      (pss_cons (ps_set (i := 3) sc_divisors_of.nd rfl (by first | exact Or.inl rfl | exact Or.inr rfl) pe_int)
      (pss_cons (ps_while PassesOwn.never (pt_cmpR op_le (pe_op op_mul (pv 3) (pv 3)) (pv 0) (nomark _))
      (pss_cons (ps_if (pt_cmpR op_eq (pe_op op_mod (pv 0) (pv 3)) pe_int (nomark _))
        (pss_cons (ps_expr (pe_bm PySem.F.plainAttrs_list PySem.F.slot_list_append PySem.F.type_list_append mt_append (pv 1) (pa_cons (pv 3) pa_nil)))
          (pss_one (ps_if (pt_cmpR op_lt (pe_op op_mul (pv 3) (pv 3)) (pv 0) (nomark _))
          (pss_one (ps_expr (pe_bm PySem.F.plainAttrs_list PySem.F.slot_list_append PySem.F.type_list_append mt_append (pv 2) (pa_cons (pe_op op_fdiv (pv 0) (pv 3)) pa_nil))))
          pss_nil)))
        pss_nil)
        (pss_one (ps_aug (i := 3) sc_divisors_of.nd rfl (by first | exact Or.inl rfl | exact Or.inr rfl) pe_int ip_add))))
      (pss_one (ps_ret (pe_callTy (cr_tupK (K := K) rfl) (by rfl) T.tuple_ boot_tuple (pa_cons (pe_op op_cat (pv 1) (pe_revL (pv 2))) pa_nil)))))))), ?_⟩
    refine q_drop (ev_call (by walk_at "ea") (sv_check_number (by omega) (by omega))) fun H1 e1 => ?_
    refine two_lists fun p q H2 hp hq hpq e2 hlp hlq => ?_
    have hp0 : H p = none := fresh_back e1 hp
    have hq0 : H q = none := fresh_back e1 hq
    refine q_asg ev_c fun H3 e3 => ?_
    refine q_while (fun m σ' H' => ∃ (kk : Nat) (lo hi : List Nat), σ' = [some (.int (n : Int)), some (.ref p), some (.ref q), some (.int (kk : Int))] ∧ Ex H H' ∧ H' p = some (.lst (vN lo)) ∧ H' q = some (.lst (vN hi)) ∧
        kk + m = 21 ∧ 1 ≤ kk ∧ dvL n m kk lo hi = dvL n 20 1 [] [] ∧ lo.length ≤ kk ∧ hi.length ≤ kk) 20
      ⟨1, [], [], rfl, (e1.trans e2).trans e3, e3 p _ hlp, e3 q _ hlq, rfl, Nat.le_refl _, rfl, Nat.zero_le _, Nat.zero_le _⟩ ?_
    rintro m σ' H' ⟨kk, lo, hi, rfl, ex, hlp, hlq, hm, hk1, hR, hlo, hhi⟩
    refine ⟨decide ((kk : Int) * (kk : Int) ≤ (n : Int)), by walk_at "et", fun hb H4 e4 => ?_, fun hb H4 e4 => ?_⟩
    · have hb := of_decide_eq_true hb
      have hb' : kk * kk ≤ n := by rw [← Int.natCast_mul] at hb; omega
      cases m with
      | zero =>
        have : kk = 21 := by omega
        subst this
        omega
      | succ m =>
        refine ⟨fun σ2 H2 => ∃ (kk : Nat) (lo hi : List Nat), σ2 = [some (.int (n : Int)), some (.ref p), some (.ref q), some (.int (kk : Int))] ∧ Ex H H2 ∧ H2 p = some (.lst (vN lo)) ∧ H2 q = some (.lst (vN hi)) ∧
          kk + m = 21 ∧ 1 ≤ kk ∧ dvL n m kk lo hi = dvL n 20 1 [] [] ∧ lo.length ≤ kk ∧ hi.length ≤ kk, fun σ2 H2 h => ⟨m, Nat.lt_succ_self _, h⟩, ?_⟩
        have fin : ∀ (H5 : Hp) (lo' hi' : List Nat), Ex H H5 → H5 p = some (.lst (vN lo')) → H5 q = some (.lst (vN hi')) → dvL n m (kk + 1) lo' hi' = dvL n 20 1 [] [] → lo'.length ≤ kk + 1 → hi'.length ≤ kk + 1 →
            ∃ (kk' : Nat) (lo hi : List Nat), List.set [some (V.int (n : Int)), some (.ref p), some (.ref q), some (.int (kk : Int))] 3 (some (.int ((kk : Int) + 1))) = [some (.int (n : Int)), some (.ref p), some (.ref q), some (.int (kk' : Int))] ∧ Ex H H5 ∧ H5 p = some (.lst (vN lo)) ∧ H5 q = some (.lst (vN hi)) ∧
          kk' + m = 21 ∧ 1 ≤ kk' ∧ dvL n m kk' lo hi = dvL n 20 1 [] [] ∧ lo.length ≤ kk' ∧ hi.length ≤ kk' := fun H5 lo' hi' a1 a2 a3 a4 a5 a6 => ⟨kk + 1, lo', hi', by rw [Int.natCast_add]; rfl, a1, a2, a3, by omega, by omega, a4, a5, a6⟩
        have un : dvL n (m + 1) kk lo hi = if n % kk = 0 then dvL n m (kk + 1) (lo ++ [kk]) (if kk * kk < n then hi ++ [n / kk] else hi) else dvL n m (kk + 1) lo hi := by
          show (if kk * kk ≤ n then _ else _) = _
          rw [if_pos hb']
        rw [un] at hR
        have hkz : 0 < (kk : Int) := by omega
        have ek : ((n : Int) % (kk : Int)) = ((n % kk : Nat) : Int) := by rw [Int.natCast_emod]
        refine q_when (b := decide ((n : Int) % (kk : Int) = 0)) (by walk_at "et") (fun hc H5 e5 => ?_) fun hc H5 e5 => ?_
        · have hc : n % kk = 0 := by
            have := of_decide_eq_true hc
            omega
          rw [if_pos hc] at hR
          refine q_app (l := p) (xs := vN lo) (v := .int (kk : Int)) (e5 p _ (e4 p _ hlp)) (ev_var rfl) (ev_var rfl) (by rw [vN_len]; omega) fun H6 e6 => ?_
          have x6 : Ex H (upd H6 p (.lst (vN lo ++ [.int (kk : Int)]))) := Ex.mut (((ex.trans e4).trans e5).trans e6) hp0
          have p6 : upd H6 p (.lst (vN lo ++ [.int (kk : Int)])) p = some (.lst (vN (lo ++ [kk]))) := by rw [upd_same, vN_app]; rfl
          have q6 : upd H6 p (.lst (vN lo ++ [.int (kk : Int)])) q = some (.lst (vN hi)) := by
            rw [upd_ne (Ne.symm hpq)]
            exact e6 q _ (e5 q _ (e4 q _ hlq))
          have hcd : CDiv (n : Int) (kk : Int) := ⟨by omega, by
            have : kk ≤ 21 := by omega
            omega⟩
          refine s_when (b := decide ((kk : Int) * (kk : Int) < (n : Int))) (by walk_at "et") (fun hd H7 e7 => ?_) fun hd H7 e7 => ?_
          · have hd := of_decide_eq_true hd
            have hd' : kk * kk < n := by rw [← Int.natCast_mul] at hd; omega
            rw [if_pos hd'] at hR
            refine s_app (l := q) (xs := vN hi) (v := .int ((n : Int) / (kk : Int))) (e7 q _ q6) (ev_var rfl) (by walk_at "ev") (by rw [vN_len]; omega) fun H8 e8 => ?_
            have p8 : upd H8 q (.lst (vN hi ++ [.int ((n : Int) / (kk : Int))])) p = some (.lst (vN (lo ++ [kk]))) := by
              rw [upd_ne hpq]
              exact e8 p _ (e7 p _ p6)
            have q8 : upd H8 q (.lst (vN hi ++ [.int ((n : Int) / (kk : Int))])) q = some (.lst (vN (hi ++ [n / kk]))) := by rw [upd_same, vN_app, ← Int.natCast_ediv]; rfl
            exact s_aug (a := (kk : Int)) (b := 1) rfl ev_c fun H9 e9 => fin H9 _ _ ((Ex.mut ((x6.trans e7).trans e8) hq0).trans e9) (e9 p _ p8) (e9 q _ q8) hR (by rw [List.length_append]; simp; omega) (by rw [List.length_append]; simp; omega)
          · have hd := of_decide_eq_false hd
            have hd' : ¬ kk * kk < n := by rw [← Int.natCast_mul] at hd; omega
            rw [if_neg hd'] at hR
            exact s_aug (a := (kk : Int)) (b := 1) rfl ev_c fun H9 e9 => fin H9 _ _ ((x6.trans e7).trans e9) (e9 p _ (e7 p _ p6)) (e9 q _ (e7 q _ q6)) hR (by rw [List.length_append]; simp; omega) (by omega)
        · have hc : ¬ n % kk = 0 := by
            have := of_decide_eq_false hc
            omega
          rw [if_neg hc] at hR
          exact s_aug (a := (kk : Int)) (b := 1) rfl ev_c fun H9 e9 => fin H9 _ _ (((ex.trans e4).trans e5).trans e9) (e9 p _ (e5 p _ (e4 p _ hlp))) (e9 q _ (e5 q _ (e4 q _ hlq))) hR (by omega) (by omega)
    · have hb := of_decide_eq_false hb
      have hb' : ¬ kk * kk ≤ n := by rw [← Int.natCast_mul] at hb; omega
      have un : dvL n m kk lo hi = (lo, hi) := by
        cases m with
        | zero => rfl
        | succ m =>
          show (if kk * kk ≤ n then _ else _) = _
          rw [if_neg hb']
      rw [un] at hR
      have ed : divs n = lo ++ hi.reverse := by
        unfold divs
        rw [← hR]
      refine s_retG (evG_tupL (evG_catL (evG_varL rfl (e4 p _ hlp)) (evG_rev (evG_varL rfl (e4 q _ hlq))) ?_)) fun v H5 e5 p5 => ?_
      · rw [List.length_reverse, vN_len, vN_len]
        omega
      · rw [ed, vN_app, vN_rev] at k
        exact k v H5 ((ex.trans e4).trans e5) p5
theorem sv_divisors_of {n : Nat} {H : Hp} (h1 : 1 ≤ n) (h2 : n ≤ 201) : SpW sp_divisors_of ([.int (n : Int)] ++ []) H (IsT (vN (divs n))) := fun H1 e Q q E => ⟨n, rfl, h1, h2, fun v H2 e2 p => q v H2 e2 p⟩
abbrev C_divisors_of (P : Program) (w : World) (K : PySem.W.Frag) (mg : Str → Option Value) (base : Heap) := Cal P w K mg base 3 "divisors_of" p_divisors_of [] sp_divisors_of

/-! ### prime_powers -/
def Rows (H : Hp) : List V → List (Nat × Nat) → Prop := Paired fun x r => ∃ a, x = .ref a ∧ H a = some (.tup [.int (r.1 : Int), .int (r.2 : Int)])
theorem Rows.ex {H H' : Hp} (e : Ex H H') {xs : List V} {rs : List (Nat × Nat)} (h : Rows H xs rs) : Rows H' xs rs := Paired.mapP h fun _ _ ⟨a, e1, e2⟩ => ⟨a, e1, e a _ e2⟩
theorem Rows.upd {H : Hp} {l : Addr} {zs : List V} {o : HO} (hl : H l = some (.lst zs)) {xs : List V} {rs : List (Nat × Nat)} (h : Rows H xs rs) : Rows (upd H l o) xs rs :=
  Paired.mapP h fun _ _ ⟨a, e1, e2⟩ => ⟨a, e1, by rw [upd_ne (ne_of e2 hl (by intro z; cases z))]; exact e2⟩
theorem Rows.len {H : Hp} {xs : List V} {rs : List (Nat × Nat)} (h : Rows H xs rs) : xs.length = rs.length := Paired.length h
theorem Rows.app {H : Hp} : ∀ {xs ys : List V} {rs us : List (Nat × Nat)}, Rows H xs rs → Rows H ys us → Rows H (xs ++ ys) (rs ++ us)
  | _, _, _, _, .nil, s => s
  | _, _, _, _, .cons r t, s => .cons r (Rows.app t s)
theorem Rows.get {H : Hp} : ∀ {xs : List V} {rs : List (Nat × Nat)} {i : Nat} {x : V}, Rows H xs rs → xs[i]? = some x → ∃ a r, x = .ref a ∧ rs[i]? = some r ∧ H a = some (.tup [.int (r.1 : Int), .int (r.2 : Int)])
  | _, _, _, _, .nil, e => by simp at e
  | _, _, 0, x, .cons r _, e => by
    simp at e
    subst e
    obtain ⟨a, e1, e2⟩ := r
    exact ⟨a, _, e1, rfl, e2⟩
  | _, _, i + 1, x, .cons _ t, e => by
    obtain ⟨a, r, h1, h2, h3⟩ := Rows.get (i := i) (x := x) t (by simpa using e)
    exact ⟨a, r, h1, by simpa using h2, h3⟩
def IsRows (rs : List (Nat × Nat)) : V → Hp → Prop := fun v H => ∃ p xs, v = .ref p ∧ H p = some (.lst xs) ∧ Rows H xs rs
abbrev s_prime_powers : Stmt := topS 18
abbrev n_prime_powers : List Str := ["number", "rows", "left", "k", "many"]
abbrev p_prime_powers : List Str := ["number"]
theorem sc_prime_powers : FnScope n_prime_powers p_prime_powers (defScope s_prime_powers) := ⟨rfl, rfl, rfl, by decide +kernel, rfl, by decide +kernel, by decide +kernel⟩
-- 0 number 1 rows 2 left 3 k 4 many
def sp_prime_powers : Sp := fun vs H Q _ => ∃ (n : Nat), vs = [.int (n : Int)] ∧ 1 ≤ n ∧ n ≤ 201 ∧ RetG (IsRows (pp n)) H Q
theorem app_row {σ : L2.St} {H : Hp} {D : Ends} {p : Addr} {xs : List V} {ta te tf : TE} {rs : List (Nat × Nat)} {x y : Nat} (hl : H p = some (.lst xs)) (hr : Rows H xs rs) (ha : Ev ta σ H (.ref p)) (h1 : Ev te σ H (.int (x : Int))) (h2 : Ev tf σ H (.int (y : Int))) (hz : xs.length < 100000)
    (k : ∀ H2 H3 xs', Ex H H2 → H3 = upd H2 p (.lst xs') → H3 p = some (.lst xs') → Rows H3 xs' (rs ++ [(x, y)]) → D.nx σ H3) : tDrop (tBM K "list" rAppend ta (tCons (tTup (tCons te (tCons tf tNil))) tNil)) D σ H :=
  s_appU hl ha (eu_tup (ea_cons h1 (ea_cons h2 ea_nil)) (by simp)) hz fun q H1 hq e h => k H1 _ _ e rfl upd_same (Rows.app (Rows.upd (e p _ hl) (hr.ex e)) (.cons ⟨q, rfl, by rw [upd_ne (ne_of h (e p _ hl) (by intro z; cases z))]; exact h⟩ .nil))
theorem ok_prime_powers {f : Addr} {fd : FuncData} (F : Fun K "prime_powers" "prime_powers" s_prime_powers f fd) (T : Txt mg) : FnOk P w K mg base CX0 1 f fd p_prime_powers sp_prime_powers := by
  refine F.ok sc_prime_powers (fun vs H Q E h => ?_) (fun cdv A outer s H vs Q E hr h => ?_)
  · obtain ⟨n, rfl, _⟩ := h
    rfl
  · obtain ⟨n, rfl, h1, h2, k⟩ := h
    refine ⟨_, (pss_cons (ps_set (i := 1) sc_prime_powers.nd rfl (by first | exact Or.inl rfl | exact Or.inr rfl) (pe_lst pa_nil))
      (pss_cons (ps_set (i := 2) sc_prime_powers.nd rfl (by first | exact Or.inl rfl | exact Or.inr rfl) (pv 0))
      (pss_cons (ps_set (i := 3) sc_prime_powers.nd rfl (by first | exact Or.inl rfl | exact Or.inr rfl) pe_int)
      (pss_cons (ps_while PassesOwn.never (pt_cmpR op_le (pe_op op_mul (pv 3) (pv 3)) (pv 2) (nomark _))
      (pss_cons (ps_set (i := 4) sc_prime_powers.nd rfl (by first | exact Or.inl rfl | exact Or.inr rfl) pe_int)
        (pss_cons (ps_while PassesOwn.never (pt_cmpR op_eq (pe_op op_mod (pv 2) (pv 3)) pe_int (nomark _))
        (pss_cons (ps_set (i := 2) sc_prime_powers.nd rfl (by first | exact Or.inl rfl | exact Or.inr rfl) (pe_op op_fdiv (pv 2) (pv 3)))
          (pss_one (ps_aug (i := 4) sc_prime_powers.nd rfl (by first | exact Or.inl rfl | exact Or.inr rfl) pe_int ip_add))))
        (pss_cons (ps_if (pt_cmpR op_gt (pv 4) pe_int (nomark _))
        (pss_one (ps_expr (pe_bm PySem.F.plainAttrs_list PySem.F.slot_list_append PySem.F.type_list_append mt_append (pv 1) (pa_cons (pe_tup (pa_cons (pv 3) (pa_cons (pv 4) pa_nil))) pa_nil))))
        pss_nil)
        (pss_one (ps_aug (i := 3) sc_prime_powers.nd rfl (by first | exact Or.inl rfl | exact Or.inr rfl) pe_int ip_add))))))
      (pss_cons (ps_if (pt_cmpR op_gt (pv 2) pe_int (nomark _))
      (pss_one (ps_expr (pe_bm PySem.F.plainAttrs_list PySem.F.slot_list_append PySem.F.type_list_append mt_append (pv 1) (pa_cons (pe_tup (pa_cons (pv 2) (pa_cons pe_int pa_nil))) pa_nil))))
      pss_nil)
      (pss_one (ps_ret (pv 1)))))))), ?_⟩
    refine q_asgL (el_lst ea_nil (Nat.zero_le _)) fun p H1 hp e1 hlp => ?_
    refine q_asg (ev_var rfl) fun H2 e2 => ?_
    refine q_asg ev_c fun H3 e3 => ?_
    refine q_while (fun m σ' H' => ∃ (l kk : Nat) (rs : List (Nat × Nat)) (xs : List V) (mv : Option V), σ' = [some (.int (n : Int)), some (.ref p), some (.int (l : Int)), some (.int (kk : Int)), mv] ∧ Ex H H' ∧ H' p = some (.lst xs) ∧ Rows H' xs rs ∧
        kk + m = 22 ∧ 2 ≤ kk ∧ 1 ≤ l ∧ l ≤ 201 ∧ ppOut m l kk rs = pp n ∧ rs.length ≤ kk) 20
      ⟨n, 2, [], [], none, rfl, (e1.trans e2).trans e3, e3 p _ (e2 p _ hlp), .nil, rfl, Nat.le_refl _, h1, h2, rfl, Nat.zero_le _⟩ ?_
    rintro m σ' H' ⟨l, kk, rs, xs, mv, rfl, ex, hlp, hrw, hm, hk2, hl1, hl2, hR, hrs⟩
    have hxl : xs.length < 100000 := by
      have := hrw.len
      omega
    refine ⟨decide ((kk : Int) * (kk : Int) ≤ (l : Int)), by walk_at "et", fun hb H4 e4 => ?_, fun hb H4 e4 => ?_⟩
    · have hb := of_decide_eq_true hb
      have hb' : kk * kk ≤ l := by rw [← Int.natCast_mul] at hb; omega
      cases m with
      | zero =>
        have : kk = 22 := by omega
        subst this
        omega
      | succ m =>
        refine ⟨fun σ2 H2 => ∃ (l kk : Nat) (rs : List (Nat × Nat)) (xs : List V) (mv : Option V), σ2 = [some (.int (n : Int)), some (.ref p), some (.int (l : Int)), some (.int (kk : Int)), mv] ∧ Ex H H2 ∧ H2 p = some (.lst xs) ∧ Rows H2 xs rs ∧
          kk + m = 22 ∧ 2 ≤ kk ∧ 1 ≤ l ∧ l ≤ 201 ∧ ppOut m l kk rs = pp n ∧ rs.length ≤ kk, fun σ2 H2 h => ⟨m, Nat.lt_succ_self _, h⟩, ?_⟩
        have un : ppOut (m + 1) l kk rs = ppOut m (ppIn kk 8 l 0).1 (kk + 1) (if 0 < (ppIn kk 8 l 0).2 then rs ++ [(kk, (ppIn kk 8 l 0).2)] else rs) := by
          show (if kk * kk ≤ l then _ else _) = _
          rw [if_pos hb']
        rw [un] at hR
        refine q_asg ev_c fun H5 e5 => ?_
        refine q_whileE (fun m' σ2 => ∃ (l' mm : Nat), σ2 = [some (.int (n : Int)), some (.ref p), some (.int (l' : Int)), some (.int (kk : Int)), some (.int (mm : Int))] ∧ ppIn kk m' l' mm = ppIn kk 8 l 0 ∧ l' < 2 ^ m' ∧ 1 ≤ l' ∧ l' ≤ 201) 8
          ⟨l, 0, rfl, rfl, by omega, hl1, hl2⟩ ?_
        rintro m' σ2 H6 e6 ⟨l', mm, rfl, hI, hlt, hl1', hl2'⟩
        have hkz : 0 < (kk : Int) := by omega
        refine ⟨decide ((l' : Int) % (kk : Int) = 0), by walk_at "et", fun hb2 H7 e7 N hN => ?_, fun hb2 H7 e7 => ?_⟩
        · have hb2' : l' % kk = 0 := by
            have := of_decide_eq_true hb2
            have e : ((l' : Int) % (kk : Int)) = ((l' % kk : Nat) : Int) := by rw [Int.natCast_emod]
            omega
          cases m' with
          | zero => omega
          | succ m' =>
            have un2 : ppIn kk (m' + 1) l' mm = ppIn kk m' (l' / kk) (mm + 1) := by
              show (if l' % kk = 0 then _ else _) = _
              rw [if_pos hb2']
            rw [un2] at hI
            have hcd : CDiv (l' : Int) (kk : Int) := ⟨by omega, by
              have : kk ≤ 22 := by omega
              omega⟩
            refine q_asg (v := .int ((l' / kk : Nat) : Int)) (ev_is (v := .int ((l' : Int) / (kk : Int))) (by walk_at "ev") (by rw [Int.natCast_ediv])) fun H8 e8 => ?_
            refine s_aug (a := (mm : Int)) (b := 1) rfl ev_c fun H9 e9 => ?_
            refine hN m' _ H9 (e8.trans e9) (Nat.lt_succ_self _) ⟨l' / kk, mm + 1, by rw [Int.natCast_add]; rfl, hI, ?_, ?_, ?_⟩
            · have h3 : l' / kk ≤ l' / 2 := Nat.div_le_div_left hk2 (by decide)
              have h4 : 2 ^ (m' + 1) = 2 * 2 ^ m' := by rw [Nat.pow_succ, Nat.mul_comm]
              omega
            · have h5 : kk ≤ l' := Nat.le_of_dvd (by omega) (Nat.dvd_of_mod_eq_zero hb2')
              exact Nat.div_pos h5 (by omega)
            · exact Nat.le_trans (Nat.div_le_self _ _) hl2'
        · have hb2' : ¬ l' % kk = 0 := by
            have := of_decide_eq_false hb2
            have e : ((l' : Int) % (kk : Int)) = ((l' % kk : Nat) : Int) := by rw [Int.natCast_emod]
            omega
          have un2 : ppIn kk m' l' mm = (l', mm) := by
            cases m' with
            | zero => rfl
            | succ m' =>
              show (if l' % kk = 0 then _ else _) = _
              rw [if_neg hb2']
          rw [un2] at hI
          rw [← hI] at hR
          have x7 : Ex H' H7 := ((e4.trans e5).trans e6).trans e7
          refine q_when (b := decide ((0 : Int) < (mm : Int))) (by walk_at "et") (fun hc H8 e8 => ?_) fun hc H8 e8 => ?_
          · have hc : 0 < mm := by have := of_decide_eq_true hc; omega
            rw [if_pos (show 0 < (l', mm).2 from hc)] at hR
            refine app_row (rs := rs) (x := kk) (y := mm) ((x7.trans e8) p _ hlp) (hrw.ex (x7.trans e8)) (ev_var rfl) (ev_var rfl) (ev_var rfl) hxl fun H9 H10 xs' e9 eq9 h10 hr10 => ?_
            refine s_aug (a := (kk : Int)) (b := 1) rfl ev_c fun H11 e11 => ?_
            refine ⟨l', kk + 1, _, xs', some (.int (mm : Int)), by rw [Int.natCast_add]; rfl, ?_, e11 p _ h10, hr10.ex e11, by omega, by omega, hl1', hl2', hR, by rw [List.length_append]; simp; omega⟩
            rw [eq9] at e11
            exact (Ex.mut ((ex.trans (x7.trans e8)).trans e9) hp).trans e11
          · have hc : ¬ 0 < mm := by have := of_decide_eq_false hc; omega
            rw [if_neg (show ¬ 0 < (l', mm).2 from hc)] at hR
            refine s_aug (a := (kk : Int)) (b := 1) rfl ev_c fun H11 e11 => ?_
            exact ⟨l', kk + 1, rs, xs, some (.int (mm : Int)), by rw [Int.natCast_add]; rfl, ex.trans ((x7.trans e8).trans e11), ((x7.trans e8).trans e11) p _ hlp, hrw.ex ((x7.trans e8).trans e11), by omega, by omega, hl1', hl2', hR, by omega⟩
    · have hb := of_decide_eq_false hb
      have hb' : ¬ kk * kk ≤ l := by rw [← Int.natCast_mul] at hb; omega
      have un : ppOut m l kk rs = ppFin l rs := by
        cases m with
        | zero => rfl
        | succ m =>
          show (if kk * kk ≤ l then _ else _) = _
          rw [if_neg hb']
      rw [un] at hR
      unfold ppFin at hR
      refine q_when (b := decide ((1 : Int) < (l : Int))) (by walk_at "et") (fun hc H8 e8 => ?_) fun hc H8 e8 => ?_
      · have hc : 1 < l := by have := of_decide_eq_true hc; omega
        rw [if_pos hc] at hR
        refine app_row (rs := rs) (x := l) (y := 1) ((e4.trans e8) p _ hlp) (hrw.ex (e4.trans e8)) (ev_var rfl) (ev_var rfl) ev_c hxl fun H9 H10 xs' e9 eq9 h10 hr10 => ?_
        refine s_ret (ev_var rfl) fun H11 e11 => ?_
        refine k _ H11 ?_ ⟨p, xs', rfl, e11 p _ h10, by rw [← hR]; exact hr10.ex e11⟩
        rw [eq9] at e11
        exact (Ex.mut ((ex.trans (e4.trans e8)).trans e9) hp).trans e11
      · have hc : ¬ 1 < l := by have := of_decide_eq_false hc; omega
        rw [if_neg hc] at hR
        refine s_ret (ev_var rfl) fun H11 e11 => ?_
        exact k _ H11 (ex.trans ((e4.trans e8).trans e11)) ⟨p, xs, rfl, ((e4.trans e8).trans e11) p _ hlp, by rw [← hR]; exact hrw.ex ((e4.trans e8).trans e11)⟩
theorem sv_prime_powers {n : Nat} {H : Hp} (h1 : 1 ≤ n) (h2 : n ≤ 201) : SpW sp_prime_powers ([.int (n : Int)] ++ []) H (IsRows (pp n)) := fun H1 e Q q E => ⟨n, rfl, h1, h2, fun v H2 e2 p => q v H2 e2 p⟩
abbrev C_prime_powers (P : Program) (w : World) (K : PySem.W.Frag) (mg : Str → Option Value) (base : Heap) := Cal P w K mg base 1 "prime_powers" p_prime_powers [] sp_prime_powers
/-- a loop over the rows -/
theorem q_forRows {σ : L2.St} {H : Hp} {D : Ends} {tz tu : TS} {rs : List (Nat × Nat)} {tl : TE} {j : Nat} (h : EvG tl σ H (IsRows rs)) (Iv : Nat → L2.St → Prop) (h0 : Iv 0 σ)
    (hs : ∀ i a r σ' H', Ex H H' → rs[i]? = some r → H' a = some (.tup [.int (r.1 : Int), .int (r.2 : Int)]) → Iv i σ' → ∀ N : L2.St → Hp → Prop, (∀ σ2 H2, Ex H' H2 → Iv (i + 1) σ2 → N σ2 H2) → tu { D with nx := N, ct := N, bk := tz D } (σ'.set j (some (.ref a))) H')
    (hd : ∀ σ' H', Ex H H' → Iv rs.length σ' → tz D σ' H') : tSeq (tFor (iList K tl) (gName j) tu) tz D σ H :=
  h H (Ex.refl H) _ fun v H1 e ⟨p, xs, ev, hp, hr⟩ => ⟨p, ev, ⟨xs, SqL.of hp⟩, for_list (D := { D with nx := tz D }) (fun i σ' H' => Iv i σ' ∧ Ex H1 H') ⟨h0, Ex.refl _⟩ (fun i σ' H' _ q => SqL.of (q.2 p _ hp)) (fun i x σ' H' hi q => by
    obtain ⟨a, r, ex, h1, h2⟩ := hr.get hi
    subst ex
    exact hs i a r σ' H' (e.trans q.2) h1 (q.2 a _ h2) q.1 _ fun σ2 H2 e2 p2 => ⟨p2, q.2.trans e2⟩) fun σ' H' q => hd σ' H' (e.trans q.2) (by rw [← hr.len]; exact q.1)⟩
theorem drop_at {α : Type} {l : List α} {i : Nat} {x : α} (h : l[i]? = some x) : l.drop i = x :: l.drop (i + 1) := by
  obtain ⟨h1, h2⟩ := List.getElem?_eq_some_iff.mp h
  rw [List.drop_eq_getElem_cons h1, h2]

/-! ### phi_of, mu_of -/
def ppChk (n : Nat) : Bool := n == 0 || ((pp n).all fun r => decide (2 ≤ r.1 ∧ r.1 ≤ 201 ∧ 1 ≤ r.2 ∧ r.2 ≤ 10)) && decide (1 ≤ phiM n ∧ phiM n ≤ 201)
theorem ppChk_all : ((List.range 202).all ppChk) = true := by decide +kernel
theorem pp_ok {n : Nat} (h1 : 1 ≤ n) (h2 : n ≤ 201) : (∀ r ∈ pp n, 2 ≤ r.1 ∧ r.1 ≤ 201 ∧ 1 ≤ r.2 ∧ r.2 ≤ 10) ∧ 1 ≤ phiM n ∧ phiM n ≤ 201 := by
  have h := List.all_eq_true.mp ppChk_all n (List.mem_range.mpr (by omega))
  unfold ppChk at h
  have hn : (n == 0) = false := by
    rw [beq_eq_false_iff_ne]
    omega
  rw [hn, Bool.false_or, Bool.and_eq_true, List.all_eq_true] at h
  exact ⟨fun r hr => of_decide_eq_true (h.1 r hr), of_decide_eq_true h.2⟩
theorem phiL_le : ∀ (rs : List (Nat × Nat)) (l : Nat), True := fun _ _ => trivial
abbrev s_phi_of : Stmt := topS 19
abbrev n_phi_of : List Str := ["number", "left", "row"]
abbrev p_phi_of : List Str := ["number"]
theorem sc_phi_of : FnScope n_phi_of p_phi_of (defScope s_phi_of) := ⟨rfl, rfl, rfl, by decide +kernel, rfl, by decide +kernel, by decide +kernel⟩
-- 0 number 1 left 2 row
def sp_phi_of : Sp := fun vs H Q _ => ∃ (n : Nat), vs = [.int (n : Int)] ∧ 1 ≤ n ∧ n ≤ 201 ∧ RetV (.int (phiM n : Nat)) H Q
theorem ok_phi_of {f : Addr} {fd : FuncData} (F : Fun K "phi_of" "phi_of" s_phi_of f fd) (T : Txt mg) (c_check_number : C_check_number P w K mg base) (c_prime_powers : C_prime_powers P w K mg base) : FnOk P w K mg base CX0 3 f fd p_phi_of sp_phi_of := by
  refine F.ok sc_phi_of (fun vs H Q E h => ?_) (fun cdv A outer s H vs Q E hr h => ?_)
  · obtain ⟨n, rfl, _⟩ := h
    rfl
  · obtain ⟨n, rfl, h1, h2, k⟩ := h
    refine ⟨_, (pss_cons (ps_expr (pe_c c_check_number hr (by rfl) (pa_cons (pv 0) (pa_cons pe_int (pa_cons (pe_gint T.MOST_DIVIDED (by rfl)) pa_nil)))))
      (pss_cons (ps_set (i := 1) sc_phi_of.nd rfl (by first | exact Or.inl rfl | exact Or.inr rfl) (pv 0))
      (pss_cons (ps_for PassesOwn.never rfl (pi_listK (K := K) rfl (pe_c c_prime_powers hr (by rfl) (pa_cons (pv 0) pa_nil))) (pg_name (i := 2) sc_phi_of.nd rfl (by first | exact Or.inl rfl | exact Or.inr rfl))
      (pss_one (ps_set (i := 1) sc_phi_of.nd rfl (by first | exact Or.inl rfl | exact Or.inr rfl) (pe_op op_mul (pe_op op_fdiv (pv 1) (pe_ix (ix_tupK (K := K) rfl) (pv 2) pe_int (fun _ _ => rfl))) (pe_op op_sub (pe_ix (ix_tupK (K := K) rfl) (pv 2) pe_int (fun _ _ => rfl)) pe_int)))))
      (pss_one (ps_ret (pv 1)))))), ?_⟩
    refine q_drop (ev_call (by walk_at "ea") (sv_check_number (by omega) (by omega))) fun H1 e1 => ?_
    refine q_asg (ev_var rfl) fun H2 e2 => ?_
    have hb := (pp_ok h1 h2).1
    refine q_forRows (evG_call (by walk_at "ea") (sv_prime_powers h1 h2)) (fun i σ' => ∃ (l : Nat) (rv : Option V), σ' = [some (.int (n : Int)), some (.int (l : Int)), rv] ∧ phiL ((pp n).drop i) l = phiM n) ⟨n, none, rfl, rfl⟩ ?_ ?_
    · rintro i a r σ' H' e' hi ha ⟨l, rv, rfl, hl⟩ N hN
      have hr := hb r (List.mem_of_getElem? hi)
      rw [drop_at hi] at hl
      have g0 : ∀ H3, Ex H' H3 → Ev (tOp (rIxT K) (tVar 2) (tC (.int 0))) (List.set [some (V.int (n : Int)), some (.int (l : Int)), rv] 2 (some (.ref a))) H3 (.int (r.1 : Int)) := fun H3 e3 => ev_ixT (evG_varT rfl (e3 a _ ha)) ev_c rfl
      have h3 : CDiv (l : Int) (r.1 : Int) := ⟨by omega, by omega⟩
      have h4 : CMul ((l : Int) / (r.1 : Int)) ((r.1 : Int) - 1) := Or.inr ⟨by omega, by omega⟩
      refine s_asg (v := .int (((l / r.1 * (r.1 - 1) : Nat)) : Int)) (ev_is (ev_mul (ev_div (ev_var rfl) (g0 H' (Ex.refl _)) h3) (ev_sub (g0 H' (Ex.refl _)) ev_c) h4) ?_) fun H3 e3 => hN _ H3 e3 ⟨_, _, rfl, hl⟩
      rw [Int.natCast_mul, Int.natCast_ediv, Int.natCast_sub (by omega)]
      rfl
    · rintro σ' H' e' ⟨l, rv, rfl, hl⟩
      rw [List.drop_length] at hl
      have hl' : l = phiM n := hl
      subst hl'
      exact s_ret (ev_var rfl) fun H3 e3 => k H3 (((e1.trans e2).trans e').trans e3)
theorem sv_phi_of {n : Nat} {H : Hp} (h1 : 1 ≤ n) (h2 : n ≤ 201) : SpV sp_phi_of ([.int (n : Int)] ++ []) H (.int (phiM n : Nat)) := fun H1 e Q q E => ⟨n, rfl, h1, h2, fun H2 e2 => q H2 e2⟩
abbrev C_phi_of (P : Program) (w : World) (K : PySem.W.Frag) (mg : Str → Option Value) (base : Heap) := Cal P w K mg base 3 "phi_of" p_phi_of [] sp_phi_of
abbrev s_mu_of : Stmt := topS 20
abbrev n_mu_of : List Str := ["number", "sign", "row"]
abbrev p_mu_of : List Str := ["number"]
theorem sc_mu_of : FnScope n_mu_of p_mu_of (defScope s_mu_of) := ⟨rfl, rfl, rfl, by decide +kernel, rfl, by decide +kernel, by decide +kernel⟩
-- 0 number 1 sign 2 row
def sp_mu_of : Sp := fun vs H Q _ => ∃ (n : Nat), vs = [.int (n : Int)] ∧ 1 ≤ n ∧ n ≤ 201 ∧ RetV (.int (muM n)) H Q
theorem ok_mu_of {f : Addr} {fd : FuncData} (F : Fun K "mu_of" "mu_of" s_mu_of f fd) (T : Txt mg) (c_check_number : C_check_number P w K mg base) (c_prime_powers : C_prime_powers P w K mg base) : FnOk P w K mg base CX0 3 f fd p_mu_of sp_mu_of := by
  refine F.ok sc_mu_of (fun vs H Q E h => ?_) (fun cdv A outer s H vs Q E hr h => ?_)
  · obtain ⟨n, rfl, _⟩ := h
    rfl
  · obtain ⟨n, rfl, h1, h2, k⟩ := h
    refine ⟨_, (pss_cons (ps_expr (pe_c c_check_number hr (by rfl) (pa_cons (pv 0) (pa_cons pe_int (pa_cons (pe_gint T.MOST_DIVIDED (by rfl)) pa_nil)))))
      (pss_cons (ps_set (i := 1) sc_mu_of.nd rfl (by first | exact Or.inl rfl | exact Or.inr rfl) pe_int)
      (pss_cons (ps_for PassesOwn.never rfl (pi_listK (K := K) rfl (pe_c c_prime_powers hr (by rfl) (pa_cons (pv 0) pa_nil))) (pg_name (i := 2) sc_mu_of.nd rfl (by first | exact Or.inl rfl | exact Or.inr rfl))
      (pss_cons (ps_if (pt_cmpR op_gt (pe_ix (ix_tupK (K := K) rfl) (pv 2) pe_int (fun _ _ => rfl)) pe_int (nomark _))
        (pss_one (ps_ret pe_int))
        pss_nil)
        (pss_one (ps_set (i := 1) sc_mu_of.nd rfl (by first | exact Or.inl rfl | exact Or.inr rfl) (pe_un un_neg (pv 1))))))
      (pss_one (ps_ret (pv 1)))))), ?_⟩
    refine q_drop (ev_call (by walk_at "ea") (sv_check_number (by omega) (by omega))) fun H1 e1 => ?_
    refine q_asg ev_c fun H2 e2 => ?_
    refine q_forRows (evG_call (by walk_at "ea") (sv_prime_powers h1 h2)) (fun i σ' => ∃ (l : Int) (rv : Option V), σ' = [some (.int (n : Int)), some (.int l), rv] ∧ muL ((pp n).drop i) l = muM n) ⟨1, none, rfl, rfl⟩ ?_ ?_
    · rintro i a r σ' H' e' hi ha ⟨l, rv, rfl, hl⟩ N hN
      rw [drop_at hi] at hl
      have un : muL (r :: (pp n).drop (i + 1)) l = if 1 < r.2 then 0 else muL ((pp n).drop (i + 1)) (-l) := rfl
      rw [un] at hl
      refine q_when (b := decide ((1 : Int) < (r.2 : Int))) (et_test (ev_gt (ev_ixT (evG_varT rfl ha) ev_c rfl) ev_c)) (fun hc H3 e3 => ?_) fun hc H3 e3 => ?_
      · have hc : 1 < r.2 := by have := of_decide_eq_true hc; omega
        rw [if_pos hc] at hl
        rw [← hl] at k
        exact s_ret ev_c fun H4 e4 => k H4 ((((e1.trans e2).trans e').trans e3).trans e4)
      · have hc : ¬ 1 < r.2 := by have := of_decide_eq_false hc; omega
        rw [if_neg hc] at hl
        exact s_asg (v := .int (-l)) (by walk_at "ev") fun H4 e4 => hN _ H4 (e3.trans e4) ⟨_, _, rfl, hl⟩
    · rintro σ' H' e' ⟨l, rv, rfl, hl⟩
      rw [List.drop_length] at hl
      have hl' : l = muM n := hl
      subst hl'
      exact s_ret (ev_var rfl) fun H3 e3 => k H3 (((e1.trans e2).trans e').trans e3)
theorem sv_mu_of {n : Nat} {H : Hp} (h1 : 1 ≤ n) (h2 : n ≤ 201) : SpV sp_mu_of ([.int (n : Int)] ++ []) H (.int (muM n)) := fun H1 e Q q E => ⟨n, rfl, h1, h2, fun H2 e2 => q H2 e2⟩
abbrev C_mu_of (P : Program) (w : World) (K : PySem.W.Frag) (mg : Str → Option Value) (base : Heap) := Cal P w K mg base 3 "mu_of" p_mu_of [] sp_mu_of

/-! ### common_divisor, ram_of -/
abbrev s_common_divisor : Stmt := topS 21
abbrev n_common_divisor : List Str := ["one", "other", "low", "high"]
abbrev p_common_divisor : List Str := ["one", "other"]
theorem sc_common_divisor : FnScope n_common_divisor p_common_divisor (defScope s_common_divisor) := ⟨rfl, rfl, rfl, by decide +kernel, rfl, by decide +kernel, by decide +kernel⟩
-- 0 one 1 other 2 low 3 high
def sp_common_divisor : Sp := fun vs H Q _ => ∃ (a b : Nat), vs = [.int (a : Int), .int (b : Int)] ∧ a ≤ 2000 ∧ b ≤ 2000 ∧ RetV (.int (Nat.gcd a b : Nat)) H Q
theorem ok_common_divisor {f : Addr} {fd : FuncData} (F : Fun K "common_divisor" "common_divisor" s_common_divisor f fd) (T : Txt mg) (c_check_number : C_check_number P w K mg base) : FnOk P w K mg base CX0 3 f fd p_common_divisor sp_common_divisor := by
  refine F.ok sc_common_divisor (fun vs H Q E h => ?_) (fun cdv A outer s H vs Q E hr h => ?_)
  · obtain ⟨a, b, rfl, _⟩ := h
    rfl
  · obtain ⟨a, b, rfl, h1, h2, k⟩ := h
    refine ⟨_, (pss_cons (ps_expr (pe_c c_check_number hr (by rfl) (pa_cons (pv 0) (pa_cons pe_int (pa_cons (pe_gint T.MOST_DIVIDED (by rfl)) pa_nil)))))
      (pss_cons (ps_expr (pe_c c_check_number hr (by rfl) (pa_cons (pv 1) (pa_cons pe_int (pa_cons (pe_gint T.MOST_DIVIDED (by rfl)) pa_nil)))))
      (pss_cons (ps_par (i := 2) (j := 3) (by rfl) sc_common_divisor.nd rfl rfl (by decide) rfl rfl (pa_cons (pv 0) (pa_cons (pv 1) pa_nil)) (by rfl))
      (pss_cons (ps_while PassesOwn.never (pt_cmpR op_gt (pv 2) pe_int (nomark _))
      (pss_one (ps_par (i := 2) (j := 3) (by rfl) sc_common_divisor.nd rfl rfl (by decide) rfl rfl (pa_cons (pe_op op_mod (pv 3) (pv 2)) (pa_cons (pv 2) pa_nil)) (by rfl))))
      (pss_one (ps_ret (pv 3))))))), ?_⟩
    refine q_drop (ev_call (by walk_at "ea") (sv_check_number (by omega) (by omega))) fun H1 e1 => ?_
    refine q_drop (ev_call (by walk_at "ea") (sv_check_number (by omega) (by omega))) fun H2 e2 => ?_
    refine q_par (x := .int (a : Int)) (y := .int (b : Int)) (by walk_at "ea") fun H3 e3 => ?_
    refine q_whileE (fun m σ' => ∃ (y : Nat), σ' = [some (.int (a : Int)), some (.int (b : Int)), some (.int (m : Int)), some (.int (y : Int))] ∧ Nat.gcd m y = Nat.gcd a b) a ⟨b, rfl, rfl⟩ ?_
    rintro m σ' H' e' ⟨y, rfl, hg⟩
    refine ⟨decide ((0 : Int) < (m : Int)), by walk_at "et", fun hb H4 e4 N hN => ?_, fun hb H4 e4 => ?_⟩
    · have hb : 0 < m := by have := of_decide_eq_true hb; omega
      have hmz : 0 < (m : Int) := by omega
      refine s_par (x := .int ((y % m : Nat) : Int)) (y := .int (m : Int)) (ea_cons (ev_is (v := .int ((y : Int) % (m : Int))) (by walk_at "ev") (by rw [Int.natCast_emod])) (by walk_at "ea")) fun H5 e5 => ?_
      refine hN (y % m) _ H5 e5 (Nat.mod_lt _ hb) ⟨m, rfl, ?_⟩
      rw [← hg]
      exact (Nat.gcd_rec m y).symm
    · have hb : m = 0 := by have := of_decide_eq_false hb; omega
      subst hb
      rw [Nat.gcd_zero_left] at hg
      subst hg
      exact s_ret (ev_var rfl) fun H5 e5 => k H5 (((((e1.trans e2).trans e3).trans e').trans e4).trans e5)
theorem sv_common_divisor {a b : Nat} {H : Hp} (h1 : a ≤ 2000) (h2 : b ≤ 2000) : SpV sp_common_divisor ([.int (a : Int), .int (b : Int)] ++ []) H (.int (Nat.gcd a b : Nat)) := fun H1 e Q q E => ⟨a, b, rfl, h1, h2, fun H2 e2 => q H2 e2⟩
abbrev C_common_divisor (P : Program) (w : World) (K : PySem.W.Frag) (mg : Str → Option Value) (base : Heap) := Cal P w K mg base 3 "common_divisor" p_common_divisor [] sp_common_divisor
abbrev s_ram_of : Stmt := topS 22
abbrev n_ram_of : List Str := ["number", "rest", "left"]
abbrev p_ram_of : List Str := ["number", "rest"]
theorem sc_ram_of : FnScope n_ram_of p_ram_of (defScope s_ram_of) := ⟨rfl, rfl, rfl, by decide +kernel, rfl, by decide +kernel, by decide +kernel⟩
-- 0 number 1 rest 2 left
def sp_ram_of : Sp := fun vs H Q _ => ∃ (n r : Nat), vs = [.int (n : Int), .int (r : Int)] ∧ 1 ≤ n ∧ n ≤ 201 ∧ r ≤ 2000 ∧ RetV (.int (ramM n r)) H Q
theorem ok_ram_of {f : Addr} {fd : FuncData} (F : Fun K "ram_of" "ram_of" s_ram_of f fd) (T : Txt mg) (c_check_number : C_check_number P w K mg base) (c_common_divisor : C_common_divisor P w K mg base) (c_phi_of : C_phi_of P w K mg base) (c_mu_of : C_mu_of P w K mg base) : FnOk P w K mg base CX0 4 f fd p_ram_of sp_ram_of := by
  refine F.ok sc_ram_of (fun vs H Q E h => ?_) (fun cdv A outer s H vs Q E hr h => ?_)
  · obtain ⟨n, r, rfl, _⟩ := h
    rfl
  · obtain ⟨n, r, rfl, h1, h2, h3, k⟩ := h
    refine ⟨_, (pss_cons (ps_expr (pe_c c_check_number hr (by rfl) (pa_cons (pv 0) (pa_cons pe_int (pa_cons (pe_gint T.MOST_DIVIDED (by rfl)) pa_nil)))))
      (pss_cons (ps_expr (pe_c c_check_number hr (by rfl) (pa_cons (pv 1) (pa_cons pe_int (pa_cons (pe_gint T.MOST_DIVIDED (by rfl)) pa_nil)))))
      (pss_cons (ps_set (i := 2) sc_ram_of.nd rfl (by first | exact Or.inl rfl | exact Or.inr rfl) (pe_op op_fdiv (pv 0) (pe_c c_common_divisor hr (by rfl) (pa_cons (pv 0) (pa_cons (pv 1) pa_nil)))))
      (pss_one (ps_ret (pe_op op_fdiv (pe_op op_mul (pe_c c_phi_of hr (by rfl) (pa_cons (pv 0) pa_nil)) (pe_c c_mu_of hr (by rfl) (pa_cons (pv 2) pa_nil))) (pe_c c_phi_of hr (by rfl) (pa_cons (pv 2) pa_nil)))))))), ?_⟩
    refine q_drop (ev_call (by walk_at "ea") (sv_check_number (by omega) (by omega))) fun H1 e1 => ?_
    refine q_drop (ev_call (by walk_at "ea") (sv_check_number (by omega) (by omega))) fun H2 e2 => ?_
    have hg0 : 0 < Nat.gcd n r := Nat.gcd_pos_of_pos_left _ (by omega)
    have hgn : Nat.gcd n r ≤ n := Nat.le_of_dvd (by omega) (Nat.gcd_dvd_left n r)
    have hl1 : 1 ≤ n / Nat.gcd n r := Nat.div_pos hgn hg0
    have hl2 : n / Nat.gcd n r ≤ 201 := Nat.le_trans (Nat.div_le_self _ _) h2
    have p1 := (pp_ok h1 h2).2
    have p2 := (pp_ok hl1 hl2).2
    refine q_asg (v := .int ((n / Nat.gcd n r : Nat) : Int)) (ev_is (ev_div (ev_var rfl) (ev_call (by walk_at "ea") (sv_common_divisor (by omega) h3)) ⟨by omega, by omega⟩) (by rw [Int.natCast_ediv])) fun H3 e3 => ?_
    exact s_ret (ev_div (ev_mul (ev_call (by walk_at "ea") (sv_phi_of h1 h2)) (ev_call (by walk_at "ea") (sv_mu_of hl1 hl2)) (Or.inl ⟨by omega, by omega⟩)) (ev_call (by walk_at "ea") (sv_phi_of hl1 hl2)) ⟨by omega, by omega⟩) fun H4 e4 => k H4 (((e1.trans e2).trans e3).trans e4)
theorem sv_ram_of {n r : Nat} {H : Hp} (h1 : 1 ≤ n) (h2 : n ≤ 201) (h3 : r ≤ 2000) : SpV sp_ram_of ([.int (n : Int), .int (r : Int)] ++ []) H (.int (ramM n r)) := fun H1 e Q q E => ⟨n, r, rfl, h1, h2, h3, fun H2 e2 => q H2 e2⟩
abbrev C_ram_of (P : Program) (w : World) (K : PySem.W.Frag) (mg : Str → Option Value) (base : Heap) := Cal P w K mg base 4 "ram_of" p_ram_of [] sp_ram_of
end
end K47

set_option maxHeartbeats 4000000
namespace K47
open PySem PySem.Spec PyProof.Rows L2 Evl
local macro_rules | `(tactic| walk_at "evs") => `(tactic| first | assumption | omega | decide | exact ⟨by omega, by omega⟩ | exact Or.inl ⟨by omega, by omega⟩ | exact Or.inr ⟨by omega, by omega⟩)
local macro_rules | `(tactic| walk_at "ev") => `(tactic| first
  | with_reducible exact ev_c
  | ((with_reducible apply ev_var); rfl)
  | ((with_reducible apply ev_add) <;> walk_at "ev")
  | ((with_reducible apply ev_sub) <;> walk_at "ev")
  | ((with_reducible apply ev_neg) <;> walk_at "ev")
  | ((with_reducible apply ev_int1) <;> walk_at "ev")
  | ((with_reducible apply ev_mod); (· walk_at "ev"); (· walk_at "ev"); (· walk_at "evs"))
  | ((with_reducible apply ev_div); (· walk_at "ev"); (· walk_at "ev"); (· walk_at "evs"))
  | ((with_reducible apply ev_mul); (· walk_at "ev"); (· walk_at "ev"); (· walk_at "evs"))
  | ((with_reducible apply ev_lt) <;> walk_at "ev")
  | ((with_reducible apply ev_le) <;> walk_at "ev")
  | ((with_reducible apply ev_gt) <;> walk_at "ev")
  | ((with_reducible apply ev_ge) <;> walk_at "ev")
  | ((with_reducible apply ev_eq) <;> walk_at "ev")
  | ((with_reducible apply ev_ne) <;> walk_at "ev")
  | ((with_reducible apply ev_min2) <;> walk_at "ev")
  | (apply ev_isi (a := "int") (ty := tyx_int) (e := isi_int_int) <;> walk_at "ev")
  | (apply ev_isi (a := "int") (ty := tyx_int) (e := isi_int_bool) <;> walk_at "ev"))
local macro_rules | `(tactic| walk_at "et") => `(tactic| first
  | ((with_reducible apply et_test); walk_at "ev")
  | ((with_reducible apply et_B); walk_at "ev")
  | ((with_reducible apply et_not); walk_at "et"))
local macro_rules | `(tactic| walk_at "ea") => `(tactic| first
  | with_reducible exact ea_nil
  | ((with_reducible apply ea_cons); (· walk_at "ev"); (· walk_at "ea")))

section
variable {P : Program} {w : World} {K : PySem.W.Frag} {mg : Str → Option Value} {base : Heap}
def dvChk (n : Nat) : Bool := n == 0 || ((divs n).all fun d => decide (1 ≤ d ∧ d ≤ n ∧ n % d = 0)) && decide (-1 ≤ muM n ∧ muM n ≤ 1)
theorem dvChk_all : ((List.range 202).all dvChk) = true := by decide +kernel
theorem dv_ok {n : Nat} (h1 : 1 ≤ n) (h2 : n ≤ 201) : (∀ d ∈ divs n, 1 ≤ d ∧ d ≤ n ∧ n % d = 0) ∧ -1 ≤ muM n ∧ muM n ≤ 1 := by
  have h := List.all_eq_true.mp dvChk_all n (List.mem_range.mpr (by omega))
  unfold dvChk at h
  have hn : (n == 0) = false := by
    rw [beq_eq_false_iff_ne]
    omega
  rw [hn, Bool.false_or, Bool.and_eq_true, List.all_eq_true] at h
  exact ⟨fun r hr => of_decide_eq_true (h.1 r hr), of_decide_eq_true h.2⟩
theorem div_small {a b : Int} (h1 : -201 ≤ a) (h2 : a ≤ 201) (hb : 1 ≤ b) : -201 ≤ a / b ∧ a / b ≤ 201 :=
  ⟨Int.le_ediv_of_mul_le (by omega) (by omega), Int.ediv_le_of_le_mul (by omega) (by omega)⟩
theorem ram_small {d r : Nat} (h1 : 1 ≤ d) (h2 : d ≤ 201) : -201 ≤ ramM d r ∧ ramM d r ≤ 201 := by
  have hg0 : 0 < Nat.gcd d r := Nat.gcd_pos_of_pos_left _ (by omega)
  have hgn : Nat.gcd d r ≤ d := Nat.le_of_dvd (by omega) (Nat.gcd_dvd_left d r)
  have hl1 : 1 ≤ d / Nat.gcd d r := Nat.div_pos hgn hg0
  have hl2 : d / Nat.gcd d r ≤ 201 := Nat.le_trans (Nat.div_le_self _ _) h2
  have p1 := (pp_ok h1 h2).2
  have p2 := (pp_ok hl1 hl2).2
  have p3 := (dv_ok hl1 hl2).2
  unfold ramM
  have hm : muM (d / Nat.gcd d r) = -1 ∨ muM (d / Nat.gcd d r) = 0 ∨ muM (d / Nat.gcd d r) = 1 := by omega
  refine div_small ?_ ?_ (by omega)
  · rcases hm with h | h | h <;> rw [h] <;> omega
  · rcases hm with h | h | h <;> rw [h] <;> omega

/-! ### check_sized -/
abbrev s_check_sized : Stmt := topS 35
abbrev n_check_sized : List Str := ["length", "rest"]
abbrev p_check_sized : List Str := ["length", "rest"]
theorem sc_check_sized : FnScope n_check_sized p_check_sized (defScope s_check_sized) := ⟨rfl, rfl, rfl, by decide +kernel, rfl, by decide +kernel, by decide +kernel⟩
def sp_check_sized : Sp := fun vs H Q _ => ∃ (n r : Nat), vs = [.int (n : Int), .int (r : Int)] ∧ n ≤ 200 ∧ r ≤ n ∧ RetV .non H Q
theorem ok_check_sized {f : Addr} {fd : FuncData} (F : Fun K "check_sized" "check_sized" s_check_sized f fd) (T : Txt mg) (c_is_whole : C_is_whole P w K mg base) (c_check_number : C_check_number P w K mg base) : FnOk P w K mg base CX0 3 f fd p_check_sized sp_check_sized := by
  refine F.ok sc_check_sized (fun vs H Q E h => ?_) (fun cdv A outer s H vs Q E hr h => ?_)
  · obtain ⟨n, r, rfl, _⟩ := h
    rfl
  · obtain ⟨n, r, rfl, h1, h2, k⟩ := h
    refine ⟨_, (pss_cons (ps_expr (pe_c c_check_number hr (by rfl) (pa_cons (pv 0) (pa_cons pe_int (pa_cons (pe_gint T.MOST_SIZED (by rfl)) pa_nil)))))
      (pss_one (ps_if (pt_not (pt_val (pe_c c_is_whole hr (by rfl) (pa_cons (pv 1) (pa_cons pe_int (pa_cons (pv 0) pa_nil))))))
      (pss_one ps_never)
      pss_nil))), ?_⟩
    refine q_drop (ev_call (by walk_at "ea") (sv_check_number (by omega) (by omega))) fun H1 e1 => ?_
    refine s_pass (b := false) (et_not (a := true) (et_B (ev_call (by walk_at "ea") (sv_is_whole (decide_eq_true ⟨by omega, by omega⟩))))) rfl fun H2 e2 => ?_
    exact k H2 (e1.trans e2)
theorem sv_check_sized {n r : Nat} {H : Hp} (h1 : n ≤ 200) (h2 : r ≤ n) : SpV sp_check_sized ([.int (n : Int), .int (r : Int)] ++ []) H .non := fun H1 e Q q E => ⟨n, r, rfl, h1, h2, fun H2 e2 => q H2 e2⟩
abbrev C_check_sized (P : Program) (w : World) (K : PySem.W.Frag) (mg : Str → Option Value) (base : Heap) := Cal P w K mg base 3 "check_sized" p_check_sized [] sp_check_sized
theorem divN {n d : Nat} : ((n : Int) + 1) / (d : Int) = (((n + 1) / d : Nat) : Int) := by
  rw [Int.natCast_ediv, Int.natCast_add]
  rfl

/-! ### size_of -/
abbrev s_size_of : Stmt := topS 36
abbrev n_size_of : List Str := ["length", "rest", "total", "divisor"]
abbrev p_size_of : List Str := ["length", "rest"]
theorem sc_size_of : FnScope n_size_of p_size_of (defScope s_size_of) := ⟨rfl, rfl, rfl, by decide +kernel, rfl, by decide +kernel, by decide +kernel⟩
-- 0 length 1 rest 2 total 3 divisor
def sp_size_of : Sp := fun vs H Q _ => ∃ (n r : Nat), vs = [.int (n : Int), .int (r : Int)] ∧ n ≤ 200 ∧ r ≤ n ∧ RetV (.int (sizeM n r)) H Q
theorem ok_size_of {f : Addr} {fd : FuncData} (F : Fun K "size_of" "size_of" s_size_of f fd) (T : Txt mg) (c_check_sized : C_check_sized P w K mg base) (c_divisors_of : C_divisors_of P w K mg base) (c_ram_of : C_ram_of P w K mg base) (c_power_of : C_power_of P w K mg base) : FnOk P w K mg base CX0 5 f fd p_size_of sp_size_of := by
  refine F.ok sc_size_of (fun vs H Q E h => ?_) (fun cdv A outer s H vs Q E hr h => ?_)
  · obtain ⟨n, r, rfl, _⟩ := h
    rfl
  · obtain ⟨n, r, rfl, h1, h2, k⟩ := h
    refine ⟨_, (pss_cons (ps_expr (pe_c c_check_sized hr (by rfl) (pa_cons (pv 0) (pa_cons (pv 1) pa_nil))))
      (pss_cons (ps_set (i := 2) sc_size_of.nd rfl (by first | exact Or.inl rfl | exact Or.inr rfl) pe_int)
      (pss_cons (ps_for PassesOwn.never rfl (pi_tupK (K := K) rfl (pe_c c_divisors_of hr (by rfl) (pa_cons (pe_op op_add (pv 0) pe_int) pa_nil))) (pg_name (i := 3) sc_size_of.nd rfl (by first | exact Or.inl rfl | exact Or.inr rfl))
      (pss_one (ps_if (pt_cmpR op_eq (pe_op op_mod (pv 3) pe_int) pe_int (nomark _))
        (pss_one (ps_set (i := 2) sc_size_of.nd rfl (by first | exact Or.inl rfl | exact Or.inr rfl) (pe_op op_add (pv 2) (pe_op op_mul (pe_c c_ram_of hr (by rfl) (pa_cons (pv 3) (pa_cons (pv 1) pa_nil))) (pe_c c_power_of hr (by rfl) (pa_cons pe_int (pa_cons (pe_op op_fdiv (pe_op op_add (pv 0) pe_int) (pv 3)) pa_nil)))))))
        pss_nil)))
      (pss_one (ps_ret (pe_op op_fdiv (pv 2) (pe_op op_mul pe_int (pe_op op_add (pv 0) pe_int)))))))), ?_⟩
    refine q_drop (ev_call (by walk_at "ea") (sv_check_sized h1 h2)) fun H1 e1 => ?_
    refine q_asg ev_c fun H2 e2 => ?_
    have en : ((n : Int) + 1) = ((n + 1 : Nat) : Int) := rfl
    refine q_forTE (evG_call (ea_cons (ev_is (by walk_at "ev") (congrArg V.int en)) ea_nil) (sv_divisors_of (n := n + 1) (by omega) (by omega))) (fun i σ' => ∃ (t : Int) (dv : Option V), σ' = [some (.int (n : Int)), some (.int (r : Int)), some (.int t), dv] ∧ sizeF n r ((divs (n + 1)).drop i) t = sizeF n r (divs (n + 1)) 0) ⟨0, none, rfl, rfl⟩ ?_ ?_
    · rintro i x σ' H' e' hx ⟨t, dv, rfl, hS⟩ N hN
      obtain ⟨d, rfl, hi, hm⟩ := vN_get hx
      have hd := (dv_ok (n := n + 1) (by omega) (by omega)).1 d hm
      rw [drop_at hi] at hS
      have un : sizeF n r (d :: (divs (n + 1)).drop (i + 1)) t = sizeF n r ((divs (n + 1)).drop (i + 1)) (if d % 2 = 1 then t + ramM d r * 2 ^ ((n + 1) / d) else t) := rfl
      rw [un] at hS
      refine s_when (b := decide ((d : Int) % 2 = 1)) (by walk_at "et") (fun hc H3 e3 => ?_) fun hc H3 e3 => ?_
      · have hc : d % 2 = 1 := by have := of_decide_eq_true hc; omega
        rw [if_pos hc] at hS
        have hrs := ram_small (d := d) (r := r) hd.1 (by omega)
        have hle : (n + 1) / d ≤ 201 := Nat.le_trans (Nat.div_le_self _ _) (by omega)
        have hcd : CDiv ((n : Int) + 1) (d : Int) := ⟨by omega, by omega⟩
        exact s_asg (v := .int (t + ramM d r * 2 ^ ((n + 1) / d))) (ev_add (ev_var rfl) (ev_mul (ev_call (by walk_at "ea") (sv_ram_of hd.1 (by omega) (by omega)))
          (ev_call (ea_cons ev_c (ea_cons (ev_is (by walk_at "ev") (congrArg V.int divN)) ea_nil)) (sv_power_of (b := 2) (e := (n + 1) / d) ⟨by omega, by omega⟩ (by omega) rfl)) (Or.inl ⟨by omega, by omega⟩))) fun H4 e4 => hN _ H4 (e3.trans e4) ⟨_, _, rfl, hS⟩
      · have hc : ¬ d % 2 = 1 := by have := of_decide_eq_false hc; omega
        rw [if_neg hc] at hS
        exact hN _ H3 e3 ⟨_, _, rfl, hS⟩
    · rintro σ' H' e' ⟨t, dv, rfl, hS⟩
      rw [vN_len, List.drop_length] at hS
      have hS' : t = sizeF n r (divs (n + 1)) 0 := hS
      refine s_ret (v := .int (sizeM n r)) (ev_is (v := .int (t / (2 * ((n : Int) + 1)))) (by
        refine ev_div (ev_var rfl) (ev_mul ev_c (by walk_at "ev") (Or.inl ⟨by omega, by omega⟩)) ⟨by omega, by omega⟩) ?_) fun H4 e4 => k H4 (((e1.trans e2).trans e').trans e4)
      rw [hS']
      rfl
theorem sv_size_of {n r : Nat} {H : Hp} (h1 : n ≤ 200) (h2 : r ≤ n) : SpV sp_size_of ([.int (n : Int), .int (r : Int)] ++ []) H (.int (sizeM n r)) := fun H1 e Q q E => ⟨n, r, rfl, h1, h2, fun H2 e2 => q H2 e2⟩
abbrev C_size_of (P : Program) (w : World) (K : PySem.W.Frag) (mg : Str → Option Value) (base : Heap) := Cal P w K mg base 5 "size_of" p_size_of [] sp_size_of

/-! ### size_by_ones -/
abbrev s_size_by_ones : Stmt := topS 37
abbrev n_size_by_ones : List Str := ["length", "rest", "ones", "total", "divisor", "part"]
abbrev p_size_by_ones : List Str := ["length", "rest", "ones"]
theorem sc_size_by_ones : FnScope n_size_by_ones p_size_by_ones (defScope s_size_by_ones) := ⟨rfl, rfl, rfl, by decide +kernel, rfl, by decide +kernel, by decide +kernel⟩
-- 0 length 1 rest 2 ones 3 total 4 divisor 5 part
def sp_size_by_ones : Sp := fun vs H Q _ => ∃ (n r o : Nat), vs = [.int (n : Int), .int (r : Int), .int (o : Int)] ∧ n ≤ 200 ∧ r ≤ n ∧ o ≤ n ∧ RetV (.int (sboM n r o)) H Q
theorem ok_size_by_ones {f : Addr} {fd : FuncData} (F : Fun K "size_by_ones" "size_by_ones" s_size_by_ones f fd) (T : Txt mg) (c_check_sized : C_check_sized P w K mg base) (c_check_number : C_check_number P w K mg base) (c_divisors_of : C_divisors_of P w K mg base) (c_ram_of : C_ram_of P w K mg base) (c_choose_of : C_choose_of P w K mg base) : FnOk P w K mg base CX0 5 f fd p_size_by_ones sp_size_by_ones := by
  refine F.ok sc_size_by_ones (fun vs H Q E h => ?_) (fun cdv A outer s H vs Q E hr h => ?_)
  · obtain ⟨n, r, o, rfl, _⟩ := h
    rfl
  · obtain ⟨n, r, o, rfl, h1, h2, h3, k⟩ := h
    refine ⟨_, (pss_cons (ps_expr (pe_c c_check_sized hr (by rfl) (pa_cons (pv 0) (pa_cons (pv 1) pa_nil))))
      (pss_cons (ps_expr (pe_c c_check_number hr (by rfl) (pa_cons (pv 2) (pa_cons pe_int (pa_cons (pv 0) pa_nil)))))
      (pss_cons (ps_set (i := 3) sc_size_by_ones.nd rfl (by first | exact Or.inl rfl | exact Or.inr rfl) pe_int)
      (pss_cons (ps_for PassesOwn.never rfl (pi_tupK (K := K) rfl (pe_c c_divisors_of hr (by rfl) (pa_cons (pe_op op_add (pv 0) pe_int) pa_nil))) (pg_name (i := 4) sc_size_by_ones.nd rfl (by first | exact Or.inl rfl | exact Or.inr rfl))
      (pss_cons (ps_set (i := 5) sc_size_by_ones.nd rfl (by first | exact Or.inl rfl | exact Or.inr rfl) (pe_op op_mul (pe_c c_ram_of hr (by rfl) (pa_cons (pv 4) (pa_cons (pv 1) pa_nil))) (pe_c c_choose_of hr (by rfl) (pa_cons (pe_op op_sub (pe_op op_fdiv (pe_op op_add (pv 0) pe_int) (pv 4)) pe_int) (pa_cons (pe_op op_fdiv (pv 2) (pv 4)) pa_nil)))))
        (pss_one (ps_set (i := 3) sc_size_by_ones.nd rfl (by first | exact Or.inl rfl | exact Or.inr rfl) (pe_ifExp (pt_cmpR op_eq (pe_op op_mod (pe_op op_add (pv 2) (pe_op op_fdiv (pv 2) (pv 4))) pe_int) pe_int (nomark _)) (pe_op op_sub (pv 3) (pv 5)) (pe_op op_add (pv 3) (pv 5)))))))
      (pss_one (ps_ret (pe_op op_fdiv (pv 3) (pe_op op_add (pv 0) pe_int)))))))), ?_⟩
    refine q_drop (ev_call (by walk_at "ea") (sv_check_sized h1 h2)) fun H1 e1 => ?_
    refine q_drop (ev_call (by walk_at "ea") (sv_check_number (by omega) (by omega))) fun H1' e1' => ?_
    refine q_asg ev_c fun H2 e2 => ?_
    have en : ((n : Int) + 1) = ((n + 1 : Nat) : Int) := rfl
    refine q_forTE (evG_call (ea_cons (ev_is (by walk_at "ev") (congrArg V.int en)) ea_nil) (sv_divisors_of (n := n + 1) (by omega) (by omega))) (fun i σ' => ∃ (t : Int) (dv pv : Option V), σ' = [some (.int (n : Int)), some (.int (r : Int)), some (.int (o : Int)), some (.int t), pv, dv] ∧ sboF n r o ((divs (n + 1)).drop i) t = sboF n r o (divs (n + 1)) 0) ⟨0, none, none, rfl, rfl⟩ ?_ ?_
    · rintro i x σ' H' e' hx ⟨t, dv, pv, rfl, hS⟩ N hN
      obtain ⟨d, rfl, hi, hm⟩ := vN_get hx
      have hd := (dv_ok (n := n + 1) (by omega) (by omega)).1 d hm
      rw [drop_at hi] at hS
      have un : sboF n r o (d :: (divs (n + 1)).drop (i + 1)) t = sboF n r o ((divs (n + 1)).drop (i + 1)) (if (o + o / d) % 2 = 1 then t - ramM d r * (chooseP ((n + 1) / d - 1) (o / d) : Int) else t + ramM d r * (chooseP ((n + 1) / d - 1) (o / d) : Int)) := rfl
      rw [un] at hS
      have hrs := ram_small (d := d) (r := r) hd.1 (by omega)
      have hle : (n + 1) / d ≤ 201 := Nat.le_trans (Nat.div_le_self _ _) (by omega)
      have hge : 1 ≤ (n + 1) / d := Nat.div_pos hd.2.1 (by omega)
      have hcd : CDiv ((n : Int) + 1) (d : Int) := ⟨by omega, by omega⟩
      have hcd2 : CDiv (o : Int) (d : Int) := ⟨by omega, by omega⟩
      have ec : ((n : Int) + 1) / (d : Int) - 1 = (((n + 1) / d - 1 : Nat) : Int) := by
        rw [divN, Int.natCast_sub hge]
        rfl
      have eo : (o : Int) / (d : Int) = ((o / d : Nat) : Int) := by rw [Int.natCast_ediv]
      refine q_asg (v := .int (ramM d r * (chooseP ((n + 1) / d - 1) (o / d) : Int))) (ev_mul (ev_call (by walk_at "ea") (sv_ram_of hd.1 (by omega) (by omega)))
        (ev_call (ea_cons (ev_is (by walk_at "ev") (congrArg V.int ec)) (ea_cons (ev_is (by walk_at "ev") (congrArg V.int eo)) ea_nil)) (sv_choose_of (by omega))) (Or.inl ⟨by omega, by omega⟩)) fun H3 e3 => ?_
      have hcond : decide (((o : Int) + (o : Int) / (d : Int)) % 2 = 1) = decide ((o + o / d) % 2 = 1) := by
        rw [eo]
        exact decide_eq_decide.mpr (by omega)
      refine s_asg (v := .int (if (o + o / d) % 2 = 1 then t - ramM d r * (chooseP ((n + 1) / d - 1) (o / d) : Int) else t + ramM d r * (chooseP ((n + 1) / d - 1) (o / d) : Int))) (ev_if (b := decide ((o + o / d) % 2 = 1)) (et_is (by walk_at "et") hcond) (fun hb => ?_) fun hb => ?_) fun H4 e4 => hN _ H4 (e3.trans e4) ⟨_, _, _, rfl, hS⟩
      · rw [if_pos (of_decide_eq_true hb)]
        walk_at "ev"
      · rw [if_neg (of_decide_eq_false hb)]
        walk_at "ev"
    · rintro σ' H' e' ⟨t, dv, pv, rfl, hS⟩
      rw [vN_len, List.drop_length] at hS
      have hS' : t = sboF n r o (divs (n + 1)) 0 := hS
      refine s_ret (v := .int (sboM n r o)) (ev_is (v := .int (t / ((n : Int) + 1))) (by
        refine ev_div (ev_var rfl) (by walk_at "ev") ⟨by omega, by omega⟩) ?_) fun H4 e4 => k H4 ((((e1.trans e1').trans e2).trans e').trans e4)
      rw [hS']
      rfl
theorem sv_size_by_ones {n r o : Nat} {H : Hp} (h1 : n ≤ 200) (h2 : r ≤ n) (h3 : o ≤ n) : SpV sp_size_by_ones ([.int (n : Int), .int (r : Int), .int (o : Int)] ++ []) H (.int (sboM n r o)) := fun H1 e Q q E => ⟨n, r, o, rfl, h1, h2, h3, fun H2 e2 => q H2 e2⟩
abbrev C_size_by_ones (P : Program) (w : World) (K : PySem.W.Frag) (mg : Str → Option Value) (base : Heap) := Cal P w K mg base 5 "size_by_ones" p_size_by_ones [] sp_size_by_ones

/-! ### single_rings -/
abbrev s_single_rings : Stmt := topS 31
abbrev n_single_rings : List Str := ["length", "total", "divisor"]
abbrev p_single_rings : List Str := ["length"]
theorem sc_single_rings : FnScope n_single_rings p_single_rings (defScope s_single_rings) := ⟨rfl, rfl, rfl, by decide +kernel, rfl, by decide +kernel, by decide +kernel⟩
-- 0 length 1 total 2 divisor
def sp_single_rings : Sp := fun vs H Q _ => ∃ (l : Nat), vs = [.int (l : Int)] ∧ 1 ≤ l ∧ l ≤ 201 ∧ RetV (.int (singM l)) H Q
theorem ok_single_rings {f : Addr} {fd : FuncData} (F : Fun K "single_rings" "single_rings" s_single_rings f fd) (T : Txt mg) (c_check_number : C_check_number P w K mg base) (c_divisors_of : C_divisors_of P w K mg base) (c_mu_of : C_mu_of P w K mg base) (c_power_of : C_power_of P w K mg base) : FnOk P w K mg base CX0 4 f fd p_single_rings sp_single_rings := by
  refine F.ok sc_single_rings (fun vs H Q E h => ?_) (fun cdv A outer s H vs Q E hr h => ?_)
  · obtain ⟨l, rfl, _⟩ := h
    rfl
  · obtain ⟨l, rfl, h1, h2, k⟩ := h
    refine ⟨_, (pss_cons (ps_expr (pe_c c_check_number hr (by rfl) (pa_cons (pv 0) (pa_cons pe_int (pa_cons (pe_gint T.MOST_SINGLE (by rfl)) pa_nil)))))
      (pss_cons (ps_set (i := 1) sc_single_rings.nd rfl (by first | exact Or.inl rfl | exact Or.inr rfl) pe_int)
      (pss_cons (ps_for PassesOwn.never rfl (pi_tupK (K := K) rfl (pe_c c_divisors_of hr (by rfl) (pa_cons (pv 0) pa_nil))) (pg_name (i := 2) sc_single_rings.nd rfl (by first | exact Or.inl rfl | exact Or.inr rfl))
      (pss_one (ps_if (pt_cmpR op_eq (pe_op op_mod (pv 2) pe_int) pe_int (nomark _))
        (pss_one (ps_set (i := 1) sc_single_rings.nd rfl (by first | exact Or.inl rfl | exact Or.inr rfl) (pe_op op_add (pv 1) (pe_op op_mul (pe_c c_mu_of hr (by rfl) (pa_cons (pv 2) pa_nil)) (pe_c c_power_of hr (by rfl) (pa_cons pe_int (pa_cons (pe_op op_fdiv (pv 0) (pv 2)) pa_nil)))))))
        pss_nil)))
      (pss_one (ps_ret (pe_op op_fdiv (pv 1) (pe_op op_mul pe_int (pv 0)))))))), ?_⟩
    refine q_drop (ev_call (by walk_at "ea") (sv_check_number (by omega) (by omega))) fun H1 e1 => ?_
    refine q_asg ev_c fun H2 e2 => ?_
    refine q_forTE (evG_call (by walk_at "ea") (sv_divisors_of (n := l) h1 h2)) (fun i σ' => ∃ (t : Int) (dv : Option V), σ' = [some (.int (l : Int)), some (.int t), dv] ∧ singF l ((divs l).drop i) t = singF l (divs l) 0) ⟨0, none, rfl, rfl⟩ ?_ ?_
    · rintro i x σ' H' e' hx ⟨t, dv, rfl, hS⟩ N hN
      obtain ⟨d, rfl, hi, hm⟩ := vN_get hx
      have hd := (dv_ok h1 h2).1 d hm
      rw [drop_at hi] at hS
      have un : singF l (d :: (divs l).drop (i + 1)) t = singF l ((divs l).drop (i + 1)) (if d % 2 = 1 then t + muM d * 2 ^ (l / d) else t) := rfl
      rw [un] at hS
      refine s_when (b := decide ((d : Int) % 2 = 1)) (by walk_at "et") (fun hc H3 e3 => ?_) fun hc H3 e3 => ?_
      · have hc : d % 2 = 1 := by have := of_decide_eq_true hc; omega
        rw [if_pos hc] at hS
        have hmu := (dv_ok hd.1 (by omega : d ≤ 201)).2
        have hle : l / d ≤ 201 := Nat.le_trans (Nat.div_le_self _ _) (by omega)
        have hcd : CDiv (l : Int) (d : Int) := ⟨by omega, by omega⟩
        have eo : (l : Int) / (d : Int) = ((l / d : Nat) : Int) := by rw [Int.natCast_ediv]
        exact s_asg (v := .int (t + muM d * 2 ^ (l / d))) (ev_add (ev_var rfl) (ev_mul (ev_call (by walk_at "ea") (sv_mu_of hd.1 (by omega)))
          (ev_call (ea_cons ev_c (ea_cons (ev_is (by walk_at "ev") (congrArg V.int eo)) ea_nil)) (sv_power_of (b := 2) (e := l / d) ⟨by omega, by omega⟩ (by omega) rfl)) (Or.inl ⟨by omega, by omega⟩))) fun H4 e4 => hN _ H4 (e3.trans e4) ⟨_, _, rfl, hS⟩
      · have hc : ¬ d % 2 = 1 := by have := of_decide_eq_false hc; omega
        rw [if_neg hc] at hS
        exact hN _ H3 e3 ⟨_, _, rfl, hS⟩
    · rintro σ' H' e' ⟨t, dv, rfl, hS⟩
      rw [vN_len, List.drop_length] at hS
      have hS' : t = singF l (divs l) 0 := hS
      refine s_ret (v := .int (singM l)) (ev_is (v := .int (t / (2 * (l : Int)))) (by
        refine ev_div (ev_var rfl) (ev_mul ev_c (by walk_at "ev") (Or.inl ⟨by omega, by omega⟩)) ⟨by omega, by omega⟩) ?_) fun H4 e4 => k H4 (((e1.trans e2).trans e').trans e4)
      rw [hS']
      rfl
theorem sv_single_rings {l : Nat} {H : Hp} (h1 : 1 ≤ l) (h2 : l ≤ 201) : SpV sp_single_rings ([.int (l : Int)] ++ []) H (.int (singM l)) := fun H1 e Q q E => ⟨l, rfl, h1, h2, fun H2 e2 => q H2 e2⟩
abbrev C_single_rings (P : Program) (w : World) (K : PySem.W.Frag) (mg : Str → Option Value) (base : Heap) := Cal P w K mg base 4 "single_rings" p_single_rings [] sp_single_rings
end
end K47

set_option maxHeartbeats 4000000
namespace K47
open PySem PySem.Spec PyProof.Rows L2 Evl
local macro_rules | `(tactic| walk_at "evs") => `(tactic| first | assumption | omega | decide | exact ⟨by omega, by omega⟩ | exact Or.inl ⟨by omega, by omega⟩ | exact Or.inr ⟨by omega, by omega⟩)
local macro_rules | `(tactic| walk_at "ev") => `(tactic| first
  | with_reducible exact ev_c
  | ((with_reducible apply ev_var); rfl)
  | ((with_reducible apply ev_add) <;> walk_at "ev")
  | ((with_reducible apply ev_sub) <;> walk_at "ev")
  | ((with_reducible apply ev_neg) <;> walk_at "ev")
  | ((with_reducible apply ev_int1) <;> walk_at "ev")
  | ((with_reducible apply ev_mod); (· walk_at "ev"); (· walk_at "ev"); (· walk_at "evs"))
  | ((with_reducible apply ev_div); (· walk_at "ev"); (· walk_at "ev"); (· walk_at "evs"))
  | ((with_reducible apply ev_mul); (· walk_at "ev"); (· walk_at "ev"); (· walk_at "evs"))
  | ((with_reducible apply ev_lt) <;> walk_at "ev")
  | ((with_reducible apply ev_le) <;> walk_at "ev")
  | ((with_reducible apply ev_gt) <;> walk_at "ev")
  | ((with_reducible apply ev_ge) <;> walk_at "ev")
  | ((with_reducible apply ev_eq) <;> walk_at "ev")
  | ((with_reducible apply ev_ne) <;> walk_at "ev")
  | ((with_reducible apply ev_min2) <;> walk_at "ev")
  | (apply ev_isi (a := "int") (ty := tyx_int) (e := isi_int_int) <;> walk_at "ev")
  | (apply ev_isi (a := "int") (ty := tyx_int) (e := isi_int_bool) <;> walk_at "ev"))
local macro_rules | `(tactic| walk_at "et") => `(tactic| first
  | ((with_reducible apply et_test); walk_at "ev")
  | ((with_reducible apply et_B); walk_at "ev")
  | ((with_reducible apply et_not); walk_at "et"))
local macro_rules | `(tactic| walk_at "ea") => `(tactic| first
  | with_reducible exact ea_nil
  | ((with_reducible apply ea_cons); (· walk_at "ev"); (· walk_at "ea")))

section
variable {P : Program} {w : World} {K : PySem.W.Frag} {mg : Str → Option Value} {base : Heap}
/-! ### data of ints -/
theorem ints_lay : ∀ ns : List Int, PyData.canLayAll0 (ns.map PyData.int) = true
  | [] => by simp [PyData.canLayAll0]
  | z :: zs => by simp [PyData.canLayAll0, PyData.canLay0, ints_lay zs]
theorem ints_depth : ∀ ns : List Int, PyData.depthAll (ns.map PyData.int) = 0
  | [] => by simp [PyData.depthAll]
  | z :: zs => by simp [PyData.depthAll, PyData.depth, ints_depth zs]
theorem shT (ns : List Int) : SeqAt.shaped (.tuple (ns.map PyData.int)) = true := by
  have h2 : PyData.depth (.tuple (ns.map PyData.int)) ≤ 64 := by
    simp only [PyData.depth, ints_depth]
    omega
  show (PyData.canLay0 (.tuple (ns.map PyData.int)) && decide (PyData.depth (.tuple (ns.map PyData.int)) ≤ 64)) = true
  rw [Bool.and_eq_true]
  exact ⟨by simp only [PyData.canLay0]; exact ints_lay ns, decide_eq_true h2⟩
theorem shL (ns : List Int) : SeqAt.shaped (.list (ns.map PyData.int)) = true := by
  have h2 : PyData.depth (.list (ns.map PyData.int)) ≤ 64 := by
    simp only [PyData.depth, ints_depth]
    omega
  show (PyData.canLay0 (.list (ns.map PyData.int)) && decide (PyData.depth (.list (ns.map PyData.int)) ≤ 64)) = true
  rw [Bool.and_eq_true]
  exact ⟨by simp only [PyData.canLay0]; exact ints_lay ns, decide_eq_true h2⟩
theorem eqvA_ints : ∀ (ns ms : List Int), PyData.eqvAll (ns.map PyData.int) (ms.map PyData.int) = decide (ns = ms)
  | [], [] => by simp [PyData.eqvAll]
  | [], m :: ms => by simp [PyData.eqvAll]
  | n :: ns, [] => by simp [PyData.eqvAll]
  | n :: ns, m :: ms => by
    have ih := eqvA_ints ns ms
    simp only [List.map_cons, PyData.eqvAll, PyData.eqv, ih]
    by_cases h : n = m
    · subst h
      simp
    · have : (n == m) = false := by simp [h]
      rw [this]
      simp [h]
theorem eqvT (ns ms : List Int) : PyData.eqv (.tuple (ns.map PyData.int)) (.tuple (ms.map PyData.int)) = decide (ns = ms) := by
  simp only [PyData.eqv]
  exact eqvA_ints ns ms
theorem eqvL (ns ms : List Int) : PyData.eqv (.list (ns.map PyData.int)) (.list (ms.map PyData.int)) = decide (ns = ms) := by
  simp only [PyData.eqv]
  exact eqvA_ints ns ms
theorem lexM_eq : ∀ a b : List Int, HT.lexLt a b = lexM a b
  | [], [] => rfl
  | [], _ :: _ => rfl
  | _ :: _, [] => rfl
  | x :: xs, y :: ys => by
    rw [HT.lexLt_cons]
    show _ = if x = y then lexM xs ys else decide (x < y)
    rw [lexM_eq xs ys]
theorem Wd.upd {H : Hp} {l : Addr} {zs : List V} {o : HO} (hl : H l = some (.lst zs)) {xs : List V} {ws : List (List Int)} (h : Wd H xs ws) : Wd (upd H l o) xs ws :=
  Paired.mapP h fun _ _ ⟨a, e1, e2⟩ => ⟨a, e1, by rw [upd_ne (ne_of e2 hl (by intro z; cases z))]; exact e2⟩
section
variable {σ : L2.St} {H H' : Hp} {ta tb te tx tl : TE} {t u tt : TT} {j : Nat} {vs : List Nat}
theorem et_yes : EvT tYes σ H true := fun H1 _ _ q => q H1 (Ex.refl H1)
/-- [a new tuple of ints for j in range(n)] -/
theorem evG_lcRW {tr : TA} {n : Int} (f : Nat → List Int) (h : EvA tr σ H [.int n]) (hn : 0 ≤ n ∧ n ≤ 40000) (hw : ∀ x, wipe ((wipe σ vs).set j (some x)) vs = wipe σ vs)
    (he : ∀ (i : Nat) H1, Ex H H1 → (i : Int) < n → EvG te ((wipe σ vs).set j (some (.int (i : Int)))) H1 (IsT ((f i).map V.int))) :
    EvG (tLc (iRng1 tr) (gName j) tYes te vs) σ H (IsLW ((List.range n.toNat).map f)) := fun H0 e Q q => h H0 e _ fun H1 e1 => ⟨n, rfl, by omega, by omega, fun Dl hD =>
  lc_range (lo := 0) (n := n.toNat) (fun i H' => Ex H1 H' ∧ ∃ xs, H' Dl = some (.lst xs) ∧ Wd H' xs ((List.range i).map f)) ⟨Ex.new hD, [], upd_same, .nil⟩ (fun i H' hi p => by
    obtain ⟨x1, xs, hx, hwd⟩ := p
    have e0 : (0 : Int) + (i : Int) = (i : Int) := Int.zero_add _
    show wipe ((wipe σ vs).set j (some (.int ((0 : Int) + (i : Int))))) vs = wipe σ vs ∧ te ((wipe σ vs).set j (some (.int ((0 : Int) + (i : Int))))) H' fun y H4 => ∃ acc, H4 Dl = some (.lst acc) ∧ acc.length < sizeLine ∧ (Ex H1 (upd H4 Dl (.lst (acc ++ [y]))) ∧ ∃ xs, (upd H4 Dl (.lst (acc ++ [y]))) Dl = some (.lst xs) ∧ Wd (upd H4 Dl (.lst (acc ++ [y]))) xs ((List.range (i + 1)).map f))
    rw [e0]
    refine ⟨hw _, he i H' ((e.trans e1).trans x1) (by omega) H' (Ex.refl _) _ fun v H4 e4 ⟨p, ev, hp⟩ => ⟨xs, e4 Dl _ hx, ?_, Ex.mut (x1.trans e4) hD, xs ++ [v], upd_same, ?_⟩⟩
    · have hl := hwd.len
      rw [List.length_map, List.length_range] at hl
      exact sz_lt (by omega)
    · rw [List.range_succ, List.map_append]
      exact Wd.app ((hwd.ex e4).upd (e4 Dl _ hx)) (.cons ⟨p, ev, by rw [upd_ne (ne_of hp (e4 Dl _ hx) (by intro z; cases z))]; exact hp⟩ .nil)) (fun H' p => by
    obtain ⟨x1, xs, hx, hwd⟩ := p
    exact q _ H' (e1.trans x1) ⟨Dl, xs, rfl, hx, hwd⟩)⟩
/-- [one for one in words if test] -/
theorem evG_lcTW {ws : List (List Int)} (f : List Int → Bool) (h : EvG tl σ H (IsTW ws)) (hz : ws.length ≤ 40000) (hw : ∀ x, wipe ((wipe σ vs).set j (some x)) vs = wipe σ vs)
    (ht : ∀ (i : Nat) (a : Addr) (wd : List Int) H1, Ex H H1 → ws[i]? = some wd → H1 a = some (.tup (wd.map V.int)) → EvT tt ((wipe σ vs).set j (some (.ref a))) H1 (f wd))
    (hv : ∀ x, ((wipe σ vs).set j (some x))[j]? = some (some x)) :
    EvG (tLc (iTup K tl) (gName j) tt (tVar j) vs) σ H (IsLW (ws.filter f)) := fun H0 e Q q => h H0 e _ fun v H1 e1 ⟨p, xs, ev, hp, hwd⟩ => ⟨p, ev, ⟨xs, SqT.of hp⟩, fun Dl hD => by
  have pd : p ≠ Dl := ne_of_none hp hD
  refine lc_tup (xs := xs) (fun i H' => Ex H1 H' ∧ ∃ ys, H' Dl = some (.lst ys) ∧ Wd H' ys ((ws.take i).filter f)) ⟨Ex.new hD, [], upd_same, .nil⟩ (fun i H' _ q => SqT.of (q.1 p _ hp)) (fun i x H' hi p' => ?_) (fun H' p' => ?_)
  · obtain ⟨x1, ys, hy, hwy⟩ := p'
    obtain ⟨a, wd, ex, hwi, ha⟩ := hwd.get hi
    subst ex
    refine ⟨hw _, ht i a wd H' ((e.trans e1).trans x1) hwi (x1 a _ ha) H' (Ex.refl _) _ fun H3 e3 => ?_⟩
    have htk : (ws.take (i + 1)).filter f = (ws.take i).filter f ++ (if f wd = true then [wd] else []) := by
      rw [List.take_succ, hwi, List.filter_append]
      by_cases hf : f wd = true
      · rw [if_pos hf]
        simp [List.filter_cons, hf]
      · rw [if_neg hf]
        simp [List.filter_cons, hf]
    have hyl : ys.length < sizeLine := by
      have h1 := hwy.len
      have h2 := List.length_filter_le f (ws.take i)
      have h3 : (ws.take i).length ≤ ws.length := by rw [List.length_take]; omega
      exact sz_lt (by omega)
    by_cases hf : f wd = true
    · rw [if_pos hf] at htk
      rw [hf]
      refine ⟨.ref a, hv _, ys, e3 Dl _ hy, hyl, Ex.mut (x1.trans e3) hD, ys ++ [.ref a], upd_same, ?_⟩
      rw [htk]
      have ha3 := e3 a _ (x1 a _ ha)
      exact Wd.app ((hwy.ex e3).upd (e3 Dl _ hy)) (.cons ⟨a, rfl, by rw [upd_ne (ne_of ha3 (e3 Dl _ hy) (by intro z; cases z))]; exact ha3⟩ .nil)
    · rw [if_neg hf, List.append_nil] at htk
      have hf' : f wd = false := by simpa using hf
      rw [hf']
      exact ⟨x1.trans e3, ys, e3 Dl _ hy, by rw [htk]; exact hwy.ex e3⟩
  · obtain ⟨x1, ys, hy, hwy⟩ := p'
    rw [hwd.len, List.take_length] at hwy
    exact q _ H' (e1.trans x1) ⟨Dl, ys, rfl, hy, hwy⟩⟩
/-- [an int for one in words] -/
theorem evG_lcTWI {ws : List (List Int)} (g : List Int → Int) (h : EvG tl σ H (IsTW ws)) (hz : ws.length ≤ 40000) (hw : ∀ x, wipe ((wipe σ vs).set j (some x)) vs = wipe σ vs)
    (he : ∀ (i : Nat) (a : Addr) (wd : List Int) H1, Ex H H1 → ws[i]? = some wd → H1 a = some (.tup (wd.map V.int)) → Ev te ((wipe σ vs).set j (some (.ref a))) H1 (.int (g wd))) :
    EvG (tLc (iTup K tl) (gName j) tYes te vs) σ H (IsL ((ws.map g).map V.int)) := fun H0 e Q q => h H0 e _ fun v H1 e1 ⟨p, xs, ev, hp, hwd⟩ => ⟨p, ev, ⟨xs, SqT.of hp⟩, fun Dl hD => by
  have pd : p ≠ Dl := ne_of_none hp hD
  refine lc_tup (xs := xs) (fun i H' => Ex H1 H' ∧ H' Dl = some (.lst (((ws.take i).map g).map V.int))) ⟨Ex.new hD, upd_same⟩ (fun i H' _ q => SqT.of (q.1 p _ hp)) (fun i x H' hi p' => ?_) (fun H' p' => ?_)
  · obtain ⟨x1, hy⟩ := p'
    obtain ⟨a, wd, ex, hwi, ha⟩ := hwd.get hi
    subst ex
    refine ⟨hw _, ?_⟩
    show te _ H' fun y H4 => ∃ acc, H4 Dl = some (.lst acc) ∧ acc.length < sizeLine ∧ (Ex H1 (upd H4 Dl (.lst (acc ++ [y]))) ∧ (upd H4 Dl (.lst (acc ++ [y]))) Dl = some (.lst (((ws.take (i + 1)).map g).map V.int)))
    refine he i a wd H' ((e.trans e1).trans x1) hwi (x1 a _ ha) H' (Ex.refl _) _ fun H3 e3 => ⟨_, e3 Dl _ hy, ?_, Ex.mut (x1.trans e3) hD, ?_⟩
    · rw [List.length_map, List.length_map, List.length_take]
      exact sz_lt (by omega)
    · rw [upd_same, List.take_succ, hwi, List.map_append, List.map_append]
      rfl
  · obtain ⟨x1, hy⟩ := p'
    rw [hwd.len, List.take_length] at hy
    exact q _ H' (e1.trans x1) ⟨Dl, rfl, hy⟩⟩
/-- [j-th int for j in range(n)] -/
theorem evG_lcRI {tr : TA} {n : Int} (g : Nat → Int) (h : EvA tr σ H [.int n]) (hn : 0 ≤ n ∧ n ≤ 40000) (hw : ∀ x, wipe ((wipe σ vs).set j (some x)) vs = wipe σ vs)
    (he : ∀ (i : Nat) H1, Ex H H1 → (i : Int) < n → Ev te ((wipe σ vs).set j (some (.int (i : Int)))) H1 (.int (g i))) :
    EvG (tLc (iRng1 tr) (gName j) tYes te vs) σ H (IsL (((List.range n.toNat).map g).map V.int)) := by
  have h1 := evG_L (el_lcR1 (te := te) (t := tYes) (fun _ => true) (fun i => V.int (g i)) h hn hw (fun _ _ _ _ => et_yes) (fun i H1 e1 hi _ => he i H1 e1 hi))
  have e : given n.toNat (fun _ => true) (fun i => V.int (g i)) = ((List.range n.toNat).map g).map V.int := by
    unfold given
    rw [List.filter_eq_self.mpr (fun _ _ => rfl), List.map_map]
    rfl
  rw [e] at h1
  exact h1
theorem evG_tupW {ws : List (List Int)} (h : EvG ta σ H (IsLW ws)) : EvG (tCB (rTupA K) (tCons ta tNil)) σ H (IsTW ws) := evG_tupP (P1 := fun xs H => Wd H xs ws) (fun xs H H' e h => h.ex e) h
theorem ev_lenLW {ws : List (List Int)} (ha : EvG ta σ H (IsLW ws)) : Ev (tCB (rLenA K) (tCons ta tNil)) σ H (.int (ws.length : Int)) := ev_ofG (ev_cbG ha fun x H1 _ ⟨p, xs, e, h, hw⟩ Q q => ⟨p, xs, by rw [e], .inl (SqL.of h), q _ H1 (Ex.refl _) (by rw [hw.len])⟩)
theorem ev_lenTW {ws : List (List Int)} (ha : EvG ta σ H (IsTW ws)) : Ev (tCB (rLenA K) (tCons ta tNil)) σ H (.int (ws.length : Int)) := ev_ofG (ev_cbG ha fun x H1 _ ⟨p, xs, e, h, hw⟩ Q q => ⟨p, xs, by rw [e], .inr (SqT.of h), q _ H1 (Ex.refl _) (by rw [hw.len])⟩)
theorem ev_eqT {ns ms : List Int} (h1 : EvG ta σ H (IsT (ns.map V.int))) (h2 : EvG tb σ H (IsT (ms.map V.int))) : Ev (tOp (rEqD K) ta tb) σ H (.bl (decide (ns = ms))) :=
  ev_ofG (ev_opG h1 (fun v H1 e _ => h2.mono e) fun x y H1 H2 e1 ⟨p, ex, hp⟩ e2 ⟨q, ey, hq⟩ Q k => ⟨_, _, by rw [ex]; exact Dp.tup (SqT.of (e2 p _ hp)) dpInts, by rw [ey]; exact Dp.tup (SqT.of hq) dpInts, shT ns, shT ms, k _ _ (Ex.refl _) (by rw [eqvT])⟩)
end

/-! ### check_ring, rotations_of, repeats_of -/
abbrev s_check_ring : Stmt := topS 26
abbrev n_check_ring : List Str := ["word", "told"]
abbrev p_check_ring : List Str := ["word"]
theorem sc_check_ring : FnScope n_check_ring p_check_ring (defScope s_check_ring) := ⟨rfl, rfl, rfl, by decide +kernel, rfl, by decide +kernel, by decide +kernel⟩
-- 0 word 1 told
def sp_check_ring : Sp := fun vs H Q _ => ∃ (a : Addr) (ns : List Int), vs = [.ref a] ∧ H a = some (.tup (ns.map V.int)) ∧ Let3 ns ∧ 0 < ns.length ∧ RetV (.ref a) H Q
theorem ok_check_ring {f : Addr} {fd : FuncData} (F : Fun K "check_ring" "check_ring" s_check_ring f fd) (T : Txt mg) (c_check_word : C_check_word P w K mg base) : FnOk P w K mg base CX0 3 f fd p_check_ring sp_check_ring := by
  refine F.ok sc_check_ring (fun vs H Q E h => ?_) (fun cdv A outer s H vs Q E hr h => ?_)
  · obtain ⟨a, ns, rfl, _⟩ := h
    rfl
  · obtain ⟨a, ns, rfl, ha, h3, h0, k⟩ := h
    refine ⟨_, (pss_cons (ps_set (i := 1) sc_check_ring.nd rfl (by first | exact Or.inl rfl | exact Or.inr rfl) (pe_c c_check_word hr (by rfl) (pa_cons pe_int (pa_cons (pv 0) pa_nil))))
      (pss_cons (ps_if (pt_cmpR op_eq (pe_callB (cr_lenK (K := K) rfl) (by rfl) T.len_ PySem.boot_len (pa_cons (pv 1) pa_nil)) pe_int (nomark _))
      (pss_one ps_never)
      pss_nil)
      (pss_one (ps_ret (pv 1))))), ?_⟩
    refine q_asg (ev_call (by walk_at "ea") (sv_check_word ha h3)) fun H1 e1 => ?_
    refine q_pass (b := false) (et_is (et_test (ev_eq (ev_lenT (evG_varT rfl (e1 a _ ha))) ev_c)) (decide_eq_false ?_)) rfl fun H2 e2 => ?_
    · rw [List.length_map]
      omega
    · exact s_ret (ev_var rfl) fun H3 e3 => k H3 ((e1.trans e2).trans e3)
theorem sv_check_ring {a : Addr} {ns : List Int} {H : Hp} (ha : H a = some (.tup (ns.map V.int))) (hn : Let3 ns) (h0 : 0 < ns.length) : SpV sp_check_ring ([.ref a] ++ []) H (.ref a) := fun H1 e Q q E => ⟨a, ns, rfl, e a _ ha, hn, h0, fun H2 e2 => q H2 e2⟩
abbrev C_check_ring (P : Program) (w : World) (K : PySem.W.Frag) (mg : Str → Option Value) (base : Heap) := Cal P w K mg base 3 "check_ring" p_check_ring [] sp_check_ring
abbrev s_rotations_of : Stmt := topS 27
abbrev n_rotations_of : List Str := ["word", "told", "k"]
abbrev p_rotations_of : List Str := ["word"]
theorem sc_rotations_of : FnScope n_rotations_of p_rotations_of (defScope s_rotations_of) := ⟨rfl, rfl, rfl, by decide +kernel, rfl, by decide +kernel, by decide +kernel⟩
-- 0 word 1 told 2 k
def sp_rotations_of : Sp := fun vs H Q _ => ∃ (a : Addr) (ns : List Int), vs = [.ref a] ∧ H a = some (.tup (ns.map V.int)) ∧ Let3 ns ∧ 0 < ns.length ∧ RetG (IsTW (rots ns)) H Q
theorem cutV_rot {ns : List Int} {k : Nat} (h : k ≤ ns.length) : cutV (ns.map V.int) (some (k : Int)) none ++ cutV (ns.map V.int) none (some (k : Int)) = (rotM ns k).map V.int := by
  unfold cutV rotM
  simp only [HT.sIx_nat, HT.sIx_none, List.length_map, Nat.min_eq_left h, List.drop_zero, Nat.sub_zero, List.map_append, List.map_drop, List.map_take]
  rw [List.take_of_length_le (by rw [List.length_drop, List.length_map]; exact Nat.le_refl _)]
theorem ok_rotations_of {f : Addr} {fd : FuncData} (F : Fun K "rotations_of" "rotations_of" s_rotations_of f fd) (T : Txt mg) (c_check_ring : C_check_ring P w K mg base) : FnOk P w K mg base CX0 4 f fd p_rotations_of sp_rotations_of := by
  refine F.ok sc_rotations_of (fun vs H Q E h => ?_) (fun cdv A outer s H vs Q E hr h => ?_)
  · obtain ⟨a, ns, rfl, _⟩ := h
    rfl
  · obtain ⟨a, ns, rfl, ha, h3, h0, k⟩ := h
    refine ⟨_, (pss_cons (ps_set (i := 1) sc_rotations_of.nd rfl (by first | exact Or.inl rfl | exact Or.inr rfl) (pe_c c_check_ring hr (by rfl) (pa_cons (pv 0) pa_nil)))
      (pss_one (ps_ret (pe_callTy (cr_tupK (K := K) rfl) (by rfl) T.tuple_ boot_tuple (pa_cons (pe_lc (own := [("k", 2)]) rfl sc_rotations_of.nd (pi_range1 (by rfl) T.range_ (pa_cons (pe_callB (cr_lenK (K := K) rfl) (by rfl) T.len_ PySem.boot_len (pa_cons (pv 1) pa_nil)) pa_nil)) (blkOk_by (own := [("k", 2)]) (N := n_rotations_of) (sc := defScope s_rotations_of) (by decide +kernel)) (fun _ _ _ _ _ => (pg_name (i := 2) sc_rotations_of.nd rfl (by first | exact Or.inl rfl | exact Or.inr rfl))) (fun _ _ _ _ _ => pts_nil) (fun _ _ _ _ _ => (pe_op (op_catK (K := K) rfl) (pe_slice (sl_tupK (K := K) rfl) (pv 1) (po_some (pv 2)) po_none) (pe_slice (sl_tupK (K := K) rfl) (pv 1) po_none (po_some (pv 2)))))) pa_nil))))), ?_⟩
    refine q_asg (ev_call (by walk_at "ea") (sv_check_ring ha h3 h0)) fun H1 e1 => ?_
    have hl := h3.1
    refine s_retG (evG_tupW (evG_lcRW (n := (ns.length : Int)) (rotM ns) (ea_cons (ev_is (ev_lenT (evG_varT rfl (e1 a _ ha))) (by rw [List.length_map])) ea_nil) ⟨by omega, by omega⟩ (fun _ => rfl) fun i H2 e2 hi => ?_)) fun v H2 e2 p2 => ?_
    · have ha2 := e2 a _ (e1 a _ ha)
      have h := evG_cat (K := K) (evG_slT (K := K) (evG_varT (σ := (wipe (List.set (L2.start n_rotations_of [V.ref a]) 1 (some (.ref a))) [2]).set 2 (some (.int (i : Int)))) (k := 1) rfl ha2) (eo_some (ev_var (i := 2) (v := .int (i : Int)) rfl)) eo_none) (evG_slT (K := K) (evG_varT (σ := (wipe (List.set (L2.start n_rotations_of [V.ref a]) 1 (some (.ref a))) [2]).set 2 (some (.int (i : Int)))) (k := 1) rfl ha2) eo_none (eo_some (ev_var (i := 2) (v := .int (i : Int)) rfl))) (by
        have l1 := cutV_length (ns.map V.int) (some (i : Int)) none
        have l2 := cutV_length (ns.map V.int) none (some (i : Int))
        rw [List.length_map] at l1 l2
        omega)
      rw [cutV_rot (by omega)] at h
      exact h
    · refine k v H2 (e1.trans e2) ?_
      exact p2
theorem sv_rotations_of {a : Addr} {ns : List Int} {H : Hp} (ha : H a = some (.tup (ns.map V.int))) (hn : Let3 ns) (h0 : 0 < ns.length) : SpW sp_rotations_of ([.ref a] ++ []) H (IsTW (rots ns)) := fun H1 e Q q E => ⟨a, ns, rfl, e a _ ha, hn, h0, fun v H2 e2 p => q v H2 e2 p⟩
abbrev C_rotations_of (P : Program) (w : World) (K : PySem.W.Frag) (mg : Str → Option Value) (base : Heap) := Cal P w K mg base 4 "rotations_of" p_rotations_of [] sp_rotations_of
abbrev s_repeats_of : Stmt := topS 28
abbrev n_repeats_of : List Str := ["word", "told", "one"]
abbrev p_repeats_of : List Str := ["word"]
theorem sc_repeats_of : FnScope n_repeats_of p_repeats_of (defScope s_repeats_of) := ⟨rfl, rfl, rfl, by decide +kernel, rfl, by decide +kernel, by decide +kernel⟩
-- 0 word 1 told 2 one
def sp_repeats_of : Sp := fun vs H Q _ => ∃ (a : Addr) (ns : List Int), vs = [.ref a] ∧ H a = some (.tup (ns.map V.int)) ∧ Let3 ns ∧ 0 < ns.length ∧ RetV (.int (repM ns : Nat)) H Q
theorem ok_repeats_of {f : Addr} {fd : FuncData} (F : Fun K "repeats_of" "repeats_of" s_repeats_of f fd) (T : Txt mg) (c_check_ring : C_check_ring P w K mg base) (c_rotations_of : C_rotations_of P w K mg base) : FnOk P w K mg base CX0 5 f fd p_repeats_of sp_repeats_of := by
  refine F.ok sc_repeats_of (fun vs H Q E h => ?_) (fun cdv A outer s H vs Q E hr h => ?_)
  · obtain ⟨a, ns, rfl, _⟩ := h
    rfl
  · obtain ⟨a, ns, rfl, ha, h3, h0, k⟩ := h
    refine ⟨_, (pss_cons (ps_set (i := 1) sc_repeats_of.nd rfl (by first | exact Or.inl rfl | exact Or.inr rfl) (pe_c c_check_ring hr (by rfl) (pa_cons (pv 0) pa_nil)))
      (pss_one (ps_ret (pe_callB (cr_lenK (K := K) rfl) (by rfl) T.len_ PySem.boot_len (pa_cons (pe_lc (own := [("one", 2)]) rfl sc_repeats_of.nd (pi_tupK (K := K) rfl (pe_c c_rotations_of hr (by rfl) (pa_cons (pv 1) pa_nil))) (blkOk_by (own := [("one", 2)]) (N := n_repeats_of) (sc := defScope s_repeats_of) (by decide +kernel)) (fun _ _ _ _ _ => (pg_name (i := 2) sc_repeats_of.nd rfl (by first | exact Or.inl rfl | exact Or.inr rfl))) (fun _ _ _ _ _ => pts_one (pt_cmpR (op_eqK (K := K) rfl hr.units) (pv 2) (pv 1) (nomark _))) (fun _ _ _ _ _ => (pv 2))) pa_nil))))), ?_⟩
    refine q_asg (ev_call (by walk_at "ea") (sv_check_ring ha h3 h0)) fun H1 e1 => ?_
    refine s_ret (ev_lenLW (evG_lcTW (ws := rots ns) (fun o => decide (o = ns)) (evG_call (by walk_at "ea") (sv_rotations_of (e1 a _ ha) h3 h0)) ?_ (fun _ => rfl) (fun i b wd H2 e2 hi hb => et_test (ev_eqT (evG_varT rfl hb) (evG_varT rfl (e2 a _ (e1 a _ ha))))) fun _ => rfl)) fun H2 e2 => k H2 (e1.trans e2)
    unfold rots
    rw [List.length_map, List.length_range]
    have := h3.1
    omega
theorem sv_repeats_of {a : Addr} {ns : List Int} {H : Hp} (ha : H a = some (.tup (ns.map V.int))) (hn : Let3 ns) (h0 : 0 < ns.length) : SpV sp_repeats_of ([.ref a] ++ []) H (.int (repM ns : Nat)) := fun H1 e Q q E => ⟨a, ns, rfl, e a _ ha, hn, h0, fun H2 e2 => q H2 e2⟩
abbrev C_repeats_of (P : Program) (w : World) (K : PySem.W.Frag) (mg : Str → Option Value) (base : Heap) := Cal P w K mg base 5 "repeats_of" p_repeats_of [] sp_repeats_of

/-! ### is_least -/
abbrev s_is_least : Stmt := topS 30
abbrev n_is_least : List Str := ["word", "k"]
abbrev p_is_least : List Str := ["word"]
theorem sc_is_least : FnScope n_is_least p_is_least (defScope s_is_least) := ⟨rfl, rfl, rfl, by decide +kernel, rfl, by decide +kernel, by decide +kernel⟩
-- 0 word 1 k
def sp_is_least : Sp := fun vs H Q _ => ∃ (a : Addr) (ns : List Int), vs = [.ref a] ∧ H a = some (.tup (ns.map V.int)) ∧ ns.length ≤ 1000 ∧ RetV (.bl (isLeast ns)) H Q
theorem ok_is_least {f : Addr} {fd : FuncData} (F : Fun K "is_least" "is_least" s_is_least f fd) (T : Txt mg) : FnOk P w K mg base CX0 1 f fd p_is_least sp_is_least := by
  refine F.ok sc_is_least (fun vs H Q E h => ?_) (fun cdv A outer s H vs Q E hr h => ?_)
  · obtain ⟨a, ns, rfl, _⟩ := h
    rfl
  · obtain ⟨a, ns, rfl, ha, hl, k⟩ := h
    refine ⟨_, (pss_cons (ps_for PassesOwn.never rfl (pi_range2 (by rfl) T.range_ (pa_cons pe_int (pa_cons (pe_callB (cr_lenK (K := K) rfl) (by rfl) T.len_ PySem.boot_len (pa_cons (pv 0) pa_nil)) pa_nil))) (pg_name (i := 1) sc_is_least.nd rfl (by first | exact Or.inl rfl | exact Or.inr rfl))
      (pss_one (ps_if (pt_cmpR (op_ltK (K := K) rfl hr.units0) (pe_op (op_catK (K := K) rfl) (pe_slice (sl_tupK (K := K) rfl) (pv 0) (po_some (pv 1)) po_none) (pe_slice (sl_tupK (K := K) rfl) (pv 0) po_none (po_some (pv 1)))) (pv 0) (nomark _))
        (pss_one (ps_ret pe_bl))
        pss_nil)))
      (pss_one (ps_ret pe_bl))), ?_⟩
    refine q_forR2E (lo := 1) (n := (ns.length : Int)) (ea_cons ev_c (ea_cons (ev_is (ev_lenT (evG_varT rfl ha)) (by rw [List.length_map])) ea_nil)) ⟨by omega, by omega, by omega, by omega⟩ (fun i σ' => ∃ kv, σ' = [some (.ref a), kv] ∧ ∀ j < i, lexM (rotM ns (j + 1)) ns = false) ⟨none, rfl, fun j hj => absurd hj (Nat.not_lt_zero _)⟩ ?_ ?_
    · rintro i σ' H' e' hi ⟨kv, rfl, hj⟩ N hN
      have ei : (1 : Int) + (i : Int) = ((i + 1 : Nat) : Int) := by omega
      rw [ei]
      have ha2 := e' a _ ha
      have h := evG_cat (K := K) (evG_slT (K := K) (evG_varT (σ := List.set [some (V.ref a), kv] 1 (some (.int ((i + 1 : Nat) : Int)))) (k := 0) rfl ha2) (eo_some (ev_var (i := 1) (v := .int ((i + 1 : Nat) : Int)) rfl)) eo_none) (evG_slT (K := K) (evG_varT (σ := List.set [some (V.ref a), kv] 1 (some (.int ((i + 1 : Nat) : Int)))) (k := 0) rfl ha2) eo_none (eo_some (ev_var (i := 1) (v := .int ((i + 1 : Nat) : Int)) rfl))) (by
        have l1 := cutV_length (ns.map V.int) (some ((i + 1 : Nat) : Int)) none
        have l2 := cutV_length (ns.map V.int) none (some ((i + 1 : Nat) : Int))
        rw [List.length_map] at l1 l2
        omega)
      rw [cutV_rot (by omega)] at h
      have h := ev_ltT (K := K) h (ms := ns) (evG_varT (k := 0) rfl ha2)
      rw [lexM_eq] at h
      refine s_when (et_test h) (fun hb H2 e2 => ?_) fun hb H2 e2 => ?_
      · have hf : isLeast ns = false := by
          unfold isLeast
          rw [List.all_eq_false]
          exact ⟨i, List.mem_range.mpr (by omega), by rw [hb]; decide⟩
        rw [hf] at k
        exact s_ret ev_c fun H3 e3 => k H3 ((e'.trans e2).trans e3)
      · exact hN _ H2 e2 ⟨_, rfl, fun j hj' => by
          by_cases hji : j = i
          · rw [hji]; exact hb
          · exact hj j (by omega)⟩
    · rintro σ' H' e' ⟨kv, rfl, hj⟩
      have hf : isLeast ns = true := by
        unfold isLeast
        rw [List.all_eq_true]
        intro j hjm
        have := List.mem_range.mp hjm
        rw [hj j (by omega)]
        rfl
      rw [hf] at k
      exact s_ret ev_c fun H3 e3 => k H3 (e'.trans e3)
theorem sv_is_least {a : Addr} {ns : List Int} {H : Hp} (ha : H a = some (.tup (ns.map V.int))) (hn : ns.length ≤ 1000) : SpV sp_is_least ([.ref a] ++ []) H (.bl (isLeast ns)) := fun H1 e Q q E => ⟨a, ns, rfl, e a _ ha, hn, fun H2 e2 => q H2 e2⟩
abbrev C_is_least (P : Program) (w : World) (K : PySem.W.Frag) (mg : Str → Option Value) (base : Heap) := Cal P w K mg base 1 "is_least" p_is_least [] sp_is_least

/-! ### odd_rings -/
theorem wordOf_len (l m : Nat) : (wordOf l m).length = l := by
  unfold wordOf
  rw [List.length_map, List.length_range]
theorem wordOf_mem {l m : Nat} {x : Int} (h : x ∈ wordOf l m) : 0 ≤ x ∧ x ≤ 1 := by
  unfold wordOf at h
  obtain ⟨k, _, e⟩ := List.mem_map.mp h
  omega
theorem oddL_mem {l m : Nat} {wd : List Int} (h : wd ∈ oddL l m) : wd.length = l ∧ ∀ x ∈ wd, 0 ≤ x ∧ x ≤ 1 := by
  unfold oddL at h
  obtain ⟨k, _, e⟩ := List.mem_map.mp (List.mem_filter.mp h).1
  subst e
  exact ⟨wordOf_len l k, fun x hx => wordOf_mem hx⟩
theorem oddL_len (l m : Nat) : (oddL l m).length ≤ m := by
  unfold oddL
  have h := List.length_filter_le goodR ((List.range m).map (wordOf l))
  rw [List.length_map, List.length_range] at h
  exact h
theorem oddL_succ (l m : Nat) : oddL l (m + 1) = oddL l m ++ (if goodR (wordOf l m) = true then [wordOf l m] else []) := by
  unfold oddL
  rw [List.range_succ, List.map_append, List.filter_append]
  by_cases hf : goodR (wordOf l m) = true
  · rw [if_pos hf]
    simp [List.filter_cons, hf]
  · rw [if_neg hf]
    simp [List.filter_cons, hf]
theorem Let3.of01 {wd : List Int} {l : Nat} (hl : l ≤ 24) (h : wd.length = l ∧ ∀ x ∈ wd, 0 ≤ x ∧ x ≤ 1) : Let3 wd := ⟨by omega, fun x hx => ⟨(h.2 x hx).1, by have := (h.2 x hx).2; omega⟩⟩
theorem bit1 {x : Int} (h : 0 ≤ x) : Builtin.bitAnd x 1 = x % 2 := by
  have := Bits.bitAnd_mask (x := x) 1 h
  simpa using this
abbrev s_odd_rings : Stmt := topS 29
abbrev n_odd_rings : List Str := ["length", "rows", "number", "word", "k"]
abbrev p_odd_rings : List Str := ["length"]
theorem sc_odd_rings : FnScope n_odd_rings p_odd_rings (defScope s_odd_rings) := ⟨rfl, rfl, rfl, by decide +kernel, rfl, by decide +kernel, by decide +kernel⟩
-- 0 length 1 rows 2 number 3 word 4 k
def sp_odd_rings : Sp := fun vs H Q _ => ∃ (l : Nat), vs = [.int (l : Int)] ∧ 1 ≤ l ∧ l ≤ 10 ∧ RetG (IsTW (oddR l)) H Q
theorem ok_odd_rings {f : Addr} {fd : FuncData} (F : Fun K "odd_rings" "odd_rings" s_odd_rings f fd) (T : Txt mg) (c_check_number : C_check_number P w K mg base) (c_is_least : C_is_least P w K mg base) : FnOk P w K mg base CX0 3 f fd p_odd_rings sp_odd_rings := by
  refine F.ok sc_odd_rings (fun vs H Q E h => ?_) (fun cdv A outer s H vs Q E hr h => ?_)
  · obtain ⟨l, rfl, _⟩ := h
    rfl
  · obtain ⟨l, rfl, h1, h2, k⟩ := h
    refine ⟨_, (pss_cons (ps_expr (pe_c c_check_number hr (by rfl) (pa_cons (pv 0) (pa_cons pe_int (pa_cons (pe_gint T.MOST_RING (by rfl)) pa_nil)))))
      (pss_cons (ps_set (i := 1) sc_odd_rings.nd rfl (by first | exact Or.inl rfl | exact Or.inr rfl) (pe_lst pa_nil))
      (pss_cons (ps_for PassesOwn.never rfl (pi_range1 (by rfl) T.range_ (pa_cons (pe_op op_shl pe_int (pv 0)) pa_nil)) (pg_name (i := 2) sc_odd_rings.nd rfl (by first | exact Or.inl rfl | exact Or.inr rfl))
      (pss_cons (ps_set (i := 3) sc_odd_rings.nd rfl (by first | exact Or.inl rfl | exact Or.inr rfl) (pe_callTy (cr_tupK (K := K) rfl) (by rfl) T.tuple_ boot_tuple (pa_cons (pe_lc (own := [("k", 4)]) rfl sc_odd_rings.nd (pi_range1 (by rfl) T.range_ (pa_cons (pv 0) pa_nil)) (blkOk_by (own := [("k", 4)]) (N := n_odd_rings) (sc := defScope s_odd_rings) (by decide +kernel)) (fun _ _ _ _ _ => (pg_name (i := 4) sc_odd_rings.nd rfl (by first | exact Or.inl rfl | exact Or.inr rfl))) (fun _ _ _ _ _ => pts_nil) (fun _ _ _ _ _ => (pe_op op_and (pe_op op_shr (pv 2) (pe_op op_sub (pe_op op_sub (pv 0) pe_int) (pv 4))) pe_int))) pa_nil)))
        (pss_one (ps_if (PW.pt (pw_and (pt_cmpR op_eq (pe_op op_mod (pe_callB (cr_sumTK (K := K) rfl rfl) (by rfl) T.sum_ boot_sum (pa_cons (pv 3) pa_nil)) pe_int) pe_int (nomark _)) (pw_and1 (pt_val (pe_c c_is_least hr (by rfl) (pa_cons (pv 3) pa_nil))))))
        (pss_one (ps_expr (pe_bm PySem.F.plainAttrs_list PySem.F.slot_list_append PySem.F.type_list_append mt_append (pv 1) (pa_cons (pv 3) pa_nil))))
        pss_nil))))
      (pss_one (ps_ret (pe_callTy (cr_tupK (K := K) rfl) (by rfl) T.tuple_ boot_tuple (pa_cons (pv 1) pa_nil))))))), ?_⟩
    refine q_drop (ev_call (by walk_at "ea") (sv_check_number (by omega) (by omega))) fun H1 e1 => ?_
    refine q_asgL (el_lst ea_nil (Nat.zero_le _)) fun p H2 hp e2 hlp => ?_
    have hp0 : H p = none := fresh_back e1 hp
    have en : (1 : Int) * 2 ^ ((l : Int)).toNat = ((2 ^ l : Nat) : Int) := by
      rw [Int.one_mul, Int.toNat_natCast, Int.natCast_pow]
      rfl
    have hpow : 2 ^ l ≤ 1024 := by
      have : 2 ^ l ≤ 2 ^ 10 := Nat.pow_le_pow_right (by decide) h2
      omega
    refine q_forR1 (n := ((2 ^ l : Nat) : Int)) (ea_cons (ev_is (ev_shl ev_c (ev_var rfl) ⟨by omega, by omega, by decide⟩) (congrArg V.int en)) ea_nil) ⟨Int.natCast_nonneg _, Int.le_trans (Int.ofNat_le.mpr hpow) (by decide)⟩
      (fun i σ' H' => ∃ (nv wv kv : Option V) (xs : List V), σ' = [some (.int (l : Int)), some (.ref p), nv, wv, kv] ∧ Ex H H' ∧ H' p = some (.lst xs) ∧ Wd H' xs (oddL l i)) (fun H3 e3 => ⟨none, none, none, [], rfl, (e1.trans e2).trans e3, e3 p _ hlp, .nil⟩) ?_ ?_
    · rintro i σ' H' hi ⟨nv, wv, kv, xs, rfl, ex, hx, hwd⟩
      have hcomp := evG_tupL (K := K) (evG_lcRI (te := tOp (rI0 fun i j => .int (Builtin.bitAnd i j)) (tOp (rI (fun _ j => 0 ≤ j) fun i j => .int (i / 2 ^ j.toNat)) (tVar 2) (tOp (rI0 fun i j => .int (i - j)) (tOp (rI0 fun i j => .int (i - j)) (tVar 0) (tC (.int 1))) (tVar 4))) (tC (.int 1))) (tr := tCons (tVar 0) tNil) (H := H') (vs := [4]) (j := 4)
        (σ := List.set [some (V.int (l : Int)), some (.ref p), nv, wv, kv] 2 (some (.int (i : Int)))) (n := (l : Int)) (fun k => ((i / 2 ^ (l - 1 - k) % 2 : Nat) : Int)) (by walk_at "ea") ⟨by omega, by omega⟩ (fun _ => rfl) fun k H3 e3 hk => ?_)
      · rw [Int.toNat_natCast] at hcomp
        refine q_asgG (Po := IsT ((wordOf l i).map V.int)) hcomp fun v H3 e3 ⟨a, ev, ha⟩ => ?_
        subst ev
        have hlx : xs.length < 100000 := by
          have h5 := hwd.len
          have h6 := oddL_len l i
          omega
        have hgood : EvT (tAnd (tTest (tOp rEq (tOp (rI (fun _ j => 0 < j) fun i j => .int (i % j)) (tCB (rSumT K) (tCons (tVar 3) tNil)) (tC (.int 2))) (tC (.int 1)))) (tB (tCall sp_is_least [] E0 (tCons (tVar 3) tNil)))) (List.set (List.set [some (V.int (l : Int)), some (.ref p), nv, wv, kv] 2 (some (.int (i : Int)))) 3 (some (.ref a))) H3 (goodR (wordOf l i)) :=
          et_and (et_test (ev_eq (ev_mod (evG_sumT (evG_varT rfl ha)) ev_c (by decide)) ev_c)) fun _ => et_B (ev_call (by walk_at "ea") (sv_is_least ha (by rw [wordOf_len]; omega)))
        refine s_when hgood (fun hb H4 e4 => ?_) fun hb H4 e4 => ?_
        · refine s_app (l := p) (xs := xs) (v := .ref a) ((e3.trans e4) p _ hx) (ev_var rfl) (ev_var rfl) hlx fun H5 e5 => ?_
          have x5 := (e3.trans e4).trans e5
          refine ⟨_, _, _, _, rfl, Ex.mut (ex.trans x5) hp0, upd_same, ?_⟩
          rw [oddL_succ, if_pos hb]
          have ha5 := (e4.trans e5) a _ ha
          exact Wd.app ((hwd.ex x5).upd (x5 p _ hx)) (.cons ⟨a, rfl, by rw [upd_ne (ne_of ha5 (x5 p _ hx) (by intro z; cases z))]; exact ha5⟩ .nil)
        · refine ⟨_, _, _, xs, rfl, ex.trans (e3.trans e4), (e3.trans e4) p _ hx, ?_⟩
          rw [oddL_succ, if_neg (by rw [hb]; decide), List.append_nil]
          exact hwd.ex (e3.trans e4)
      · have ek : ((l : Int) - 1 - (k : Int)) = ((l - 1 - k : Nat) : Int) := by omega
        refine ev_is (ev_and (ev_shr (ev_var rfl) (ev_is (by walk_at "ev") (congrArg V.int ek)) (by omega)) ev_c) ?_
        rw [Int.toNat_natCast, bit1 (Int.ediv_nonneg (by omega) (Int.pow_nonneg (by decide)))]
        rw [Int.natCast_emod, Int.natCast_ediv, Int.natCast_pow]
        rfl
    · rintro σ' H' ⟨nv, wv, kv, xs, rfl, ex, hx, hwd⟩
      rw [Int.toNat_natCast] at hwd
      exact s_retG (evG_tupW (ws := oddR l) (fun H5 e5 Q' q' => ⟨.ref p, rfl, q' _ H5 (Ex.refl _) ⟨p, xs, rfl, e5 p _ hx, hwd.ex e5⟩⟩)) fun v H5 e5 p5 => k v H5 (ex.trans e5) p5
theorem sv_odd_rings {l : Nat} {H : Hp} (h1 : 1 ≤ l) (h2 : l ≤ 10) : SpW sp_odd_rings ([.int (l : Int)] ++ []) H (IsTW (oddR l)) := fun H1 e Q q E => ⟨l, rfl, h1, h2, fun v H2 e2 p => q v H2 e2 p⟩
abbrev C_odd_rings (P : Program) (w : World) (K : PySem.W.Frag) (mg : Str → Option Value) (base : Heap) := Cal P w K mg base 3 "odd_rings" p_odd_rings [] sp_odd_rings

/-! ### rings_for -/
theorem rep_pos {wd : List Int} (h : 0 < wd.length) : 0 < repM wd := by
  unfold repM
  refine List.length_pos_of_mem (a := rotM wd 0) (List.mem_filter.mpr ⟨List.mem_map.mpr ⟨0, List.mem_range.mpr h, rfl⟩, ?_⟩)
  unfold rotM
  simp
abbrev s_rings_for : Stmt := topS 32
abbrev n_rings_for : List Str := ["length", "rest", "word"]
abbrev p_rings_for : List Str := ["length", "rest"]
theorem sc_rings_for : FnScope n_rings_for p_rings_for (defScope s_rings_for) := ⟨rfl, rfl, rfl, by decide +kernel, rfl, by decide +kernel, by decide +kernel⟩
-- 0 length 1 rest 2 word
def sp_rings_for : Sp := fun vs H Q _ => ∃ (n r : Nat), vs = [.int (n : Int), .int (r : Int)] ∧ n ≤ 9 ∧ r ≤ n ∧ RetG (IsTW (ringsF n r)) H Q
theorem ok_rings_for {f : Addr} {fd : FuncData} (F : Fun K "rings_for" "rings_for" s_rings_for f fd) (T : Txt mg) (c_is_whole : C_is_whole P w K mg base) (c_check_number : C_check_number P w K mg base) (c_odd_rings : C_odd_rings P w K mg base) (c_repeats_of : C_repeats_of P w K mg base) : FnOk P w K mg base CX0 6 f fd p_rings_for sp_rings_for := by
  refine F.ok sc_rings_for (fun vs H Q E h => ?_) (fun cdv A outer s H vs Q E hr h => ?_)
  · obtain ⟨n, r, rfl, _⟩ := h
    rfl
  · obtain ⟨n, r, rfl, h1, h2, k⟩ := h
    refine ⟨_, (pss_cons (ps_expr (pe_c c_check_number hr (by rfl) (pa_cons (pv 0) (pa_cons pe_int (pa_cons (pe_op op_sub (pe_gint T.MOST_RING (by rfl)) pe_int) pa_nil)))))
      (pss_cons (ps_if (pt_not (pt_val (pe_c c_is_whole hr (by rfl) (pa_cons (pv 1) (pa_cons pe_int (pa_cons (pv 0) pa_nil))))))
      (pss_one ps_never)
      pss_nil)
      (pss_one (ps_ret (pe_callTy (cr_tupK (K := K) rfl) (by rfl) T.tuple_ boot_tuple (pa_cons (pe_lc (own := [("word", 2)]) rfl sc_rings_for.nd (pi_tupK (K := K) rfl (pe_c c_odd_rings hr (by rfl) (pa_cons (pe_op op_add (pv 0) pe_int) pa_nil))) (blkOk_by (own := [("word", 2)]) (N := n_rings_for) (sc := defScope s_rings_for) (by decide +kernel)) (fun _ _ _ _ _ => (pg_name (i := 2) sc_rings_for.nd rfl (by first | exact Or.inl rfl | exact Or.inr rfl))) (fun _ _ _ _ _ => pts_one (pt_cmpR op_eq (pe_op op_mod (pv 1) (pe_c c_repeats_of hr (by rfl) (pa_cons (pv 2) pa_nil))) pe_int (nomark _))) (fun _ _ _ _ _ => (pv 2))) pa_nil)))))), ?_⟩
    refine q_drop (ev_call (by walk_at "ea") (sv_check_number (by omega) (by omega))) fun H1 e1 => ?_
    refine q_pass (b := false) (et_not (a := true) (et_B (ev_call (by walk_at "ea") (sv_is_whole (decide_eq_true ⟨by omega, by omega⟩))))) rfl fun H2 e2 => ?_
    have en : ((n : Int) + 1) = ((n + 1 : Nat) : Int) := rfl
    have hz := oddL_len (n + 1) (2 ^ (n + 1))
    have hpow : 2 ^ (n + 1) ≤ 1024 := by
      have : 2 ^ (n + 1) ≤ 2 ^ 10 := Nat.pow_le_pow_right (by decide) (by omega)
      omega
    refine s_retG (evG_tupW (evG_lcTW (ws := oddR (n + 1)) (fun wd => decide ((r : Int) % (repM wd : Int) = 0)) (evG_call (ea_cons (ev_is (by walk_at "ev") (congrArg V.int en)) ea_nil) (sv_odd_rings (l := n + 1) (by omega) (by omega))) (by unfold oddR; omega) (fun _ => rfl) (fun i b wd H3 e3 hi hb => ?_) fun _ => rfl)) fun v H3 e3 p3 => k v H3 ((e1.trans e2).trans e3) p3
    have hm := oddL_mem (List.mem_of_getElem? hi)
    have hp : 0 < repM wd := rep_pos (by omega)
    exact et_test (ev_eq (ev_mod (ev_var rfl) (ev_call (by walk_at "ea") (sv_repeats_of hb (Let3.of01 (by omega) hm) (by omega))) (by omega)) ev_c)
theorem sv_rings_for {n r : Nat} {H : Hp} (h1 : n ≤ 9) (h2 : r ≤ n) : SpW sp_rings_for ([.int (n : Int), .int (r : Int)] ++ []) H (IsTW (ringsF n r)) := fun H1 e Q q E => ⟨n, r, rfl, h1, h2, fun v H2 e2 p => q v H2 e2 p⟩
abbrev C_rings_for (P : Program) (w : World) (K : PySem.W.Frag) (mg : Str → Option Value) (base : Heap) := Cal P w K mg base 6 "rings_for" p_rings_for [] sp_rings_for
end
end K47

set_option maxHeartbeats 4000000
namespace K47
open PySem PySem.Spec PyProof.Rows L2 Evl
local macro_rules | `(tactic| walk_at "evs") => `(tactic| first | assumption | omega | decide | exact ⟨by omega, by omega⟩ | exact Or.inl ⟨by omega, by omega⟩ | exact Or.inr ⟨by omega, by omega⟩)
local macro_rules | `(tactic| walk_at "ev") => `(tactic| first
  | with_reducible exact ev_c
  | ((with_reducible apply ev_var); rfl)
  | ((with_reducible apply ev_add) <;> walk_at "ev")
  | ((with_reducible apply ev_sub) <;> walk_at "ev")
  | ((with_reducible apply ev_neg) <;> walk_at "ev")
  | ((with_reducible apply ev_int1) <;> walk_at "ev")
  | ((with_reducible apply ev_mod); (· walk_at "ev"); (· walk_at "ev"); (· walk_at "evs"))
  | ((with_reducible apply ev_div); (· walk_at "ev"); (· walk_at "ev"); (· walk_at "evs"))
  | ((with_reducible apply ev_mul); (· walk_at "ev"); (· walk_at "ev"); (· walk_at "evs"))
  | ((with_reducible apply ev_lt) <;> walk_at "ev")
  | ((with_reducible apply ev_le) <;> walk_at "ev")
  | ((with_reducible apply ev_gt) <;> walk_at "ev")
  | ((with_reducible apply ev_ge) <;> walk_at "ev")
  | ((with_reducible apply ev_eq) <;> walk_at "ev")
  | ((with_reducible apply ev_ne) <;> walk_at "ev")
  | ((with_reducible apply ev_min2) <;> walk_at "ev")
  | (apply ev_isi (a := "int") (ty := tyx_int) (e := isi_int_int) <;> walk_at "ev")
  | (apply ev_isi (a := "int") (ty := tyx_int) (e := isi_int_bool) <;> walk_at "ev"))
local macro_rules | `(tactic| walk_at "et") => `(tactic| first
  | ((with_reducible apply et_test); walk_at "ev")
  | ((with_reducible apply et_B); walk_at "ev")
  | ((with_reducible apply et_not); walk_at "et"))
local macro_rules | `(tactic| walk_at "ea") => `(tactic| first
  | with_reducible exact ea_nil
  | ((with_reducible apply ea_cons); (· walk_at "ev"); (· walk_at "ea")))

section
variable {P : Program} {w : World} {K : PySem.W.Frag} {mg : Str → Option Value} {base : Heap}
/-! ### sum_places -/
abbrev s_sum_places : Stmt := topS 42
abbrev n_sum_places : List Str := ["word", "total", "at", "letter"]
abbrev p_sum_places : List Str := ["word"]
theorem sc_sum_places : FnScope n_sum_places p_sum_places (defScope s_sum_places) := ⟨rfl, rfl, rfl, by decide +kernel, rfl, by decide +kernel, by decide +kernel⟩
-- 0 word 1 total 2 at 3 letter
def W01 (n : Nat) (ns : List Int) : Prop := ns.length = n ∧ ∀ x ∈ ns, 0 ≤ x ∧ x ≤ 1
def sp_sum_places : Sp := fun vs H Q _ => ∃ (a : Addr) (ns : List Int) (n : Nat), vs = [.ref a] ∧ H a = some (.tup (ns.map V.int)) ∧ W01 n ns ∧ n ≤ 1000 ∧ RetV (.int (placeS ns)) H Q
theorem ok_sum_places {f : Addr} {fd : FuncData} (F : Fun K "sum_places" "sum_places" s_sum_places f fd) (T : Txt mg) : FnOk P w K mg base CX0 1 f fd p_sum_places sp_sum_places := by
  refine F.ok sc_sum_places (fun vs H Q E h => ?_) (fun cdv A outer s H vs Q E hr h => ?_)
  · obtain ⟨a, ns, n, rfl, _⟩ := h
    rfl
  · obtain ⟨a, ns, n, rfl, ha, hw, hn, k⟩ := h
    refine ⟨_, (pss_cons (ps_set (i := 1) sc_sum_places.nd rfl (by first | exact Or.inl rfl | exact Or.inr rfl) pe_int)
      (pss_cons (ps_for PassesOwn.never rfl (pi_enumT (by rfl) T.enumerate_ (pa_cons (pv 0) pa_nil)) (pg_tup rfl (pgs_cons (pg_name (i := 2) sc_sum_places.nd rfl (by first | exact Or.inl rfl | exact Or.inr rfl)) (pgs_cons (pg_name (i := 3) sc_sum_places.nd rfl (by first | exact Or.inl rfl | exact Or.inr rfl)) pgs_nil)))
      (pss_one (ps_set (i := 1) sc_sum_places.nd rfl (by first | exact Or.inl rfl | exact Or.inr rfl) (pe_op op_add (pv 1) (pe_op op_mul (pe_op op_add (pv 2) pe_int) (pv 3))))))
      (pss_one (ps_ret (pv 1))))), ?_⟩
    refine q_asg ev_c fun H1 e1 => ?_
    refine q_forENE (evG_varT rfl (e1 a _ ha)) (fun i σ' => ∃ (t : Int) (x y : Option V), σ' = [some (.ref a), some (.int t), x, y] ∧ psL i (ns.drop i) t = placeS ns) ⟨0, none, none, rfl, rfl⟩ ?_ ?_
    · rintro i x σ' H' e' hx ⟨t, y, z, rfl, hS⟩ N hN
      obtain ⟨z, rfl, hi, hm⟩ := get_int hx
      have hz := hw.2 z hm
      have hil : i < ns.length := (List.getElem?_eq_some_iff.mp hi).1
      rw [drop_at hi] at hS
      refine s_asg (v := .int (t + ((i : Int) + 1) * z)) (ev_add (ev_var rfl) (ev_mul (by walk_at "ev") (ev_var rfl) (Or.inr ⟨by omega, by omega⟩))) fun H2 e2 => hN _ H2 e2 ⟨_, _, _, rfl, hS⟩
    · rintro σ' H' e' ⟨t, y, z, rfl, hS⟩
      rw [List.length_map, List.drop_length] at hS
      have hS' : t = placeS ns := hS
      subst hS'
      exact s_ret (ev_var rfl) fun H2 e2 => k H2 ((e1.trans e').trans e2)
theorem sv_sum_places {a : Addr} {ns : List Int} {n : Nat} {H : Hp} (ha : H a = some (.tup (ns.map V.int))) (hw : W01 n ns) (hn : n ≤ 1000) : SpV sp_sum_places ([.ref a] ++ []) H (.int (placeS ns)) := fun H1 e Q q E => ⟨a, ns, n, rfl, e a _ ha, hw, hn, fun H2 e2 => q H2 e2⟩
abbrev C_sum_places (P : Program) (w : World) (K : PySem.W.Frag) (mg : Str → Option Value) (base : Heap) := Cal P w K mg base 1 "sum_places" p_sum_places [] sp_sum_places

/-! ### check_modulus, check_rest -/
abbrev s_check_modulus : Stmt := topS 43
abbrev n_check_modulus : List Str := ["modulus", "low"]
abbrev p_check_modulus : List Str := ["modulus", "low"]
theorem sc_check_modulus : FnScope n_check_modulus p_check_modulus (defScope s_check_modulus) := ⟨rfl, rfl, rfl, by decide +kernel, rfl, by decide +kernel, by decide +kernel⟩
def sp_check_modulus : Sp := fun vs H Q _ => ∃ (m lo : Int), vs = [.int m, .int lo] ∧ lo ≤ m ∧ m ≤ 1000000 ∧ RetV .non H Q
theorem ok_check_modulus {f : Addr} {fd : FuncData} (F : Fun K "check_modulus" "check_modulus" s_check_modulus f fd) (T : Txt mg) (c_is_whole : C_is_whole P w K mg base) : FnOk P w K mg base CX0 2 f fd p_check_modulus sp_check_modulus := by
  refine F.ok sc_check_modulus (fun vs H Q E h => ?_) (fun cdv A outer s H vs Q E hr h => ?_)
  · obtain ⟨m, lo, rfl, _⟩ := h
    rfl
  · obtain ⟨m, lo, rfl, h1, h2, k⟩ := h
    refine ⟨_, (pss_one (ps_if (pt_not (pt_val (pe_c c_is_whole hr (by rfl) (pa_cons (pv 0) (pa_cons (pv 1) (pa_cons (pe_gint T.MOST_MODULUS (by rfl)) pa_nil))))))
      (pss_one ps_never)
      pss_nil)), ?_⟩
    refine s_pass (b := false) (et_not (a := true) (et_B (ev_call (by walk_at "ea") (sv_is_whole (decide_eq_true ⟨by omega, by omega⟩))))) rfl fun H2 e2 => ?_
    exact k H2 e2
theorem sv_check_modulus {m lo : Int} {H : Hp} (h1 : lo ≤ m) (h2 : m ≤ 1000000) : SpV sp_check_modulus ([.int m, .int lo] ++ []) H .non := fun H1 e Q q E => ⟨m, lo, rfl, h1, h2, fun H2 e2 => q H2 e2⟩
abbrev C_check_modulus (P : Program) (w : World) (K : PySem.W.Frag) (mg : Str → Option Value) (base : Heap) := Cal P w K mg base 2 "check_modulus" p_check_modulus [] sp_check_modulus
abbrev s_check_rest : Stmt := topS 44
abbrev n_check_rest : List Str := ["rest", "modulus"]
abbrev p_check_rest : List Str := ["rest", "modulus"]
theorem sc_check_rest : FnScope n_check_rest p_check_rest (defScope s_check_rest) := ⟨rfl, rfl, rfl, by decide +kernel, rfl, by decide +kernel, by decide +kernel⟩
def sp_check_rest : Sp := fun vs H Q _ => ∃ (r m : Int), vs = [.int r, .int m] ∧ 0 ≤ r ∧ r ≤ m - 1 ∧ RetV .non H Q
theorem ok_check_rest {f : Addr} {fd : FuncData} (F : Fun K "check_rest" "check_rest" s_check_rest f fd) (T : Txt mg) (c_is_whole : C_is_whole P w K mg base) : FnOk P w K mg base CX0 2 f fd p_check_rest sp_check_rest := by
  refine F.ok sc_check_rest (fun vs H Q E h => ?_) (fun cdv A outer s H vs Q E hr h => ?_)
  · obtain ⟨m, lo, rfl, _⟩ := h
    rfl
  · obtain ⟨m, lo, rfl, h1, h2, k⟩ := h
    refine ⟨_, (pss_one (ps_if (pt_not (pt_val (pe_c c_is_whole hr (by rfl) (pa_cons (pv 0) (pa_cons pe_int (pa_cons (pe_op op_sub (pv 1) pe_int) pa_nil))))))
      (pss_one ps_never)
      pss_nil)), ?_⟩
    refine s_pass (b := false) (et_not (a := true) (et_B (ev_call (by walk_at "ea") (sv_is_whole (decide_eq_true ⟨by omega, by omega⟩))))) rfl fun H2 e2 => ?_
    exact k H2 e2
theorem sv_check_rest {r m : Int} {H : Hp} (h1 : 0 ≤ r) (h2 : r ≤ m - 1) : SpV sp_check_rest ([.int r, .int m] ++ []) H .non := fun H1 e Q q E => ⟨r, m, rfl, h1, h2, fun H2 e2 => q H2 e2⟩
abbrev C_check_rest (P : Program) (w : World) (K : PySem.W.Frag) (mg : Str → Option Value) (base : Heap) := Cal P w K mg base 2 "check_rest" p_check_rest [] sp_check_rest

/-! ### SumBook -/
structure Bk (K : PySem.W.Frag) (mg : Str → Option Value) (C fI fF pF fT fC : Addr) : Prop where
  cl : Cls K C
  nL : NoAttr K C "length"
  nM : NoAttr K C "modulus"
  nR : NoAttr K C "rest"
  gC : mg "SumBook" = some (.ref C)
  mkk : Mk K C fI
  full : PropOf K C "is_full" pF fF
  m_turned : Meth K C "turned" fT
  m_contrary : Meth K C "contrary" fC
def bkF (n m r : Int) : List (Str × V) := [("length", .int n), ("modulus", .int m), ("rest", .int r)]
def BookAt (C : Addr) (H : Hp) (p : Addr) (n m r : Int) : Prop := ∃ dx, H p = some (.ins C dx (bkF n m r))
theorem BookAt.ex {C : Addr} {H H' : Hp} {p : Addr} {n m r : Int} (e : Ex H H') (h : BookAt C H p n m r) : BookAt C H' p n m r := let ⟨dx, h⟩ := h; ⟨dx, e p _ h⟩
theorem bk_length (n m r : Int) : (bkF n m r).lookup ("length" : Str) = some (.int n) := by
  have e : (("length" : Str) == ("length" : Str)) = true := beq_self_eq_true _
  simp only [bkF, List.lookup, e]
theorem bk_modulus (n m r : Int) : (bkF n m r).lookup ("modulus" : Str) = some (.int m) := by
  have e1 : (("modulus" : Str) == ("length" : Str)) = false := by decide +kernel
  have e : (("modulus" : Str) == ("modulus" : Str)) = true := beq_self_eq_true _
  simp only [bkF, List.lookup, e1, e]
theorem bk_rest (n m r : Int) : (bkF n m r).lookup ("rest" : Str) = some (.int r) := by
  have e1 : (("rest" : Str) == ("length" : Str)) = false := by decide +kernel
  have e2 : (("rest" : Str) == ("modulus" : Str)) = false := by decide +kernel
  have e : (("rest" : Str) == ("rest" : Str)) = true := beq_self_eq_true _
  simp only [bkF, List.lookup, e1, e2, e]
theorem bk_none {n m r : Int} {x : Str} (h1 : (x == ("length" : Str)) = false) (h2 : (x == ("modulus" : Str)) = false) (h3 : (x == ("rest" : Str)) = false) : (bkF n m r).lookup x = none := by
  simp only [bkF, List.lookup, h1, h2, h3]
theorem bk_new (n m r : Int) : putF "rest" (.int r) (putF "modulus" (.int m) (putF "length" (.int n) [])) = bkF n m r := by
  have h1 : ¬ (("length" : Str) = "modulus") := by decide +kernel
  have h2 : ¬ (("length" : Str) = "rest") := by decide +kernel
  have h3 : ¬ (("modulus" : Str) = "rest") := by decide +kernel
  simp only [putF, if_neg h1, if_neg h2, if_neg h3, bkF]
def IsBook (C : Addr) (n m r : Int) : V → Hp → Prop := fun v H => ∃ p, v = .ref p ∧ BookAt C H p n m r
section
variable {σ : L2.St} {H H' : Hp} {ta te : TE} {C : Addr}
theorem ev_fld {p : Addr} {n m r : Int} {f : Str} {v : V} (cl : Cls K C) (na : NoAttr K C f) (hf : (bkF n m r).lookup f = some v) (ha : Ev ta σ H (.ref p)) (hb : BookAt C H p n m r) : Ev (tFld K ta f) σ H v := fun H1 e Q q =>
  ha H1 e _ fun H2 e2 => by
    obtain ⟨dx, hb⟩ := hb.ex (e.trans e2)
    exact ⟨p, C, dx, _, v, rfl, hb, cl, na, hf, q H2 e2⟩
end
def spI (C : Addr) : Sp := fun vs H Q _ => ∃ (p dx : Addr) (n m r : Int), vs = [.ref p, .int n, .int m, .int r] ∧ H p = some (.ins C dx []) ∧ 0 ≤ n ∧ n ≤ 200 ∧ n + 1 ≤ m ∧ m ≤ 1000000 ∧ 0 ≤ r ∧ r ≤ m - 1 ∧
  ∀ H' : Hp, BookAt C H' p n m r → (∀ b o, H b = some o → b ≠ p → H' b = some o) → Q .non H'
abbrev s_SumBook___init : Stmt := inClass (topS 45) 0
abbrev n_SumBook___init : List Str := ["self", "length", "modulus", "rest"]
abbrev p_SumBook___init : List Str := ["self", "length", "modulus", "rest"]
theorem sc_SumBook___init : FnScope n_SumBook___init p_SumBook___init (defScope s_SumBook___init) := ⟨rfl, rfl, rfl, by decide +kernel, rfl, by decide +kernel, by decide +kernel⟩
-- 0 self 1 length 2 modulus 3 rest
theorem ok_init {f C fI fF pF fT fC : Addr} {fd : FuncData} (F : Fun K "__init__" "SumBook.__init__" s_SumBook___init f fd) (T0 : Txt mg) (B : Bk K mg C fI fF pF fT fC) (c_check_number : C_check_number P w K mg base) (c_check_modulus : C_check_modulus P w K mg base) (c_check_rest : C_check_rest P w K mg base) :
    FnOk P w K mg base CX0 3 f fd p_SumBook___init (spI C) := by
  refine F.ok sc_SumBook___init (fun vs H Q E h => ?_) (fun cdv A outer s H vs Q E hr h => ?_)
  · obtain ⟨p, dx, n, m, r, rfl, _⟩ := h
    rfl
  · obtain ⟨p, dx, n, m, r, rfl, hp, h1, h2, h3, h4, h5, h6, k⟩ := h
    have T := T0
    refine ⟨_, (pss_cons (ps_expr (pe_c c_check_number hr (by rfl) (pa_cons (pv 1) (pa_cons pe_int (pa_cons (pe_gint T.MOST_LENGTH (by rfl)) pa_nil)))))
      (pss_cons (ps_expr (pe_c c_check_modulus hr (by rfl) (pa_cons (pv 2) (pa_cons (pe_op op_add (pv 1) pe_int) pa_nil))))
      (pss_cons (ps_expr (pe_c c_check_rest hr (by rfl) (pa_cons (pv 3) (pa_cons (pv 2) pa_nil))))
      (pss_cons (ps_fld (pv 0) (pv 1) rfl)
      (pss_cons (ps_fld (pv 0) (pv 2) rfl)
      (pss_one (ps_fld (pv 0) (pv 3) rfl))))))), ?_⟩
    refine q_drop (ev_call (by walk_at "ea") (sv_check_number (by omega) (by omega))) fun H1 e1 => ?_
    refine q_drop (ev_call (by walk_at "ea") (sv_check_modulus h3 h4)) fun H2 e2 => ?_
    refine q_drop (ev_call (by walk_at "ea") (sv_check_rest h5 h6)) fun H3 e3 => ?_
    have e := (e1.trans e2).trans e3
    refine ⟨_, rfl, _, rfl, p, C, dx, _, rfl, e p _ hp, B.cl, B.nL, (by show 0 < 1000; decide), ?_⟩
    refine ⟨_, rfl, _, rfl, p, C, dx, _, rfl, upd_same, B.cl, B.nM, (by show 1 < 1000; decide), ?_⟩
    refine ⟨_, rfl, _, rfl, p, C, dx, _, rfl, upd_same, B.cl, B.nR, (by
      have h1 : ¬ (("length" : Str) = "modulus") := by decide +kernel
      simp only [putF, if_neg h1]
      show 2 < 1000
      decide), ?_⟩
    refine k _ ⟨dx, ?_⟩ fun b o hb hne => ?_
    · rw [upd_same]
      exact congrArg (fun l => some (HO.ins C dx l)) (bk_new n m r)
    · rw [upd_ne hne, upd_ne hne, upd_ne hne]
      exact e b o hb
/-- SumBook(n, m, r) -/
theorem evG_book {σ : L2.St} {H : Hp} {t : TA} {C : Addr} {n m r : Int} (h : EvA t σ H [.int n, .int m, .int r]) (h1 : 0 ≤ n) (h2 : n ≤ 200) (h3 : n + 1 ≤ m) (h4 : m ≤ 1000000) (h5 : 0 ≤ r) (h6 : r ≤ m - 1) : EvG (tMake C (spI C) [] E0 t) σ H (IsBook C n m r) := fun H1 e Q q =>
  h H1 e _ fun H2 e2 x dx hx hdx hne => ⟨x, dx, n, m, r, rfl, upd_same, h1, h2, h3, h4, h5, h6, fun H' hb hk => ⟨rfl, q _ H' (fun b o hb2 => hk b o (by
    have b1 := e2 b o hb2
    rw [upd_ne (ne_of_none b1 hx), upd_ne (ne_of_none b1 hdx)]
    exact b1) (ne_of_none (e2 b o hb2) hx)) ⟨x, rfl, hb⟩⟩⟩
def spFull (C : Addr) : Sp := fun vs H Q _ => ∃ (p : Addr) (n m r : Int), vs = [.ref p] ∧ BookAt C H p n m r ∧ RetV (.bl (decide (m = n + 1))) H Q
abbrev s_SumBook_is_full : Stmt := inClass (topS 45) 2
abbrev n_SumBook_is_full : List Str := ["self"]
abbrev p_SumBook_is_full : List Str := ["self"]
theorem sc_SumBook_is_full : FnScope n_SumBook_is_full p_SumBook_is_full (defScope s_SumBook_is_full) := ⟨rfl, rfl, rfl, by decide +kernel, rfl, by decide +kernel, by decide +kernel⟩
theorem ok_full {f C fI fF pF fT fC : Addr} {fd : FuncData} (F : Fun K "is_full" "SumBook.is_full" s_SumBook_is_full f fd) (B : Bk K mg C fI fF pF fT fC) : FnOk P w K mg base CX0 1 f fd p_SumBook_is_full (spFull C) := by
  refine F.ok sc_SumBook_is_full (fun vs H Q E h => ?_) (fun cdv A outer s H vs Q E hr h => ?_)
  · obtain ⟨p, n, m, r, rfl, _⟩ := h
    rfl
  · obtain ⟨p, n, m, r, rfl, hb, k⟩ := h
    refine ⟨_, (pss_one (ps_ret (pe_cmpR op_eq (pe_fld (pv 0) rfl) (pe_op op_add (pe_fld (pv 0) rfl) pe_int) (nomark _)))), ?_⟩
    exact s_ret (ev_eq (ev_fld B.cl B.nM (bk_modulus n m r) (ev_var rfl) hb) (ev_add (ev_fld B.cl B.nL (bk_length n m r) (ev_var rfl) hb) ev_c)) fun H1 e1 => k H1 e1
def spTurn (C : Addr) : Sp := fun vs H Q _ => ∃ (p : Addr) (n r : Int), vs = [.ref p] ∧ BookAt C H p n (n + 1) r ∧ 0 ≤ n ∧ n ≤ 200 ∧ RetG (IsBook C n (n + 1) ((n + 1 - r) % (n + 1))) H Q
abbrev s_SumBook_turned : Stmt := inClass (topS 45) 5
abbrev n_SumBook_turned : List Str := ["self"]
abbrev p_SumBook_turned : List Str := ["self"]
theorem sc_SumBook_turned : FnScope n_SumBook_turned p_SumBook_turned (defScope s_SumBook_turned) := ⟨rfl, rfl, rfl, by decide +kernel, rfl, by decide +kernel, by decide +kernel⟩
theorem ok_turned {f C fI fF pF fT fC : Addr} {fd fdI fdF : FuncData} (F : Fun K "turned" "SumBook.turned" s_SumBook_turned f fd) (B : Bk K mg C fI fF pF fT fC) (G_init : FnOk P w K mg base CX0 3 fI fdI p_SumBook___init (spI C)) (b_init : Binds K fdI p_SumBook___init [])
    (G_full : FnOk P w K mg base CX0 1 fF fdF p_SumBook_is_full (spFull C)) (b_full : Binds K fdF p_SumBook_is_full []) : FnOk P w K mg base CX0 5 f fd p_SumBook_turned (spTurn C) := by
  refine F.ok sc_SumBook_turned (fun vs H Q E h => ?_) (fun cdv A outer s H vs Q E hr h => ?_)
  · obtain ⟨p, n, r, rfl, _⟩ := h
    rfl
  · obtain ⟨p, n, r, rfl, hb, h1, h2, k⟩ := h
    refine ⟨_, (pss_cons (ps_if (pt_not (pt_val (pe_prop (pv 0) B.cl B.full G_full (hr.mono (by decide)) b_full .nil pass0 (by rfl))))
      (pss_one ps_never)
      pss_nil)
      (pss_one (ps_ret (pe_make B.mkk G_init (hr.mono (by decide)) (by rfl) B.gC b_init .nil pass0 (pa_cons (pe_fld (pv 0) rfl) (pa_cons (pe_fld (pv 0) rfl) (pa_cons (pe_op op_mod (pe_op op_sub (pe_fld (pv 0) rfl) (pe_fld (pv 0) rfl)) (pe_fld (pv 0) rfl)) pa_nil))))))), ?_⟩
    have hfull : Ev (tProp C (spFull C) [] E0 (tVar 0)) (L2.start n_SumBook_turned [V.ref p]) H (.bl true) := fun H1 e Q' q => ⟨_, rfl, p, by
      obtain ⟨dx, hb1⟩ := hb.ex e
      exact ⟨dx, _, rfl, hb1, p, n, n + 1, r, rfl, ⟨dx, hb1⟩, fun H2 e2 => by rw [decide_eq_true rfl]; exact q H2 e2⟩⟩
    refine q_pass (b := false) (et_not (a := true) (et_B hfull)) rfl fun H1 e1 => ?_
    have hb1 := hb.ex e1
    have hm : 0 < n + 1 := by omega
    have f1 := Int.emod_nonneg (n + 1 - r) (show n + 1 ≠ 0 by omega)
    have f2 := Int.emod_lt_of_pos (n + 1 - r) hm
    exact s_retG (evG_book (ea_cons (ev_fld B.cl B.nL (bk_length _ _ _) (ev_var rfl) hb1) (ea_cons (ev_fld B.cl B.nM (bk_modulus _ _ _) (ev_var rfl) hb1) (ea_cons (ev_mod (ev_sub (ev_fld B.cl B.nM (bk_modulus _ _ _) (ev_var rfl) hb1) (ev_fld B.cl B.nR (bk_rest _ _ _) (ev_var rfl) hb1)) (ev_fld B.cl B.nM (bk_modulus _ _ _) (ev_var rfl) hb1) hm) ea_nil))) h1 h2 (Int.le_refl _) (by omega) f1 (by omega)) fun v H2 e2 p2 => k v H2 (e1.trans e2) p2
def spContr (C : Addr) : Sp := fun vs H Q _ => ∃ (p : Addr) (n r : Int), vs = [.ref p] ∧ BookAt C H p n (n + 1) r ∧ 0 ≤ n ∧ n ≤ 200 ∧ RetG (IsBook C n (n + 1) ((n * (n + 1) / 2 - r) % (n + 1))) H Q
abbrev s_SumBook_contrary : Stmt := inClass (topS 45) 6
abbrev n_SumBook_contrary : List Str := ["self", "total"]
abbrev p_SumBook_contrary : List Str := ["self"]
theorem sc_SumBook_contrary : FnScope n_SumBook_contrary p_SumBook_contrary (defScope s_SumBook_contrary) := ⟨rfl, rfl, rfl, by decide +kernel, rfl, by decide +kernel, by decide +kernel⟩
-- 0 self 1 total
theorem ok_contrary {f C fI fF pF fT fC : Addr} {fd fdI : FuncData} (F : Fun K "contrary" "SumBook.contrary" s_SumBook_contrary f fd) (B : Bk K mg C fI fF pF fT fC) (G_init : FnOk P w K mg base CX0 3 fI fdI p_SumBook___init (spI C)) (b_init : Binds K fdI p_SumBook___init []) : FnOk P w K mg base CX0 5 f fd p_SumBook_contrary (spContr C) := by
  refine F.ok sc_SumBook_contrary (fun vs H Q E h => ?_) (fun cdv A outer s H vs Q E hr h => ?_)
  · obtain ⟨p, n, r, rfl, _⟩ := h
    rfl
  · obtain ⟨p, n, r, rfl, hb, h1, h2, k⟩ := h
    refine ⟨_, (pss_cons (ps_set (i := 1) sc_SumBook_contrary.nd rfl (by first | exact Or.inl rfl | exact Or.inr rfl) (pe_op op_fdiv (pe_op op_mul (pe_fld (pv 0) rfl) (pe_op op_add (pe_fld (pv 0) rfl) pe_int)) pe_int))
      (pss_one (ps_ret (pe_make B.mkk G_init (hr.mono (by decide)) (by rfl) B.gC b_init .nil pass0 (pa_cons (pe_fld (pv 0) rfl) (pa_cons (pe_fld (pv 0) rfl) (pa_cons (pe_op op_mod (pe_op op_sub (pv 1) (pe_fld (pv 0) rfl)) (pe_fld (pv 0) rfl)) pa_nil))))))), ?_⟩
    refine q_asg (v := .int (n * (n + 1) / 2)) (ev_div (ev_mul (ev_fld B.cl B.nL (bk_length _ _ _) (ev_var rfl) hb) (ev_add (ev_fld B.cl B.nL (bk_length _ _ _) (ev_var rfl) hb) ev_c) (Or.inl ⟨by omega, by omega⟩)) ev_c ⟨by decide, by decide⟩) fun H1 e1 => ?_
    have hb1 := hb.ex e1
    have hm : 0 < n + 1 := by omega
    have f1 := Int.emod_nonneg (n * (n + 1) / 2 - r) (show n + 1 ≠ 0 by omega)
    have f2 := Int.emod_lt_of_pos (n * (n + 1) / 2 - r) hm
    exact s_retG (evG_book (ea_cons (ev_fld B.cl B.nL (bk_length _ _ _) (ev_var rfl) hb1) (ea_cons (ev_fld B.cl B.nM (bk_modulus _ _ _) (ev_var rfl) hb1) (ea_cons (ev_mod (ev_sub (ev_var rfl) (ev_fld B.cl B.nR (bk_rest _ _ _) (ev_var rfl) hb1)) (ev_fld B.cl B.nM (bk_modulus _ _ _) (ev_var rfl) hb1) hm) ea_nil))) h1 h2 (Int.le_refl _) (by omega) f1 (by omega)) fun v H2 e2 p2 => k v H2 (e1.trans e2) p2
end
end K47

set_option maxHeartbeats 4000000
namespace K47
open PySem PySem.Spec PyProof.Rows L2 Evl
local macro_rules | `(tactic| walk_at "evs") => `(tactic| first | assumption | omega | decide | exact ⟨by omega, by omega⟩ | exact Or.inl ⟨by omega, by omega⟩ | exact Or.inr ⟨by omega, by omega⟩)
local macro_rules | `(tactic| walk_at "ev") => `(tactic| first
  | with_reducible exact ev_c
  | ((with_reducible apply ev_var); rfl)
  | ((with_reducible apply ev_add) <;> walk_at "ev")
  | ((with_reducible apply ev_sub) <;> walk_at "ev")
  | ((with_reducible apply ev_neg) <;> walk_at "ev")
  | ((with_reducible apply ev_int1) <;> walk_at "ev")
  | ((with_reducible apply ev_mod); (· walk_at "ev"); (· walk_at "ev"); (· walk_at "evs"))
  | ((with_reducible apply ev_div); (· walk_at "ev"); (· walk_at "ev"); (· walk_at "evs"))
  | ((with_reducible apply ev_mul); (· walk_at "ev"); (· walk_at "ev"); (· walk_at "evs"))
  | ((with_reducible apply ev_lt) <;> walk_at "ev")
  | ((with_reducible apply ev_le) <;> walk_at "ev")
  | ((with_reducible apply ev_gt) <;> walk_at "ev")
  | ((with_reducible apply ev_ge) <;> walk_at "ev")
  | ((with_reducible apply ev_eq) <;> walk_at "ev")
  | ((with_reducible apply ev_ne) <;> walk_at "ev")
  | ((with_reducible apply ev_min2) <;> walk_at "ev")
  | (apply ev_isi (a := "int") (ty := tyx_int) (e := isi_int_int) <;> walk_at "ev")
  | (apply ev_isi (a := "int") (ty := tyx_int) (e := isi_int_bool) <;> walk_at "ev"))
local macro_rules | `(tactic| walk_at "et") => `(tactic| first
  | ((with_reducible apply et_test); walk_at "ev")
  | ((with_reducible apply et_B); walk_at "ev")
  | ((with_reducible apply et_not); walk_at "et"))
local macro_rules | `(tactic| walk_at "ea") => `(tactic| first
  | with_reducible exact ea_nil
  | ((with_reducible apply ea_cons); (· walk_at "ev"); (· walk_at "ea")))

section
variable {K : PySem.W.Frag} {σ : L2.St} {H H' : Hp} {te tl : TE} {tr : TA} {j k : Nat} {vs vs1 : List Nat}
theorem two_len : ∀ (l : List (List Int)), (l.flatMap fun w => [w ++ [0], w ++ [1]]).length = 2 * l.length
  | [] => rfl
  | w :: l => by
    rw [List.flatMap_cons, List.length_append, two_len l]
    show 2 + 2 * l.length = 2 * (l.length + 1)
    omega
theorem everyW_len : ∀ n, (everyW n).length = 2 ^ n
  | 0 => rfl
  | n + 1 => by
    show ((everyW n).flatMap fun w => [w ++ [0], w ++ [1]]).length = _
    rw [two_len, everyW_len n, Nat.pow_succ]
    omega
theorem everyW_mem : ∀ {n : Nat} {w : List Int}, w ∈ everyW n → W01 n w
  | 0, w, h => by
    have e : w = [] := by simpa [everyW] using h
    subst e
    exact ⟨rfl, fun _ h => by simp at h⟩
  | n + 1, w, h => by
    have h' : w ∈ (everyW n).flatMap fun w => [w ++ [0], w ++ [1]] := h
    obtain ⟨u, hu, hw⟩ := List.mem_flatMap.mp h'
    have ih := everyW_mem hu
    have e : w = u ++ [0] ∨ w = u ++ [1] := by simpa using hw
    rcases e with e | e <;> subst e <;> refine ⟨by rw [List.length_append, ih.1]; rfl, fun x hx => ?_⟩ <;> rcases List.mem_append.mp hx with hx | hx <;> first | exact ih.2 x hx | (have : x = _ := List.mem_singleton.mp hx; omega)
/-- [word + (letter,) for word in words for letter in range(2)] -/
theorem evG_lc2W {ws : List (List Int)} (h : EvG tl σ H (IsLW ws)) (hz : ws.length ≤ 30000) (hw : ∀ x, wipe ((wipe σ vs).set j (some x)) vs = wipe σ vs)
    (hw1 : ∀ x y, wipe ((wipe ((wipe σ vs).set j (some x)) vs1).set k (some y)) vs1 = wipe ((wipe σ vs).set j (some x)) vs1)
    (hr : ∀ x H1, Ex H H1 → EvA tr ((wipe σ vs).set j (some x)) H1 [.int 2])
    (he : ∀ (a : Addr) (w : List Int) (c : Nat) H1, Ex H H1 → w ∈ ws → H1 a = some (.tup (w.map V.int)) → EvG te ((wipe ((wipe σ vs).set j (some (.ref a))) vs1).set k (some (.int (c : Int)))) H1 (IsT ((w ++ [(c : Int)]).map V.int))) :
    EvG (tLc2 (iList K tl) (gName j) tYes (iRng1 tr) (gName k) tYes te vs vs1) σ H (IsLW (ws.flatMap fun w => [w ++ [0], w ++ [1]])) := fun H0 e Q q => h H0 e _ fun v H1 e1 ⟨p, xs, ev, hp, hwd⟩ => ⟨p, ev, ⟨xs, SqL.of hp⟩, fun Dl hD => by
  have pd : p ≠ Dl := ne_of_none hp hD
  let Pv : Nat → Hp → Prop := fun i H' => Ex H1 H' ∧ ∃ ys, H' Dl = some (.lst ys) ∧ Wd H' ys ((ws.take i).flatMap fun w => [w ++ [0], w ++ [1]])
  refine ⟨fun i m H => m = xs.length - i ∧ i ≤ xs.length ∧ Pv i H, ⟨xs.length, by simp, Nat.zero_le _, Ex.new hD, [], upd_same, .nil⟩, ?_⟩
  rintro i m Hc ⟨rfl, hi, x1, ys, hy, hwy⟩
  have sq : SqL K Hc p xs := SqL.of (x1 p _ hp)
  by_cases hlt : i < xs.length
  · refine .inr ⟨⟨xs, xs[i], sq, by simp [hlt]⟩, Pv (i + 1), fun H' p' => ⟨xs.length - (i + 1), by omega, rfl, hlt, p'⟩, fun x H' y => ?_⟩
    obtain ⟨eH, y⟩ := y
    subst eH
    have hxi := y xs sq
    obtain ⟨a, wd, ex, hwi, ha⟩ := hwd.get hxi
    subst ex
    have hlen : ((ws.take i).flatMap fun w => [w ++ [0], w ++ [1]]).length ≤ 60000 := by
      rw [two_len, List.length_take]
      omega
    refine ⟨hw _, hr _ H' ((e.trans e1).trans x1) H' (Ex.refl _) _ fun H2 e2 => ⟨2, rfl, by decide, by decide, ?_⟩⟩
    refine ⟨fun c m H => m = 2 - c ∧ c ≤ 2 ∧ Ex H1 H ∧ ∃ zs, H Dl = some (.lst zs) ∧ Wd H zs (((ws.take i).flatMap fun w => [w ++ [0], w ++ [1]]) ++ ([wd ++ [0], wd ++ [1]].take c)), ⟨2, rfl, by decide, x1.trans e2, ys, e2 Dl _ hy, by rw [List.take_zero, List.append_nil]; exact hwy.ex e2⟩, ?_⟩
    rintro c m Hd ⟨rfl, hc, x2, zs, hz2, hwz⟩
    have hzl : zs.length < sizeLine := by
      have h1 := hwz.len
      rw [List.length_append, List.length_take] at h1
      have h2 : min c [wd ++ [0], wd ++ [1]].length ≤ 2 := Nat.le_trans (Nat.min_le_left _ _) hc
      exact sz_lt (by omega)
    by_cases hc2 : c < 2
    · refine .inr ⟨hc2, fun H => 1 ≤ 2 - c ∧ Ex H1 H ∧ ∃ zs, H Dl = some (.lst zs) ∧ Wd H zs (((ws.take i).flatMap fun w => [w ++ [0], w ++ [1]]) ++ ([wd ++ [0], wd ++ [1]].take (c + 1))), fun H' p' => ⟨2 - (c + 1), by omega, rfl, hc2, p'.2⟩, fun x Hx yx => ?_⟩
      obtain ⟨eH, yx⟩ := yx
      subst eH yx
      have e0 : (0 : Int) + (c : Int) = (c : Int) := Int.zero_add _
      show wipe ((wipe ((wipe σ vs).set j (some (.ref a))) vs1).set k (some (.int ((0 : Int) + (c : Int))))) vs1 = wipe ((wipe σ vs).set j (some (.ref a))) vs1 ∧ _
      rw [e0]
      refine ⟨hw1 _ _, he a wd c Hx ((e.trans e1).trans x2) (List.mem_of_getElem? hwi) ?_ Hx (Ex.refl _) _ fun v H4 e4 ⟨q', ev', hq'⟩ => ⟨zs, e4 Dl _ hz2, hzl, by omega, Ex.mut (x2.trans e4) hD, zs ++ [v], upd_same, ?_⟩⟩
      · obtain ⟨b, wb, eb1, eb2, eb3⟩ := (hwd.ex x2).get hxi
        cases eb1
        rw [hwi] at eb2
        cases eb2
        exact eb3
      · have hstep : [wd ++ [0], wd ++ [1]].take (c + 1) = [wd ++ [0], wd ++ [1]].take c ++ [wd ++ [(c : Int)]] := by
          rcases (show c = 0 ∨ c = 1 by omega) with h | h <;> subst h <;> rfl
        rw [hstep, ← List.append_assoc]
        exact Wd.app ((hwz.ex e4).upd (e4 Dl _ hz2)) (.cons ⟨q', ev', by rw [upd_ne (ne_of hq' (e4 Dl _ hz2) (by intro z; cases z))]; exact hq'⟩ .nil)
    · have ec : c = 2 := by omega
      subst ec
      refine .inl ⟨Nat.le_refl _, x2, zs, hz2, ?_⟩
      have htk : (ws.take (i + 1)).flatMap (fun w => [w ++ [0], w ++ [1]]) = (ws.take i).flatMap (fun w => [w ++ [0], w ++ [1]]) ++ [wd ++ [0], wd ++ [1]] := by
        rw [List.take_succ, hwi, List.flatMap_append]
        rfl
      rw [htk]
      exact hwz
  · have ei : i = xs.length := by omega
    subst ei
    refine .inl ⟨⟨xs, sq, Nat.le_refl _⟩, q _ Hc (e1.trans x1) ⟨Dl, ys, rfl, hy, ?_⟩⟩
    rw [hwd.len, List.take_length] at hwy
    exact hwy⟩
end
section
variable {P : Program} {w : World} {K : PySem.W.Frag} {mg : Str → Option Value} {base : Heap}
abbrev s_every_word : Stmt := topS 46
abbrev n_every_word : List Str := ["letters", "length", "words", "step", "word", "letter"]
abbrev p_every_word : List Str := ["letters", "length"]
theorem sc_every_word : FnScope n_every_word p_every_word (defScope s_every_word) := ⟨rfl, rfl, rfl, by decide +kernel, rfl, by decide +kernel, by decide +kernel⟩
-- 0 letters 1 length 2 words 3 step 4 word 5 letter
def sp_every_word : Sp := fun vs H Q _ => ∃ n : Nat, vs = [.int 2, .int n] ∧ n ≤ 9 ∧ RetG (IsLW (everyW n)) H Q
theorem ok_every_word {f : Addr} {fd : FuncData} (F : Fun K "every_word" "every_word" s_every_word f fd) (T : Txt mg) : FnOk P w K mg base CX0 1 f fd p_every_word sp_every_word := by
  refine F.ok sc_every_word (fun vs H Q E h => ?_) (fun cdv A outer s H vs Q E hr h => ?_)
  · obtain ⟨n, rfl, _⟩ := h
    rfl
  · obtain ⟨n, rfl, hn, k⟩ := h
    refine ⟨_, (pss_cons (ps_set (i := 2) sc_every_word.nd rfl (by first | exact Or.inl rfl | exact Or.inr rfl) (pe_lst (pa_cons (pe_tup pa_nil) pa_nil)))
      (pss_cons (ps_for PassesOwn.never rfl (pi_range1 (by rfl) T.range_ (pa_cons (pv 1) pa_nil)) (pg_name (i := 3) sc_every_word.nd rfl (by first | exact Or.inl rfl | exact Or.inr rfl))
      (pss_one (ps_setLc2 (i := 2) (own := [("word", 4), ("letter", 5)]) (vs1 := [5]) rfl sc_every_word.nd rfl rfl (sw_true rfl rfl rfl (by decide +kernel)) (pi_listK (K := K) rfl (pv 2)) (blkOk_by (own := [("word", 4), ("letter", 5)]) (N := n_every_word) (sc := defScope s_every_word) (by decide +kernel)) (by decide) (fun _ _ _ _ _ => (pg_name (i := 4) sc_every_word.nd rfl (by first | exact Or.inl rfl | exact Or.inr rfl))) (fun _ _ _ _ _ => pts_nil) (fun _ _ _ _ _ => (pi_range1 (by rfl) T.range_ (pa_cons (pv 0) pa_nil))) (fun _ _ _ _ _ => (pg_name (i := 5) sc_every_word.nd rfl (by first | exact Or.inl rfl | exact Or.inr rfl))) (fun _ _ _ _ _ => pts_nil) (fun _ _ _ _ _ => (pe_op (op_catK (K := K) rfl) (pv 4) (pe_tup (pa_cons (pv 5) pa_nil)))))))
      (pss_one (ps_ret (pv 2))))), ?_⟩
    have h1 : EvG (tLst (tCons (tTup tNil) tNil)) (L2.start n_every_word [V.int 2, V.int n]) H (IsLW (everyW 0)) := fun H1 e Q' q => ⟨by show 0 ≤ sizeLine; decide, fun a ha => ⟨by show 1 ≤ sizeLine; decide, fun p hp => q _ _ ((Ex.new ha).trans (Ex.new hp)) ⟨p, [.ref a], rfl, upd_same, .cons ⟨a, rfl, by rw [upd_ne (ne_of_none upd_same hp)]; exact upd_same⟩ .nil⟩⟩⟩
    refine q_asgG h1 fun v0 H1 e1 hv0 => ?_
    refine s_forR1 (n := (n : Int)) (ea_cons (ev_var rfl) ea_nil) ⟨by omega, by omega⟩ (fun i σ' H' => Ex H1 H' ∧ ∃ (v : V) (x y z : Option V), σ' = [some (.int 2), some (.int n), some v, x, y, z] ∧ IsLW (everyW i) v H') (fun H2 e2 => ⟨e2, v0, none, none, none, rfl, by
        obtain ⟨p, xs, a, b, c⟩ := hv0
        exact ⟨p, xs, a, e2 p _ b, c.ex e2⟩⟩) ?_ ?_
    · rintro i σ' H' hi ⟨x1, v, x, y, z, rfl, hv⟩
      have hv' := hv
      obtain ⟨p, xs, rfl, hp, hwd⟩ := hv
      have hpow : 2 ^ i ≤ 2 ^ 9 := Nat.pow_le_pow_right (by decide) (by omega)
      refine s_asgG (evG_lc2W (ws := everyW i) (fun H2 e2 Q' q => ⟨_, rfl, q _ H2 (Ex.refl _) ⟨p, xs, rfl, e2 p _ hp, hwd.ex e2⟩⟩) (by rw [everyW_len]; omega) (fun _ => rfl) (fun _ _ => rfl) (fun x H2 e2 => ea_cons (ev_var rfl) ea_nil) (fun a wd c H2 e2 hm ha => ?_)) fun v2 H2 e2 hv2 => ?_
      · have hl := (everyW_mem hm).1
        have h := evG_cat (K := K) (evG_varT (σ := (wipe ((wipe ([some (.int 2), some (.int n), some (.ref p), x, y, z].set 3 (some (.int (i : Int)))) [4, 5]).set 4 (some (.ref a))) [5]).set 5 (some (.int (c : Int)))) (k := 4) rfl ha) (evG_tup (ea_cons (ev_var (i := 5) (v := .int (c : Int)) rfl) ea_nil) (by show 1 ≤ 100000; decide)) (by
          rw [List.length_map, hl]
          show i + 1 ≤ 100000
          omega)
        rw [List.map_append]
        exact h
      · exact ⟨x1.trans e2, v2, _, _, _, rfl, hv2⟩
    · rintro σ' H' ⟨x1, v, x, y, z, rfl, hv⟩
      have hv' : IsLW (everyW n) v H' := hv
      have hev : EvG (tVar 2) [some (.int 2), some (.int n), some v, x, y, z] H' (IsLW (everyW n)) := fun H2 e2 Q' q => ⟨v, rfl, q v H2 (Ex.refl _) (by
        obtain ⟨p, xs, a, b, c⟩ := hv'
        exact ⟨p, xs, a, e2 p _ b, c.ex e2⟩)⟩
      exact s_retG hev fun v2 H2 e2 p2 => k v2 H2 ((e1.trans x1).trans e2) p2
theorem sv_every_word {n : Nat} {H : Hp} (hn : n ≤ 9) : SpW sp_every_word ([.int 2, .int n] ++ []) H (IsLW (everyW n)) := fun H1 e Q q E => ⟨n, rfl, hn, fun v H2 e2 p => q v H2 e2 p⟩
abbrev C_every_word (P : Program) (w : World) (K : PySem.W.Frag) (mg : Str → Option Value) (base : Heap) := Cal P w K mg base 1 "every_word" p_every_word [] sp_every_word
/-! ### sum_members -/
theorem gs_forLW {ws : List (List Int)} {tl : TE} {tb : TGn} {D : GEnds} {σ : L2.St} {H : Hp} {ys : List V} {j : Nat} (h : EvG tl σ H (IsLW ws)) (Iv : Nat → List V → L2.St → Prop) (h0 : Iv 0 ys σ)
    (hs : ∀ i a wd ys' σ' H', Ex H H' → ws[i]? = some wd → H' a = some (.tup (wd.map V.int)) → Iv i ys' σ' → ∀ N : List V → L2.St → Hp → Prop, (∀ ys2 σ2 H2, Ex H' H2 → Iv (i + 1) ys2 σ2 → N ys2 σ2 H2) → tb { D with nx := N, ct := N, bk := D.nx } ys' (σ'.set j (some (.ref a))) H')
    (hd : ∀ ys' σ' H', Ex H H' → Iv ws.length ys' σ' → D.nx ys' σ' H') : tGFor (iList K tl) (gName j) tb D ys σ H :=
  h H (Ex.refl H) _ fun v H1 e1 ⟨p, xs, ev, hp, hwd⟩ => ⟨p, ev, ⟨xs, SqL.of hp⟩, by
    refine ⟨fun i m ys σ H => m = xs.length - i ∧ i ≤ xs.length ∧ Iv i ys σ ∧ Ex H1 H, ⟨xs.length, by simp, Nat.zero_le _, h0, Ex.refl _⟩, ?_⟩
    rintro i m ys' σ' H' ⟨rfl, hi, p', x1⟩
    have sq : SqL K H' p xs := SqL.of (x1 p _ hp)
    by_cases hlt : i < xs.length
    · refine .inr ⟨⟨xs, xs[i], sq, by simp [hlt]⟩, fun ys2 σ2 H2 => Iv (i + 1) ys2 σ2 ∧ Ex H1 H2, fun ys2 σ2 H2 q => ⟨xs.length - (i + 1), by omega, rfl, hlt, q.1, q.2⟩, fun x H2 y => ?_⟩
      obtain ⟨eH, y⟩ := y
      subst eH
      obtain ⟨a, wd, ex, hwi, ha⟩ := hwd.get (y xs sq)
      subst ex
      exact hs i a wd ys' σ' H2 (e1.trans x1) hwi (x1 a _ ha) p' _ fun ys2 σ2 H3 e3 q => ⟨q, x1.trans e3⟩
    · have ei : i = xs.length := by omega
      subst ei
      refine .inl ⟨⟨xs, sq, Nat.le_refl _⟩, hd ys' σ' H' (e1.trans x1) ?_⟩
      rw [hwd.len] at p'
      exact p'⟩
theorem passG {X : Cx} : Passes (CX X.prog X.w) X E0 := fun pins σ H s e s' I h => by
  obtain ⟨a, B, H', cls, d, h⟩ := h
  exact False.elim h.2.2.2.2.2.2.2
theorem noStop0 : NoStop K E0 := fun _ _ _ h => h.elim
abbrev s_sum_members : Stmt := topS 47
abbrev n_sum_members : List Str := ["book", "word"]
abbrev p_sum_members : List Str := ["book"]
theorem sc_sum_members : GScope n_sum_members p_sum_members (defScope s_sum_members) := ⟨rfl, rfl, rfl, by decide +kernel, rfl, by decide +kernel, by decide +kernel⟩
-- 0 book 1 word
def spM (C : Addr) : SpG := fun vs H Q _ => ∃ (p : Addr) (n r : Nat), vs = [.ref p] ∧ BookAt C H p n (n + 1) r ∧ n ≤ 9 ∧ ∀ out H2, Ex H H2 → out.length = memM n r → Q out H2
theorem ok_sum_members {f C fI fF pF fT fC : Addr} {fd : FuncData} (F : Fun K "sum_members" "sum_members" s_sum_members f fd) (T0 : Txt mg) (B : Bk K mg C fI fF pF fT fC) (c_every_word : C_every_word P w K mg base) (c_sum_places : C_sum_places P w K mg base) (c_power_of : C_power_of P w K mg base) :
    GFn P w K mg base 2 f fd p_sum_members (spM C) := by
  obtain ⟨oc, od, kV, doc, pm, an, cdv, ct, osl, rfl, lk, hcd⟩ := F.ex
  refine gfn_of lk hcd sc_sum_members (fun vs H Q E h => ?_) (fun A outer s H vs Q E pn hr h => ?_)
  · obtain ⟨p, n, r, rfl, _⟩ := h
    rfl
  · obtain ⟨p, n, r, rfl, hb, hn, k⟩ := h
    have T := T0
    refine ⟨_, (gss_cons (gs_ps (ps_if (pt_cmpR op_gt (pe_fld (pv 0) rfl) (pe_gint T.MOST_WALKED (by rfl)) (nomark _))
      (pss_one ps_never)
      pss_nil))
      (gss_cons (gs_for owns_gcx rfl (pi_listK (K := K) rfl (pe_c c_every_word hr (by rfl) (pa_cons pe_int (pa_cons (pe_fld (pv 0) rfl) pa_nil)))) (pg_name (i := 1) sc_sum_members.nd rfl (by first | exact Or.inl rfl | exact Or.inr rfl))
      (gss_cons (gs_if (pt_cmpR op_eq (pe_op op_mod (pe_c c_sum_places hr (by rfl) (pa_cons (pv 1) pa_nil)) (pe_fld (pv 0) rfl)) (pe_fld (pv 0) rfl) (nomark _))
        (gss_cons (gs_yield (pv 1))
          gss_nil)
        gss_nil)
        gss_nil))
      gss_nil)), ?_⟩
    have h1 : ∀ (D : Ends) (u : TS) , (∀ H1, Ex H H1 → D.nx (L2.start n_sum_members [V.ref p]) H1) → tIfS (tTest (tOp (rI0 fun i j => .bl (decide (j < i))) (tFld K (tVar 0) "length") (tC (.int 14)))) u tNext D (L2.start n_sum_members [V.ref p]) H := fun D u q =>
      s_pass (b := false) (et_is (et_test (ev_gt (ev_fld B.cl B.nL (bk_length _ _ _) (ev_var rfl) hb) ev_c)) (decide_eq_false (by omega))) rfl q
    refine h1 _ _ fun H1 e1 => ?_
    have hb1 := hb.ex e1
    refine gs_forLW (ws := everyW n) (evG_call (ea_cons ev_c (ea_cons (ev_fld B.cl B.nL (bk_length _ _ _) (ev_var rfl) hb1) ea_nil)) (sv_every_word hn)) (fun i ys σ => (∃ z, σ = [some (.ref p), z]) ∧ ys.length = (((everyW n).take i).filter fun w => decide (placeS w % ((n : Int) + 1) = (r : Int))).length) ⟨⟨none, rfl⟩, rfl⟩ ?_ ?_
    · rintro i a wd ys σ' H' e' hwi ha ⟨⟨z, rfl⟩, hl⟩ N hN
      have hb2 := hb1.ex e'
      have hwm := everyW_mem (List.mem_of_getElem? hwi)
      have hlen : ys.length < sizeLine := by
        have g1 := List.length_filter_le (fun w => decide (placeS w % ((n : Int) + 1) = (r : Int))) ((everyW n).take i)
        have g2 : ((everyW n).take i).length ≤ (everyW n).length := by rw [List.length_take]; omega
        rw [everyW_len] at g2
        have g3 : 2 ^ n ≤ 2 ^ 9 := Nat.pow_le_pow_right (by decide) hn
        exact sz_lt (by omega)
      have htk : (((everyW n).take (i + 1)).filter fun w => decide (placeS w % ((n : Int) + 1) = (r : Int))).length = (((everyW n).take i).filter fun w => decide (placeS w % ((n : Int) + 1) = (r : Int))).length + (if decide (placeS wd % ((n : Int) + 1) = (r : Int)) = true then 1 else 0) := by
        rw [List.take_succ, hwi, List.filter_append, List.length_append]
        by_cases hf : decide (placeS wd % ((n : Int) + 1) = (r : Int)) = true
        · rw [if_pos hf]
          simp only [Option.toList_some, List.filter_cons, hf, if_true]
          rfl
        · rw [if_neg hf]
          simp only [Option.toList_some, List.filter_cons, hf]
          rfl
      have ht := et_test (ev_eq (ev_mod (ev_call (E := E0) (ea_cons (ev_var (σ := [some (.ref p), some (.ref a)]) (i := 1) rfl) ea_nil) (sv_sum_places ha hwm (by omega))) (ev_fld B.cl B.nM (bk_modulus n (n + 1) r) (ev_var (σ := [some (.ref p), some (.ref a)]) (i := 0) rfl) hb2) (by omega)) (ev_fld B.cl B.nR (bk_rest n (n + 1) r) (ev_var (σ := [some (.ref p), some (.ref a)]) (i := 0) rfl) hb2))
      refine ht H' (Ex.refl _) _ fun H2 e2 => ?_
      by_cases hf : decide (placeS wd % ((n : Int) + 1) = (r : Int)) = true
      · rw [if_pos hf] at htk ⊢
        refine ⟨hlen, _, rfl, hN _ _ H2 e2 ⟨⟨_, rfl⟩, ?_⟩⟩
        rw [htk, List.length_append, hl]
        rfl
      · rw [if_neg hf] at htk ⊢
        exact hN _ _ H2 e2 ⟨⟨_, rfl⟩, by rw [htk, hl]; rfl⟩
    · rintro ys σ' H' e' ⟨_, hl⟩
      refine k ys H' (e1.trans e') ?_
      rw [hl, List.take_length]
      rfl
end
end K47

set_option maxHeartbeats 4000000
namespace K47
open PySem PySem.Spec PyProof.Rows L2 Evl
local macro_rules | `(tactic| walk_at "evs") => `(tactic| first | assumption | omega | decide | exact ⟨by omega, by omega⟩ | exact Or.inl ⟨by omega, by omega⟩ | exact Or.inr ⟨by omega, by omega⟩)
local macro_rules | `(tactic| walk_at "ev") => `(tactic| first
  | with_reducible exact ev_c
  | ((with_reducible apply ev_var); rfl)
  | ((with_reducible apply ev_add) <;> walk_at "ev")
  | ((with_reducible apply ev_sub) <;> walk_at "ev")
  | ((with_reducible apply ev_neg) <;> walk_at "ev")
  | ((with_reducible apply ev_int1) <;> walk_at "ev")
  | ((with_reducible apply ev_mod); (· walk_at "ev"); (· walk_at "ev"); (· walk_at "evs"))
  | ((with_reducible apply ev_div); (· walk_at "ev"); (· walk_at "ev"); (· walk_at "evs"))
  | ((with_reducible apply ev_mul); (· walk_at "ev"); (· walk_at "ev"); (· walk_at "evs"))
  | ((with_reducible apply ev_lt) <;> walk_at "ev")
  | ((with_reducible apply ev_le) <;> walk_at "ev")
  | ((with_reducible apply ev_gt) <;> walk_at "ev")
  | ((with_reducible apply ev_ge) <;> walk_at "ev")
  | ((with_reducible apply ev_eq) <;> walk_at "ev")
  | ((with_reducible apply ev_ne) <;> walk_at "ev")
  | ((with_reducible apply ev_min2) <;> walk_at "ev")
  | (apply ev_isi (a := "int") (ty := tyx_int) (e := isi_int_int) <;> walk_at "ev")
  | (apply ev_isi (a := "int") (ty := tyx_int) (e := isi_int_bool) <;> walk_at "ev"))
local macro_rules | `(tactic| walk_at "et") => `(tactic| first
  | ((with_reducible apply et_test); walk_at "ev")
  | ((with_reducible apply et_B); walk_at "ev")
  | ((with_reducible apply et_not); walk_at "et"))
local macro_rules | `(tactic| walk_at "ea") => `(tactic| first
  | with_reducible exact ea_nil
  | ((with_reducible apply ea_cons); (· walk_at "ev"); (· walk_at "ea")))

section
variable {P : Program} {w : World} {K : PySem.W.Frag} {mg : Str → Option Value} {base : Heap}
/-! ### the hand -/
def HandAt (H : Hp) (p : Addr) : Prop := ∃ (c : Addr) (cells : List Int) (pos : Nat) (rst tot : Int), H p = some (.lst [.ref c, .int pos, .int rst, .int tot]) ∧ H c = some (.lst (cells.map V.int))
theorem HandAt.ex {H H' : Hp} {p : Addr} (e : Ex H H') (h : HandAt H p) : HandAt H' p := by
  obtain ⟨c, cells, pos, rst, tot, h1, h2⟩ := h
  exact ⟨c, cells, pos, rst, tot, e p _ h1, e c _ h2⟩
/-- all stays but what stands at p -/
theorem evG_imp' {te : TE} {σ : L2.St} {H : Hp} {c : Addr} {xs : List V} (h : Ev te σ H (.ref c)) (hc : H c = some (.lst xs)) : EvG te σ H (IsL xs) := fun H1 e Q q => h H1 e _ fun H2 e2 => q _ H2 e2 ⟨c, rfl, e2 c _ (e c _ hc)⟩
theorem atI_nat {xs : List V} {j : Nat} {v : V} (h : xs[j]? = some v) : atI xs (j : Int) = some v := by
  have hj := (List.getElem?_eq_some_iff.mp h).1
  unfold atI
  rw [ixN_nat hj]
  exact h
def Exx (p : Addr) (H H' : Hp) : Prop := ∀ b o, b ≠ p → H b = some o → H' b = some o
theorem Exx.of {p : Addr} {H H' : Hp} (e : Ex H H') : Exx p H H' := fun b o _ h => e b o h
theorem Exx.trans {p : Addr} {H H1 H2 : Hp} (a : Exx p H H1) (b : Exx p H1 H2) : Exx p H H2 := fun x o n h => b x o n (a x o n h)
theorem Exx.put {p : Addr} {H : Hp} {o : HO} : Exx p H (upd H p o) := fun b u n h => by rw [upd_ne n]; exact h
theorem hand_ne {H : Hp} {p c a : Addr} {xs : List V} {ns : List Int} (h1 : H p = some (.lst (.ref c :: xs))) (h2 : H a = some (.lst (ns.map V.int))) : a ≠ p := by
  intro e
  rw [e, h1] at h2
  cases ns with
  | nil => cases h2
  | cons n r => cases h2
theorem q_whenJ {D : Ends} {t : TT} {tu tz : TS} {σ : L2.St} {H : Hp} {b : Bool} (M : L2.St → Hp → Prop) (h : EvT t σ H b) (k : ∀ σ' H', M σ' H' → tz D σ' H')
    (h1 : b = true → ∀ H1, Ex H H1 → (∀ σ' H', M σ' H' → tz D σ' H') → tu { D with nx := tz D } σ H1) (h2 : b = false → ∀ H1, Ex H H1 → M σ H1) : tSeq (tIfS t tu tNext) tz D σ H :=
  q_when h (fun e H1 e1 => h1 e H1 e1 k) fun e H1 e1 => k _ _ (h2 e H1 e1)
abbrev s_law_mixed : Stmt := topS 50
abbrev n_law_mixed : List Str := ["_law_number", "_law_turn", "_law_once", "_law_twice"]
abbrev p_law_mixed : List Str := ["_law_number", "_law_turn"]
theorem sc_law_mixed : FnScope n_law_mixed p_law_mixed (defScope s_law_mixed) := ⟨rfl, rfl, rfl, by decide +kernel, rfl, by decide +kernel, by decide +kernel⟩
-- 0 _law_number 1 _law_turn 2 _law_once 3 _law_twice
def sp_law_mixed : Sp := fun vs H Q _ => ∃ (a b : Int), vs = [.int a, .int b] ∧ RetG (fun v _ => ∃ i : Int, v = .int i) H Q
theorem ok_law_mixed {f : Addr} {fd : FuncData} (F : Fun K "_law_mixed" "_law_mixed" s_law_mixed f fd) (T : Txt mg) : FnOk P w K mg base CX0 1 f fd p_law_mixed sp_law_mixed := by
  refine F.ok sc_law_mixed (fun vs H Q E h => ?_) (fun cdv A outer s H vs Q E hr h => ?_)
  · obtain ⟨a, b, rfl, _⟩ := h
    rfl
  · obtain ⟨a, b, rfl, k⟩ := h
    refine ⟨_, (pss_cons (ps_set (i := 2) sc_law_mixed.nd rfl (by first | exact Or.inl rfl | exact Or.inr rfl) (pe_op op_mod (pe_callTy cr_int (by rfl) T.int_ boot_int (pa_cons (pe_op op_add (pe_op op_add (pe_op op_mul (pv 0) pe_int) (pe_op op_mul (pv 1) pe_int)) pe_int) pa_nil)) pe_int))
      (pss_cons (ps_set (i := 3) sc_law_mixed.nd rfl (by first | exact Or.inl rfl | exact Or.inr rfl) (pe_op op_mod (pe_callTy cr_int (by rfl) T.int_ boot_int (pa_cons (pe_op op_add (pe_op op_add (pe_op op_mul (pv 2) (pv 2)) (pe_op op_mul (pv 1) pe_int)) (pe_op op_fdiv (pv 2) pe_int)) pa_nil)) pe_int))
      (pss_one (ps_ret (pe_op op_fdiv (pe_callTy cr_int (by rfl) T.int_ boot_int (pa_cons (pe_op op_mod (pe_callTy cr_int (by rfl) T.int_ boot_int (pa_cons (pe_op op_add (pe_op op_mul (pv 3) pe_int) (pe_op op_fdiv (pv 2) pe_int)) pa_nil)) pe_int) pa_nil)) pe_int))))), ?_⟩
    refine q_asg (v := .int ((a * 39373 + b * 6151 + 50021) % 2147483399)) (by walk_at "ev") fun H1 e1 => ?_
    generalize hx : (a * 39373 + b * 6151 + 50021) % 2147483399 = x
    have hx1 : 0 ≤ x ∧ x < 2147483399 := by omega
    refine q_asg (v := .int ((x * x + b * 81071 + x / 137) % 2147483629)) (by walk_at "ev") fun H2 e2 => ?_
    generalize hy : (x * x + b * 81071 + x / 137) % 2147483629 = y
    exact s_ret (v := .int ((y * 62089 + x / 11) % 2147483587 / 64)) (by walk_at "ev") fun H3 e3 => k _ H3 ((e1.trans e2).trans e3) ⟨_, rfl⟩
theorem sv_law_mixed {a b : Int} {H : Hp} : SpW sp_law_mixed ([.int a, .int b] ++ []) H (fun v _ => ∃ i : Int, v = .int i) := fun H1 e Q q E => ⟨a, b, rfl, fun v H2 e2 p => q v H2 e2 p⟩
abbrev C_law_mixed (P : Program) (w : World) (K : PySem.W.Frag) (mg : Str → Option Value) (base : Heap) := Cal P w K mg base 1 "_law_mixed" p_law_mixed [] sp_law_mixed

abbrev s_law_hand : Stmt := topS 49
abbrev n_law_hand : List Str := ["_law_script", "_law_total", "_law_cells", "_law_cell"]
abbrev p_law_hand : List Str := ["_law_script"]
theorem sc_law_hand : FnScope n_law_hand p_law_hand (defScope s_law_hand) := ⟨rfl, rfl, rfl, by decide +kernel, rfl, by decide +kernel, by decide +kernel⟩
-- 0 _law_script 1 _law_total 2 _law_cells 3 _law_cell
def sp_law_hand (K : PySem.W.Frag) : Sp := fun vs H Q _ => ∃ (a : Addr) (ns : List Int), vs = [.ref a] ∧ SqL K H a (ns.map V.int) ∧ ns.length ≤ 63 ∧ RetG (fun v H' => ∃ p, v = .ref p ∧ HandAt H' p) H Q
theorem ok_law_hand {f : Addr} {fd : FuncData} (F : Fun K "_law_hand" "_law_hand" s_law_hand f fd) (T : Txt mg) : FnOk P w K mg base CX0 1 f fd p_law_hand (sp_law_hand K) := by
  refine F.ok sc_law_hand (fun vs H Q E h => ?_) (fun cdv A outer s H vs Q E hr h => ?_)
  · obtain ⟨a, ns, rfl, _⟩ := h
    rfl
  · obtain ⟨a, ns, rfl, ha, hn, k⟩ := h
    refine ⟨_, (pss_cons (ps_set (i := 1) sc_law_hand.nd rfl (by first | exact Or.inl rfl | exact Or.inr rfl) (pe_op op_add (pe_callB (cr_lenK (K := K) rfl) (by rfl) T.len_ PySem.boot_len (pa_cons (pv 0) pa_nil)) pe_int))
      (pss_cons (ps_set (i := 2) sc_law_hand.nd rfl (by first | exact Or.inl rfl | exact Or.inr rfl) (pe_lst pa_nil))
      (pss_cons (ps_for PassesOwn.never rfl (pi_listK (K := K) rfl (pv 0)) (pg_name (i := 3) sc_law_hand.nd rfl (by first | exact Or.inl rfl | exact Or.inr rfl))
      (pss_cons (ps_set (i := 1) sc_law_hand.nd rfl (by first | exact Or.inl rfl | exact Or.inr rfl) (pe_op op_mod (pe_callTy cr_int (by rfl) T.int_ boot_int (pa_cons (pe_op op_add (pe_op op_mul (pv 1) pe_int) (pe_callTy cr_int (by rfl) T.int_ boot_int (pa_cons (pv 3) pa_nil))) pa_nil)) pe_int))
        (pss_one (ps_expr (pe_bm PySem.F.plainAttrs_list PySem.F.slot_list_append PySem.F.type_list_append mt_append (pv 2) (pa_cons (pe_callB cr_abs (by rfl) T.abs_ (by decide +kernel) (pa_cons (pe_callTy cr_int (by rfl) T.int_ boot_int (pa_cons (pv 3) pa_nil)) pa_nil)) pa_nil))))))
      (pss_one (ps_ret (pe_lst (pa_cons (pv 2) (pa_cons pe_int (pa_cons pe_int (pa_cons (pv 1) pa_nil)))))))))), ?_⟩
    have hlen : Ev (tCB (rLenA K) (tCons (tVar 0) tNil)) (L2.start n_law_hand [V.ref a]) H (.int ((ns.map V.int).length : Nat)) := ev_cb (ea_cons (ev_var rfl) ea_nil) fun H1 e1 _ q => ⟨a, _, rfl, .inl (ex_l e1 ha), q H1 (Ex.refl _)⟩
    refine q_asg (ev_add hlen ev_c) fun H1 e1 => ?_
    refine q_asgL (el_lst ea_nil (by decide)) fun c H2 hc e2 h2 => ?_
    have hc0 : H c = none := fresh_back e1 hc
    refine q_forLn (a := a) (xs := ns.map V.int) (ev_var rfl) (ex_l (e1.trans e2) ha) (fun i σ' H' => Ex H H' ∧ ∃ (t : Int) (x : Option V) (cs : List Int), σ' = [some (.ref a), some (.int t), some (.ref c), x] ∧ H' c = some (.lst (cs.map V.int)) ∧ cs.length = i) (fun H3 e3 => ⟨(e1.trans e2).trans e3, _, none, [], rfl, e3 c _ h2, rfl⟩) (fun i σ' H' _ p => ex_l p.1 ha) ?_ ?_
    · rintro i x σ' H' hi ⟨x1, t, y, cs, rfl, hcs, hl⟩
      obtain ⟨z, rfl, hiz, _⟩ := get_int hi
      have hil := (List.getElem?_eq_some_iff.mp hiz).1
      refine q_asg (v := .int ((t * 2003 + z) % 2147483563)) (by walk_at "ev") fun H3 e3 => ?_
      refine s_app (l := c) (e3 c _ hcs) (ev_var rfl) (ev_abs1 (ev_int1 (ev_var rfl))) (by rw [List.length_map]; omega) fun H4 e4 => ?_
      refine ⟨Ex.mut ((x1.trans e3).trans e4) hc0, _, _, cs ++ [if z < 0 then -z else z], rfl, ?_, ?_⟩
      · rw [upd_same, List.map_append]
        rfl
      · rw [List.length_append, hl]
        rfl
    · rintro σ' H' ⟨x1, t, y, cs, rfl, hcs, hl⟩
      refine s_retL (el_lst (ea_cons (ev_var rfl) (ea_cons ev_c (ea_cons ev_c (ea_cons (ev_var rfl) ea_nil)))) (by show 4 ≤ 100000; decide)) fun p H3 hp e3 h3 => k _ H3 (x1.trans e3) ⟨p, rfl, c, cs, 0, 0, t, h3, e3 c _ hcs⟩
theorem sv_law_hand {a : Addr} {ns : List Int} {H : Hp} (ha : SqL K H a (ns.map V.int)) (hn : ns.length ≤ 63) : SpW (sp_law_hand K) ([.ref a] ++ []) H (fun v H' => ∃ p, v = .ref p ∧ HandAt H' p) := fun H1 e Q q E => ⟨a, ns, rfl, ex_l e ha, hn, fun v H2 e2 p => q v H2 e2 p⟩
abbrev C_law_hand (P : Program) (w : World) (K : PySem.W.Frag) (mg : Str → Option Value) (base : Heap) := Cal P w K mg base 1 "_law_hand" p_law_hand [] (sp_law_hand K)

abbrev s_law_take : Stmt := topS 51
abbrev n_law_take : List Str := ["_law_hand_here", "_law_many", "_law_cell", "_law_rest"]
abbrev p_law_take : List Str := ["_law_hand_here", "_law_many"]
theorem sc_law_take : FnScope n_law_take p_law_take (defScope s_law_take) := ⟨rfl, rfl, rfl, by decide +kernel, rfl, by decide +kernel, by decide +kernel⟩
-- 0 _law_hand_here 1 _law_many 2 _law_cell 3 _law_rest
def sp_law_take : Sp := fun vs H Q _ => ∃ (p : Addr) (m : Int), vs = [.ref p, .int m] ∧ HandAt H p ∧ 0 < m ∧ m ≤ 1000 ∧ ∀ (v : Int) (H' : Hp), Exx p H H' → HandAt H' p → 0 ≤ v → v < m → Q (.int v) H'
theorem ok_law_take {f : Addr} {fd : FuncData} (F : Fun K "_law_take" "_law_take" s_law_take f fd) (T : Txt mg) (c_law_mixed : C_law_mixed P w K mg base) : FnOk P w K mg base CX0 2 f fd p_law_take sp_law_take := by
  refine F.ok sc_law_take (fun vs H Q E h => ?_) (fun cdv A outer s H vs Q E hr h => ?_)
  · obtain ⟨p, m, rfl, _⟩ := h
    rfl
  · obtain ⟨p, m, rfl, hh, hm, hm2, k⟩ := h
    refine ⟨_, (pss_cons (ps_if (PW.pt (pw_and (pt_cmpR op_eq (pe_ix (ix_listK (K := K) rfl) (pv 0) pe_int (fun _ _ => rfl)) pe_int (nomark _)) (pw_and1 (pt_cmpR op_lt (pe_ix (ix_listK (K := K) rfl) (pv 0) pe_int (fun _ _ => rfl)) (pe_callB (cr_lenK (K := K) rfl) (by rfl) T.len_ PySem.boot_len (pa_cons (pe_ix (ix_listK (K := K) rfl) (pv 0) pe_int (fun _ _ => rfl)) pa_nil)) (nomark _)))))
      (pss_cons (ps_set (i := 2) sc_law_take.nd rfl (by first | exact Or.inl rfl | exact Or.inr rfl) (pe_ix (ix_listK (K := K) rfl) (pe_ix (ix_listK (K := K) rfl) (pv 0) pe_int (fun _ _ => rfl)) (pe_ix (ix_listK (K := K) rfl) (pv 0) pe_int (fun _ _ => rfl)) (fun _ _ => rfl)))
        (pss_cons (ps_asg (pe_op op_add (pe_ix (ix_listK (K := K) rfl) (pv 0) pe_int (fun _ _ => rfl)) pe_int) (pg_sub (pv 0) pe_int set_list))
        (pss_cons (ps_if (pt_cmpR op_lt (pv 2) (pe_op op_pow pe_int pe_int) (nomark _))
        (pss_one (ps_ret (pe_op op_mod (pe_callTy cr_int (by rfl) T.int_ boot_int (pa_cons (pe_c c_law_mixed hr (by rfl) (pa_cons (pe_op op_mod (pe_callTy cr_int (by rfl) T.int_ boot_int (pa_cons (pv 2) pa_nil)) pe_int) (pa_cons (pe_ix (ix_listK (K := K) rfl) (pv 0) pe_int (fun _ _ => rfl)) pa_nil))) pa_nil)) (pv 1))))
        pss_nil)
        (pss_one (ps_asg (pv 2) (pg_sub (pv 0) pe_int set_list))))))
      pss_nil)
      (pss_cons (ps_if (pt_cmpR op_gt (pe_ix (ix_listK (K := K) rfl) (pv 0) pe_int (fun _ _ => rfl)) pe_int (nomark _))
      (pss_cons (ps_set (i := 3) sc_law_take.nd rfl (by first | exact Or.inl rfl | exact Or.inr rfl) (pe_ix (ix_listK (K := K) rfl) (pv 0) pe_int (fun _ _ => rfl)))
        (pss_cons (ps_asg (pe_op op_fdiv (pe_callTy cr_int (by rfl) T.int_ boot_int (pa_cons (pv 3) pa_nil)) (pv 1)) (pg_sub (pv 0) pe_int set_list))
        (pss_one (ps_ret (pe_op op_mod (pe_callTy cr_int (by rfl) T.int_ boot_int (pa_cons (pv 3) pa_nil)) (pv 1))))))
      pss_nil)
      (pss_cons (ps_asg (pe_op op_mod (pe_callTy cr_int (by rfl) T.int_ boot_int (pa_cons (pe_op op_add (pe_ix (ix_listK (K := K) rfl) (pv 0) pe_int (fun _ _ => rfl)) pe_int) pa_nil)) pe_int) (pg_sub (pv 0) pe_int set_list))
      (pss_one (ps_ret (pe_op op_mod (pe_callTy cr_int (by rfl) T.int_ boot_int (pa_cons (pe_c c_law_mixed hr (by rfl) (pa_cons (pe_ix (ix_listK (K := K) rfl) (pv 0) pe_int (fun _ _ => rfl)) (pa_cons (pe_ix (ix_listK (K := K) rfl) (pv 0) pe_int (fun _ _ => rfl)) pa_nil))) pa_nil)) (pv 1))))))), ?_⟩
    -- reads of the hand
    have rd : ∀ (H1 : Hp) (σ : L2.St) (c : Addr) (pos rst tot : Int), σ[0]? = some (some (.ref p)) → H1 p = some (.lst [.ref c, .int pos, .int rst, .int tot]) →
        Ev (tOp (rIxL K) (tVar 0) (tC (.int 0))) σ H1 (.ref c) ∧ Ev (tOp (rIxL K) (tVar 0) (tC (.int 1))) σ H1 (.int pos) ∧ Ev (tOp (rIxL K) (tVar 0) (tC (.int 2))) σ H1 (.int rst) ∧ Ev (tOp (rIxL K) (tVar 0) (tC (.int 3))) σ H1 (.int tot) := fun H1 σ c pos rst tot hs hp =>
      ⟨ev_ixL (evG_varL hs hp) ev_c rfl, ev_ixL (evG_varL hs hp) ev_c rfl, ev_ixL (evG_varL hs hp) ev_c rfl, ev_ixL (evG_varL hs hp) ev_c rfl⟩
    have md : ∀ (x : Int), 0 ≤ x % m ∧ x % m < m := fun x => ⟨Int.emod_nonneg x (by omega), Int.emod_lt_of_pos x hm⟩
    -- what a mixed number gives
    have mixed : ∀ (H1 : Hp) (σ : L2.St) (ta tb : TE) (a b : Int), Ev ta σ H1 (.int a) → Ev tb σ H1 (.int b) → σ[1]? = some (some (.int m)) →
        EvG (tOp (rI (fun _ j => 0 < j) fun i j => .int (i % j)) (tCB rInt1 (tCons (tCall sp_law_mixed [] E0 (tCons ta (tCons tb tNil))) tNil)) (tVar 1)) σ H1 (fun v _ => ∃ i : Int, v = .int i ∧ 0 ≤ i ∧ i < m) := fun H1 σ ta tb a b h1 h2 hs =>
      ev_opG (P1 := fun v _ => ∃ i : Int, v = .int i) (P2 := fun v _ => v = .int m) (ev_cbG (evG_call (ea_cons h1 (ea_cons h2 ea_nil)) sv_law_mixed) fun x H2 _ ⟨i, ex⟩ Q' q => Or.inl ⟨i, by rw [ex], q _ H2 (Ex.refl _) ⟨i, rfl⟩⟩) (fun v H2 e2 _ => (evG_of (ev_var hs)).mono e2) fun x y H2 H3 _ ⟨i, ex⟩ _ ey Q' q =>
        ⟨i, m, ex, ey, hm, q _ H3 (Ex.refl _) ⟨_, rfl, (md i).1, (md i).2⟩⟩
    obtain ⟨c, cells, pos, rst, tot, hp, hc⟩ := id hh
    have r0 := rd H (L2.start n_law_take [V.ref p, V.int m]) c pos rst tot rfl hp
    have hl : EvG (tOp (rIxL K) (tVar 0) (tC (.int 0))) (L2.start n_law_take [V.ref p, V.int m]) H (IsL (cells.map V.int)) := evG_imp' r0.1 hc
    refine q_whenJ (b := decide (rst = 0) && decide ((pos : Int) < ((cells.map V.int).length : Nat))) (fun σ' H' => (∃ x y, σ' = [some (.ref p), some (.int m), x, y]) ∧ Exx p H H' ∧ HandAt H' p)
      (et_and (et_test (ev_eq r0.2.2.1 ev_c)) fun _ => et_test (ev_lt r0.2.1 (ev_lenL hl))) ?_ ?_ fun _ H1 e1 => ⟨⟨_, _, rfl⟩, .of e1, hh.ex e1⟩
    · rintro σ' H' ⟨⟨x, y, rfl⟩, x1, hh'⟩
      obtain ⟨c, cells, pos, rst, tot, hp, hc⟩ := id hh'
      have hne := hand_ne hp hc
      have r1 := rd H' [some (.ref p), some (.int m), x, y] c pos rst tot rfl hp
      refine q_when (b := decide (0 < rst)) (et_test (ev_gt r1.2.2.1 ev_c)) (fun _ H1 e1 => ?_) fun _ H1 e1 => ?_
      · have hp1 := e1 p _ hp
        have hc1 := e1 c _ hc
        have r2 := rd H1 [some (.ref p), some (.int m), x, y] c pos rst tot rfl hp1
        refine q_asg r2.2.2.1 fun H2 e2 => ?_
        refine q_setL (l := p) (j := 2) (e2 p _ hp1) (v := .int (rst / m)) (ev_div (ev_int1 (ev_var rfl)) (ev_var rfl) ⟨hm, by omega⟩) (ev_var rfl) ev_c (by simp) fun H3 e3 => ?_
        refine s_ret (v := .int (rst % m)) (ev_mod (ev_int1 (ev_var rfl)) (ev_var rfl) hm) fun H4 e4 => ?_
        refine k _ H4 (((x1.trans (.of ((e1.trans e2).trans e3))).trans .put).trans (.of e4)) ⟨c, cells, pos, rst / m, tot, e4 p _ upd_same, e4 c _ (by rw [upd_ne hne]; exact e3 c _ (e2 c _ hc1))⟩ (md rst).1 (md rst).2
      · have hp1 := e1 p _ hp
        have hc1 := e1 c _ hc
        have r2 := rd H1 [some (.ref p), some (.int m), x, y] c pos rst tot rfl hp1
        refine q_setL (l := p) (j := 3) hp1 (v := .int ((tot + 1) % 2147483549)) (ev_mod (ev_int1 (ev_add r2.2.2.2 ev_c)) ev_c (by decide)) (ev_var rfl) ev_c (by simp) fun H3 e3 => ?_
        have hp3 : (upd H3 p (.lst ([V.ref c, .int pos, .int rst, .int tot].set 3 (.int ((tot + 1) % 2147483549))))) p = some (.lst [.ref c, .int pos, .int rst, .int ((tot + 1) % 2147483549)]) := upd_same
        have hc3 : (upd H3 p (.lst ([V.ref c, .int pos, .int rst, .int tot].set 3 (.int ((tot + 1) % 2147483549))))) c = some (.lst (cells.map V.int)) := by rw [upd_ne hne]; exact e3 c _ hc1
        have r3 := rd _ [some (.ref p), some (.int m), x, y] c pos rst _ rfl hp3
        exact s_retG (mixed _ _ _ _ _ _ r3.2.2.2 r3.2.1 rfl) fun v H4 e4 ⟨i, ev, h1, h2⟩ => by
          subst ev
          exact k i H4 (((x1.trans (.of (e1.trans e3))).trans .put).trans (.of e4)) (HandAt.ex e4 ⟨c, cells, pos, rst, _, hp3, hc3⟩) h1 h2
    · intro hb H1 e1 tail
      rw [Bool.and_eq_true, decide_eq_true_eq, decide_eq_true_eq, List.length_map] at hb
      obtain ⟨hr0, hpl⟩ := hb
      have hne := hand_ne hp hc
      have hp1 := e1 p _ hp
      have hc1 := e1 c _ hc
      have hpl' : pos < cells.length := by omega
      have r2 := rd H1 (L2.start n_law_take [V.ref p, V.int m]) c pos rst tot rfl hp1
      have hcell : atI (cells.map V.int) (pos : Int) = some (.int cells[pos]) := atI_nat (by rw [List.getElem?_map, List.getElem?_eq_getElem hpl']; rfl)
      refine q_asg (ev_ixL (evG_imp' r2.1 hc1) r2.2.1 hcell) fun H2 e2 => ?_
      have hp2 := e2 p _ hp1
      have hc2 := e2 c _ hc1
      have r3 := rd H2 [some (.ref p), some (.int m), some (.int cells[pos]), none] c pos rst tot rfl hp2
      refine q_setL (l := p) (j := 1) hp2 (v := .int ((pos : Int) + 1)) (ev_add r3.2.1 ev_c) (ev_var rfl) ev_c (by simp) fun H3 e3 => ?_
      have hp3 : (upd H3 p (.lst ([V.ref c, .int pos, .int rst, .int tot].set 1 (.int ((pos : Int) + 1))))) p = some (.lst [.ref c, .int ((pos + 1 : Nat) : Int), .int rst, .int tot]) := upd_same
      have hc3 : (upd H3 p (.lst ([V.ref c, .int pos, .int rst, .int tot].set 1 (.int ((pos : Int) + 1))))) c = some (.lst (cells.map V.int)) := by rw [upd_ne hne]; exact e3 c _ hc2
      have x3 : Exx p H (upd H3 p (.lst ([V.ref c, .int pos, .int rst, .int tot].set 1 (.int ((pos : Int) + 1))))) := (Exx.of ((e1.trans e2).trans e3)).trans .put
      generalize upd H3 p (.lst ([V.ref c, .int pos, .int rst, .int tot].set 1 (.int ((pos : Int) + 1)))) = G at hp3 hc3 x3
      refine q_when (b := decide (cells[pos] < 10 ^ (18 : Int).toNat)) (et_test (ev_lt (ev_var rfl) (ev_pow ev_c ev_c ⟨by decide, by decide, by decide⟩))) (fun _ H4 e4 => ?_) fun _ H4 e4 => ?_
      · have r4 := rd H4 [some (.ref p), some (.int m), some (.int cells[pos]), none] c ((pos + 1 : Nat) : Int) rst tot rfl (e4 p _ hp3)
        exact s_retG (mixed _ _ _ _ _ _ (ev_mod (ev_int1 (ev_var (i := 2) rfl)) ev_c (by decide)) r4.2.1 rfl) fun v H5 e5 ⟨i, ev, h1, h2⟩ => by
          subst ev
          exact k i H5 (x3.trans (.of (e4.trans e5))) (HandAt.ex (e4.trans e5) ⟨c, cells, pos + 1, rst, _, hp3, hc3⟩) h1 h2
      · refine s_setL (l := p) (j := 2) (e4 p _ hp3) (v := .int cells[pos]) (ev_var rfl) (ev_var rfl) ev_c (by simp) fun H5 e5 => ?_
        exact tail _ _ ⟨⟨_, _, rfl⟩, (x3.trans (.of (e4.trans e5))).trans .put, c, cells, pos + 1, _, _, upd_same, by rw [upd_ne hne]; exact e5 c _ (e4 c _ hc3)⟩
theorem take_i {p : Addr} {m : Int} {H : Hp} {σ : L2.St} {i : Nat} {tm : TE} {Q : VK} (hs : σ[i]? = some (some (.ref p))) (hh : HandAt H p) (hm : 0 < m) (hm2 : m ≤ 1000) (ht : Ev tm σ H (.int m))
    (k : ∀ (v : Int) (H' : Hp), Exx p H H' → HandAt H' p → 0 ≤ v → v < m → Q (.int v) H') : tCall sp_law_take [] E0 (tCons (tVar i) (tCons tm tNil)) σ H Q :=
  (ea_cons (ev_var hs) (ea_cons ht ea_nil)) H (Ex.refl H) _ fun H1 e1 => ⟨p, m, rfl, hh.ex e1, hm, hm2, fun v H' x h a b => k v H' ((Exx.of e1).trans x) h a b⟩
abbrev C_law_take (P : Program) (w : World) (K : PySem.W.Frag) (mg : Str → Option Value) (base : Heap) := Cal P w K mg base 2 "_law_take" p_law_take [] sp_law_take
end
end K47

set_option maxHeartbeats 4000000
namespace K47
open PySem PySem.Spec PyProof.Rows L2 Evl
local macro_rules | `(tactic| walk_at "evs") => `(tactic| first | assumption | omega | decide | exact ⟨by omega, by omega⟩ | exact Or.inl ⟨by omega, by omega⟩ | exact Or.inr ⟨by omega, by omega⟩)
local macro_rules | `(tactic| walk_at "ev") => `(tactic| first
  | with_reducible exact ev_c
  | ((with_reducible apply ev_var); rfl)
  | ((with_reducible apply ev_add) <;> walk_at "ev")
  | ((with_reducible apply ev_sub) <;> walk_at "ev")
  | ((with_reducible apply ev_neg) <;> walk_at "ev")
  | ((with_reducible apply ev_int1) <;> walk_at "ev")
  | ((with_reducible apply ev_mod); (· walk_at "ev"); (· walk_at "ev"); (· walk_at "evs"))
  | ((with_reducible apply ev_div); (· walk_at "ev"); (· walk_at "ev"); (· walk_at "evs"))
  | ((with_reducible apply ev_mul); (· walk_at "ev"); (· walk_at "ev"); (· walk_at "evs"))
  | ((with_reducible apply ev_lt) <;> walk_at "ev")
  | ((with_reducible apply ev_le) <;> walk_at "ev")
  | ((with_reducible apply ev_gt) <;> walk_at "ev")
  | ((with_reducible apply ev_ge) <;> walk_at "ev")
  | ((with_reducible apply ev_eq) <;> walk_at "ev")
  | ((with_reducible apply ev_ne) <;> walk_at "ev")
  | ((with_reducible apply ev_min2) <;> walk_at "ev")
  | (apply ev_isi (a := "int") (ty := tyx_int) (e := isi_int_int) <;> walk_at "ev")
  | (apply ev_isi (a := "int") (ty := tyx_int) (e := isi_int_bool) <;> walk_at "ev"))
local macro_rules | `(tactic| walk_at "et") => `(tactic| first
  | ((with_reducible apply et_test); walk_at "ev")
  | ((with_reducible apply et_B); walk_at "ev")
  | ((with_reducible apply et_not); walk_at "et"))
local macro_rules | `(tactic| walk_at "ea") => `(tactic| first
  | with_reducible exact ea_nil
  | ((with_reducible apply ea_cons); (· walk_at "ev"); (· walk_at "ea")))

section
variable {P : Program} {w : World} {K : PySem.W.Frag} {mg : Str → Option Value} {base : Heap}
abbrev s_law_whole : Stmt := topS 52
abbrev n_law_whole : List Str := ["_law_thing"]
abbrev p_law_whole : List Str := ["_law_thing"]
theorem sc_law_whole : FnScope n_law_whole p_law_whole (defScope s_law_whole) := ⟨rfl, rfl, rfl, by decide +kernel, rfl, by decide +kernel, by decide +kernel⟩
def sp_law_whole : Sp := fun vs H Q _ => ∃ (a : Int), vs = [.int a] ∧ RetV (.bl true) H Q
theorem ok_law_whole {f : Addr} {fd : FuncData} (F : Fun K "_law_whole" "_law_whole" s_law_whole f fd) (T : Txt mg) : FnOk P w K mg base CX0 1 f fd p_law_whole sp_law_whole := by
  refine F.ok sc_law_whole (fun vs H Q E h => ?_) (fun cdv A outer s H vs Q E hr h => ?_)
  · obtain ⟨a, rfl, _⟩ := h
    rfl
  · obtain ⟨a, rfl, k⟩ := h
    refine ⟨_, (pss_one (ps_ret (pe_and (pe_callB (cr_isiK (K := K) rfl) (by rfl) T.isinstance_ boot_isinstance (pa_cons (pv 0) (pa_cons (pe_bltn (by rfl) T.int_ (by decide +kernel) (show RelV (.ty "int") _ from rfl)) pa_nil))) (pe_one (pe_not (pe_callB (cr_isiK (K := K) rfl) (by rfl) T.isinstance_ boot_isinstance (pa_cons (pv 0) (pa_cons (pe_bltn (by rfl) T.bool_ (by decide +kernel) (show RelV (.ty "bool") _ from rfl)) pa_nil)))))))), ?_⟩
    refine s_ret (ev_is (ev_andV (a := true) (b := true) ?_ fun _ => ?_) rfl) fun H1 e1 => k H1 e1
    · exact ev_isi (a := "int") (b := "int") (q := true) (ev_var rfl) ev_c tyx_int isi_int_int
    · exact ev_notV (a := false) (ev_isi (a := "int") (b := "bool") (q := false) (ev_var rfl) ev_c tyx_int isi_int_bool)
theorem sv_law_whole {a : Int} {H : Hp} : SpV sp_law_whole ([.int a] ++ []) H (.bl true) := fun H1 e Q q E => ⟨a, rfl, fun H2 e2 => q H2 e2⟩
abbrev C_law_whole (P : Program) (w : World) (K : PySem.W.Frag) (mg : Str → Option Value) (base : Heap) := Cal P w K mg base 1 "_law_whole" p_law_whole [] sp_law_whole
abbrev s_law_is_number : Stmt := topS 56
abbrev n_law_is_number : List Str := ["_law_thing", "_law_due"]
abbrev p_law_is_number : List Str := ["_law_thing", "_law_due"]
theorem sc_law_is_number : FnScope n_law_is_number p_law_is_number (defScope s_law_is_number) := ⟨rfl, rfl, rfl, by decide +kernel, rfl, by decide +kernel, by decide +kernel⟩
def sp_law_is_number : Sp := fun vs H Q _ => ∃ (a b : Int), vs = [.int a, .int b] ∧ RetV (.bl (decide (a = b))) H Q
theorem ok_law_is_number {f : Addr} {fd : FuncData} (F : Fun K "_law_is_number" "_law_is_number" s_law_is_number f fd) (T : Txt mg) : FnOk P w K mg base CX0 1 f fd p_law_is_number sp_law_is_number := by
  refine F.ok sc_law_is_number (fun vs H Q E h => ?_) (fun cdv A outer s H vs Q E hr h => ?_)
  · obtain ⟨a, b, rfl, _⟩ := h
    rfl
  · obtain ⟨a, b, rfl, k⟩ := h
    refine ⟨_, (pss_one (ps_ret (pe_and (pe_callB (cr_isiK (K := K) rfl) (by rfl) T.isinstance_ boot_isinstance (pa_cons (pv 0) (pa_cons (pe_bltn (by rfl) T.int_ (by decide +kernel) (show RelV (.ty "int") _ from rfl)) pa_nil))) (pe_and (pe_not (pe_callB (cr_isiK (K := K) rfl) (by rfl) T.isinstance_ boot_isinstance (pa_cons (pv 0) (pa_cons (pe_bltn (by rfl) T.bool_ (by decide +kernel) (show RelV (.ty "bool") _ from rfl)) pa_nil)))) (pe_one (pe_cmpR op_eq (pv 0) (pv 1) (nomark _))))))), ?_⟩
    refine s_ret (ev_is (ev_andV (a := true) (b := true && decide (a = b)) ?_ fun _ => ev_andV (a := true) (b := decide (a = b)) ?_ fun _ => ?_) (by rw [Bool.true_and, Bool.true_and])) fun H1 e1 => k H1 e1
    · exact ev_isi (a := "int") (b := "int") (q := true) (ev_var rfl) ev_c tyx_int isi_int_int
    · exact ev_notV (a := false) (ev_isi (a := "int") (b := "bool") (q := false) (ev_var rfl) ev_c tyx_int isi_int_bool)
    · exact ev_eq (ev_var rfl) (ev_var rfl)
theorem sv_law_is_number {a b : Int} {H : Hp} (e : a = b) : SpV sp_law_is_number ([.int a, .int b] ++ []) H (.bl true) := fun H1 _ Q q E => ⟨a, b, rfl, fun H2 e2 => by rw [decide_eq_true e]; exact q H2 e2⟩
abbrev C_law_is_number (P : Program) (w : World) (K : PySem.W.Frag) (mg : Str → Option Value) (base : Heap) := Cal P w K mg base 1 "_law_is_number" p_law_is_number [] sp_law_is_number
abbrev s_law_choose : Stmt := topS 53
abbrev n_law_choose : List Str := ["_law_many", "_law_taken", "_law_total", "_law_k"]
abbrev p_law_choose : List Str := ["_law_many", "_law_taken"]
theorem sc_law_choose : FnScope n_law_choose p_law_choose (defScope s_law_choose) := ⟨rfl, rfl, rfl, by decide +kernel, rfl, by decide +kernel, by decide +kernel⟩
-- 0 _law_many 1 _law_taken 2 _law_total 3 _law_k
def sp_law_choose : Sp := fun vs H Q _ => ∃ (m t : Nat), vs = [.int (m : Int), .int (t : Int)] ∧ t ≤ m ∧ m ≤ 1000 ∧ RetV (.int (chooseL m t : Nat)) H Q
theorem ok_law_choose {f : Addr} {fd : FuncData} (F : Fun K "_law_choose" "_law_choose" s_law_choose f fd) (T : Txt mg) : FnOk P w K mg base CX0 1 f fd p_law_choose sp_law_choose := by
  refine F.ok sc_law_choose (fun vs H Q E h => ?_) (fun cdv A outer s H vs Q E hr h => ?_)
  · obtain ⟨m, t, rfl, _⟩ := h
    rfl
  · obtain ⟨m, t, rfl, hmt, hm, k⟩ := h
    refine ⟨_, (pss_cons (ps_if (PW.pt (pw_or (pt_cmpR op_lt (pv 1) pe_int (nomark _)) (pw_or1 (pt_cmpR op_gt (pv 1) (pv 0) (nomark _)))))
      (pss_one (ps_ret pe_int))
      pss_nil)
      (pss_cons (ps_set (i := 2) sc_law_choose.nd rfl (by first | exact Or.inl rfl | exact Or.inr rfl) pe_int)
      (pss_cons (ps_for PassesOwn.never rfl (pi_range1 (by rfl) T.range_ (pa_cons (pv 1) pa_nil)) (pg_name (i := 3) sc_law_choose.nd rfl (by first | exact Or.inl rfl | exact Or.inr rfl))
      (pss_one (ps_set (i := 2) sc_law_choose.nd rfl (by first | exact Or.inl rfl | exact Or.inr rfl) (pe_op op_fdiv (pe_op op_mul (pv 2) (pe_op op_sub (pv 0) (pv 3))) (pe_op op_add (pv 3) pe_int)))))
      (pss_one (ps_ret (pv 2)))))), ?_⟩
    unfold chooseL at k
    rw [if_neg (by omega)] at k
    refine q_pass (b := false) (et_is (et_or (a := false) (b := false) (et_is (by walk_at "et") (decide_eq_false (by omega))) fun _ => et_is (by walk_at "et") (decide_eq_false (by omega))) rfl) rfl fun H1 e1 => ?_
    refine q_asg ev_c fun H2 e2 => ?_
    refine q_forRE (n := (t : Int)) (ea_cons (by walk_at "ev") ea_nil) ⟨by omega, by omega⟩ (fun i σ' => ∃ st, σ' = [some (.int (m : Int)), some (.int (t : Int)), some (.int (chL m i : Nat)), st]) ⟨none, rfl⟩ ?_ ?_
    · rintro i σ' H' e' hi ⟨st, rfl⟩ N hN
      have him : i ≤ m := by omega
      have h1 : CMul ((chL m i : Nat) : Int) ((m : Int) - (i : Int)) := Or.inr ⟨by omega, by omega⟩
      have h2 : CDiv (((chL m i : Nat) : Int) * ((m : Int) - (i : Int))) ((i : Int) + 1) := ⟨by omega, by omega⟩
      refine s_asg (v := .int (((chL m i : Nat) : Int) * ((m : Int) - (i : Int)) / ((i : Int) + 1))) (by walk_at "ev") fun H2 e2 => hN _ H2 e2 ⟨some (.int i), ?_⟩
      rw [chL_step him]
      rfl
    · rintro σ' H' e' ⟨st, rfl⟩
      exact s_ret (ev_var rfl) fun H3 e3 => k H3 (((e1.trans e2).trans e').trans e3)
theorem sv_law_choose {m t : Nat} {H : Hp} (h0 : t ≤ m) (h1 : m ≤ 1000) : SpV sp_law_choose ([.int (m : Int), .int (t : Int)] ++ []) H (.int (chooseL m t : Nat)) := fun H1 _ Q q E => ⟨m, t, rfl, h0, h1, fun H2 e2 => q H2 e2⟩
abbrev C_law_choose (P : Program) (w : World) (K : PySem.W.Frag) (mg : Str → Option Value) (base : Heap) := Cal P w K mg base 1 "_law_choose" p_law_choose [] sp_law_choose
abbrev s_law_counts : Stmt := topS 54
abbrev n_law_counts : List Str := ["_law_n", "_law_modulus", "_law_counts_here", "_law_place", "_law_k"]
abbrev p_law_counts : List Str := ["_law_n", "_law_modulus"]
theorem sc_law_counts : FnScope n_law_counts p_law_counts (defScope s_law_counts) := ⟨rfl, rfl, rfl, by decide +kernel, rfl, by decide +kernel, by decide +kernel⟩
-- 0 _law_n 1 _law_modulus 2 _law_counts_here 3 _law_place 4 _law_k
def cRow (n p : Nat) : List Int := (List.range (n + 1)).map fun r => ((cF (n + 1) p r : Nat) : Int)
theorem cRow_at {n p r : Nat} (h : r ≤ n) : atI ((cRow n p).map V.int) (r : Int) = some (.int (cF (n + 1) p r : Nat)) := atI_nat (by
  unfold cRow
  rw [List.map_map, List.getElem?_map, List.getElem?_range (by omega)]
  rfl)
theorem cRow0 {n : Nat} : (V.int 1 :: (List.replicate n [V.int 0]).flatten) = (cRow n 0).map V.int := by
  unfold cRow
  rw [List.range_succ_eq_map, List.map_cons, List.map_cons, List.map_map]
  congr 1
  apply List.ext_getElem?
  intro i
  have e : (List.replicate n [V.int 0]).flatten = List.replicate n (V.int 0) := by
    induction n with
    | zero => rfl
    | succ n ih => rw [List.replicate_succ, List.flatten_cons, ih]; rfl
  rw [e]
  by_cases hi : i < n
  · rw [List.getElem?_replicate, if_pos hi, List.map_map, List.getElem?_map, List.getElem?_range hi]
    show _ = some (V.int ((if i + 1 = 0 then 1 else 0 : Nat) : Int))
    rw [if_neg (by omega)]
    rfl
  · rw [List.getElem?_eq_none (by simp; omega), List.getElem?_eq_none (by simp; omega)]
def sp_law_counts : Sp := fun vs H Q _ => ∃ (n : Nat), vs = [.int (n : Int), .int ((n : Int) + 1)] ∧ n ≤ 200 ∧ RetG (IsL ((cRow n n).map V.int)) H Q
theorem ok_law_counts {f : Addr} {fd : FuncData} (F : Fun K "_law_counts" "_law_counts" s_law_counts f fd) (T : Txt mg) : FnOk P w K mg base CX0 1 f fd p_law_counts sp_law_counts := by
  refine F.ok sc_law_counts (fun vs H Q E h => ?_) (fun cdv A outer s H vs Q E hr h => ?_)
  · obtain ⟨n, rfl, _⟩ := h
    rfl
  · obtain ⟨n, rfl, hn, k⟩ := h
    refine ⟨_, (pss_cons (ps_set (i := 2) sc_law_counts.nd rfl (by first | exact Or.inl rfl | exact Or.inr rfl) (pe_op op_cat (pe_lst (pa_cons pe_int pa_nil)) (pe_op op_rep (pe_lst (pa_cons pe_int pa_nil)) (pe_op op_sub (pv 1) pe_int))))
      (pss_cons (ps_for PassesOwn.never rfl (pi_range2 (by rfl) T.range_ (pa_cons pe_int (pa_cons (pe_op op_add (pv 0) pe_int) pa_nil))) (pg_name (i := 3) sc_law_counts.nd rfl (by first | exact Or.inl rfl | exact Or.inr rfl))
      (pss_one (ps_set (i := 2) sc_law_counts.nd rfl (by first | exact Or.inl rfl | exact Or.inr rfl) (pe_lc (own := [("_law_k", 4)]) rfl sc_law_counts.nd (pi_range1 (by rfl) T.range_ (pa_cons (pv 1) pa_nil)) (blkOk_by (own := [("_law_k", 4)]) (N := n_law_counts) (sc := defScope s_law_counts) (by decide +kernel)) (fun _ _ _ _ _ => (pg_name (i := 4) sc_law_counts.nd rfl (by first | exact Or.inl rfl | exact Or.inr rfl))) (fun _ _ _ _ _ => pts_nil) (fun _ _ _ _ _ => (pe_op op_add (pe_ix (ix_listK (K := K) rfl) (pv 2) (pv 4) (fun _ _ => rfl)) (pe_ix (ix_listK (K := K) rfl) (pv 2) (pe_op op_mod (pe_callTy cr_int (by rfl) T.int_ boot_int (pa_cons (pe_op op_sub (pv 4) (pv 3)) pa_nil)) (pv 1)) (fun _ _ => rfl))))))))
      (pss_one (ps_ret (pv 2))))), ?_⟩
    have h0 := evG_catL (evG_lst (σ := L2.start n_law_counts [V.int n, V.int (n + 1)]) (H := H) (ea_cons (ev_c (v := .int 1)) ea_nil) (by decide)) (evG_rep (evG_lst (ea_cons (ev_c (v := .int 0)) ea_nil) (by decide)) (show Ev (tOp (rI0 fun i j => .int (i - j)) (tVar 1) (tC (.int 1))) _ _ (.int (n : Int)) from ev_is (by walk_at "ev") (congrArg V.int (by omega))) ⟨by omega, by omega⟩ (by show 1 * _ ≤ _; omega)) (by simp; omega)
    have e0 : [V.int 1] ++ (List.replicate (n : Int).toNat [V.int 0]).flatten = (cRow n 0).map V.int := cRow0
    rw [e0] at h0
    refine q_asgG h0 fun v0 H1 e1 hv0 => ?_
    refine q_forR2 (lo := 1) (n := (n : Int) + 1) (ea_cons ev_c (ea_cons (by walk_at "ev") ea_nil)) ⟨by omega, by omega, by omega, by omega⟩ (fun i σ' H' => Ex H H' ∧ ∃ (v : V) (x y : Option V), σ' = [some (.int n), some (.int (n + 1)), some v, x, y] ∧ IsL ((cRow n i).map V.int) v H') (fun H2 e2 => ⟨e1.trans e2, v0, none, none, rfl, by
        obtain ⟨p, a, b⟩ := hv0
        exact ⟨p, a, e2 p _ b⟩⟩) ?_ ?_
    · rintro i σ' H' hi ⟨x1, v, x, y, rfl, p, rfl, hp⟩
      have hp0 : H' p = some (.lst ((cRow n i).map V.int)) := hp
      have hlc := evG_lcRI (σ := [some (.int n), some (.int (n + 1)), some (.ref p), some (.int (1 + (i : Int))), y]) (H := H') (vs := [4]) (j := 4) (tr := tCons (tVar 1) tNil) (n := (n : Int) + 1)
        (te := tOp (rI0 fun i j => .int (i + j)) (tOp (rIxL K) (tVar 2) (tVar 4)) (tOp (rIxL K) (tVar 2) (tOp (rI (fun _ j => 0 < j) fun i j => .int (i % j)) (tCB rInt1 (tCons (tOp (rI0 fun i j => .int (i - j)) (tVar 4) (tVar 3)) tNil)) (tVar 1))))
        (fun r => ((cF (n + 1) (i + 1) r : Nat) : Int)) (ea_cons (ev_var rfl) ea_nil) ⟨by omega, by omega⟩ (fun _ => rfl) (fun r H2 e2 hr => by
          have hp2 := e2 p _ hp
          have em : ((r : Int) - (1 + (i : Int))) % ((n : Int) + 1) = ((r + (n + 1) - (i + 1)) % (n + 1) : Nat) := by
            rw [Int.natCast_emod, Int.natCast_sub (by omega), ← Int.add_emod_right]
            congr 1
            simp only [Int.natCast_add]
            omega
          have h1 := ev_ixL (K := K) (evG_varL (σ := (wipe [some (.int n), some (.int (n + 1)), some (.ref p), some (.int (1 + (i : Int))), y] [4]).set 4 (some (.int (r : Int)))) (k := 2) rfl hp2) (ev_var (i := 4) rfl) (cRow_at (n := n) (p := i) (r := r) (by omega))
          have hlt : (r + (n + 1) - (i + 1)) % (n + 1) ≤ n := Nat.le_of_lt_succ (Nat.mod_lt _ (by omega))
          have h2 := ev_ixL (K := K) (evG_varL (σ := (wipe [some (.int n), some (.int (n + 1)), some (.ref p), some (.int (1 + (i : Int))), y] [4]).set 4 (some (.int (r : Int)))) (k := 2) rfl hp2) (ev_is (ev_mod (ev_int1 (ev_sub (ev_var (i := 4) (v := .int (r : Int)) rfl) (ev_var (i := 3) (v := .int (1 + (i : Int))) rfl))) (ev_var (i := 1) (v := .int ((n : Int) + 1)) rfl) (by omega)) (congrArg V.int em)) (cRow_at (n := n) (p := i) hlt)
          exact ev_is (ev_add h1 h2) rfl)
      refine s_asgG hlc fun v2 H2 e2 hv2 => ⟨x1.trans e2, v2, _, _, rfl, ?_⟩
      exact hv2
    · rintro σ' H' ⟨x1, v, x, y, rfl, p, rfl, hp⟩
      have en : ((n : Int) + 1 - 1).toNat = n := by omega
      rw [en] at hp
      exact s_retG (evG_varL rfl hp) fun v2 H2 e2 p2 => k v2 H2 (x1.trans e2) p2
theorem sv_law_counts {n : Nat} {H : Hp} (hn : n ≤ 200) : SpW sp_law_counts ([.int (n : Int), .int ((n : Int) + 1)] ++ []) H (IsL ((cRow n n).map V.int)) := fun H1 e Q q E => ⟨n, rfl, hn, fun v H2 e2 p => q v H2 e2 p⟩
abbrev C_law_counts (P : Program) (w : World) (K : PySem.W.Frag) (mg : Str → Option Value) (base : Heap) := Cal P w K mg base 1 "_law_counts" p_law_counts [] sp_law_counts
end
end K47

set_option maxHeartbeats 4000000
namespace K47
open PySem PySem.Spec PyProof.Rows L2 Evl
local macro_rules | `(tactic| walk_at "evs") => `(tactic| first | assumption | omega | decide | exact ⟨by omega, by omega⟩ | exact Or.inl ⟨by omega, by omega⟩ | exact Or.inr ⟨by omega, by omega⟩)
local macro_rules | `(tactic| walk_at "ev") => `(tactic| first
  | with_reducible exact ev_c
  | ((with_reducible apply ev_var); rfl)
  | ((with_reducible apply ev_add) <;> walk_at "ev")
  | ((with_reducible apply ev_sub) <;> walk_at "ev")
  | ((with_reducible apply ev_neg) <;> walk_at "ev")
  | ((with_reducible apply ev_int1) <;> walk_at "ev")
  | ((with_reducible apply ev_mod); (· walk_at "ev"); (· walk_at "ev"); (· walk_at "evs"))
  | ((with_reducible apply ev_div); (· walk_at "ev"); (· walk_at "ev"); (· walk_at "evs"))
  | ((with_reducible apply ev_mul); (· walk_at "ev"); (· walk_at "ev"); (· walk_at "evs"))
  | ((with_reducible apply ev_lt) <;> walk_at "ev")
  | ((with_reducible apply ev_le) <;> walk_at "ev")
  | ((with_reducible apply ev_gt) <;> walk_at "ev")
  | ((with_reducible apply ev_ge) <;> walk_at "ev")
  | ((with_reducible apply ev_eq) <;> walk_at "ev")
  | ((with_reducible apply ev_ne) <;> walk_at "ev")
  | ((with_reducible apply ev_min2) <;> walk_at "ev")
  | (apply ev_isi (a := "int") (ty := tyx_int) (e := isi_int_int) <;> walk_at "ev")
  | (apply ev_isi (a := "int") (ty := tyx_int) (e := isi_int_bool) <;> walk_at "ev"))
local macro_rules | `(tactic| walk_at "et") => `(tactic| first
  | ((with_reducible apply et_test); walk_at "ev")
  | ((with_reducible apply et_B); walk_at "ev")
  | ((with_reducible apply et_not); walk_at "et"))
local macro_rules | `(tactic| walk_at "ea") => `(tactic| first
  | with_reducible exact ea_nil
  | ((with_reducible apply ea_cons); (· walk_at "ev"); (· walk_at "ea")))

/-! ### dicts of ints -/
theorem nodup_short : ∀ {N : Nat} {l : List Nat}, l.Nodup → (∀ x ∈ l, x < N) → l.length ≤ N
  | 0, [], _, _ => Nat.le_refl _
  | 0, x :: l, _, h => absurd (h x List.mem_cons_self) (Nat.not_lt_zero x)
  | N + 1, l, hn, h => by
    have h1 : ∀ {l : List Nat}, l.Nodup → l.length ≤ (l.filter fun x => decide (x ≠ N)).length + 1 := by
      intro l
      induction l with
      | nil => intro _; exact Nat.zero_le _
      | cons x l ih =>
        intro hn
        have hn' := List.nodup_cons.mp hn
        by_cases e : x = N
        · have ef : l.filter (fun x => decide (x ≠ N)) = l := List.filter_eq_self.mpr fun y hy => decide_eq_true fun z => hn'.1 (by rw [e, ← z]; exact hy)
          rw [List.filter_cons, if_neg (by simp [e]), ef]
          exact Nat.le_refl _
        · rw [List.filter_cons, if_pos (by simp [e])]
          have := ih hn'.2
          simp only [List.length_cons]
          omega
    have h2 := nodup_short (N := N) (l := l.filter fun x => decide (x ≠ N)) (hn.filter _) fun x hx => by
      have h3 := List.mem_filter.mp hx
      have h4 := h x h3.1
      have h5 := of_decide_eq_true h3.2
      omega
    have := h1 hn
    omega
/-- a table: its keys are rests, what it lacks is 0 -/
structure Tab (N : Nat) (kvs : List (Key × V)) (f : Nat → Nat) : Prop where
  keys : ∃ ks : List Nat, kvs.map (·.1) = ks.map (fun r : Nat => (Sum.inl (r : Int) : Key)) ∧ ks.Nodup ∧ (∀ r ∈ ks, r < N) ∧ ∀ r, r < N → valV kvs (Sum.inl (r : Int) : Key) = if r ∈ ks then some (.int (f r : Nat)) else none
  zero : ∀ r, r < N → valV kvs (Sum.inl (r : Int) : Key) = none → f r = 0
theorem Tab.len {N : Nat} {kvs : List (Key × V)} {f : Nat → Nat} (t : Tab N kvs f) : kvs.length ≤ N := by
  obtain ⟨ks, e, nd, lt, _⟩ := t.keys
  have h := nodup_short nd lt
  have e2 := congrArg List.length e
  rw [List.length_map, List.length_map] at e2
  omega
theorem Tab.getD {N r : Nat} {kvs : List (Key × V)} {f : Nat → Nat} (t : Tab N kvs f) (h : r < N) : (valV kvs (Sum.inl (r : Int) : Key)).getD (.int 0) = .int (f r : Nat) := by
  obtain ⟨ks, e, nd, lt, hv⟩ := t.keys
  cases hx : valV kvs (Sum.inl (r : Int) : Key) with
  | none => rw [t.zero r h hx]; rfl
  | some v =>
    have h1 := hv r h
    rw [hx] at h1
    by_cases hm : r ∈ ks
    · rw [if_pos hm] at h1
      rw [h1]
      rfl
    · rw [if_neg hm] at h1
      cases h1
theorem Tab.nil {N : Nat} {f : Nat → Nat} (h : ∀ r, f r = 0) : Tab N [] f := ⟨⟨[], rfl, List.nodup_nil, fun r h => absurd h List.not_mem_nil, fun r _ => rfl⟩, fun r _ _ => h r⟩
theorem Tab.congr {N : Nat} {kvs : List (Key × V)} {f g : Nat → Nat} (t : Tab N kvs f) (h : ∀ r, r < N → f r = g r) : Tab N kvs g := by
  obtain ⟨⟨ks, e, nd, lt, hv⟩, z⟩ := t
  exact ⟨⟨ks, e, nd, lt, fun r hr => by rw [← h r hr]; exact hv r hr⟩, fun r hr hx => by rw [← h r hr]; exact z r hr hx⟩
theorem Tab.put {N : Nat} {kvs : List (Key × V)} {f : Nat → Nat} (t : Tab N kvs f) {m c : Nat} (hm : m < N) : Tab N (putK kvs (Sum.inl (m : Int) : Key) (.int (c : Nat))) (fun r => if r = m then c else f r) := by
  have inj : ∀ {a b : Nat}, (Sum.inl (a : Int) : Key) = Sum.inl (b : Int) → a = b := fun h => by cases h; rfl
  have inj' : ∀ {a b : Nat}, ¬ a = b → ¬ (Sum.inl (a : Int) : Key) = Sum.inl (b : Int) := fun h e => h (by
    have := Sum.inl.inj e
    omega)
  obtain ⟨⟨ks, e, nd, lt, hv⟩, z⟩ := t
  have hz : ∀ r, r < N → valV (putK kvs (Sum.inl (m : Int) : Key) (.int (c : Nat))) (Sum.inl (r : Int) : Key) = none → (if r = m then c else f r) = 0 := fun r hr h => by
    rw [valV_put] at h
    by_cases er : r = m
    · subst er
      rw [if_pos rfl] at h
      cases h
    · rw [if_neg (inj' er)] at h
      rw [if_neg er]
      exact z r hr h
  by_cases hin : m ∈ ks
  · refine ⟨⟨ks, ?_, nd, lt, fun r hr => ?_⟩, hz⟩
    · have ha : (kvs.any fun kv => decide (kv.1 = (Sum.inl (m : Int) : Key))) = true := by
        rw [valV_any, hv m hm, if_pos hin]
        rfl
      unfold putK
      rw [if_pos ha, List.map_map, ← e]
      apply List.map_congr_left
      intro kv _
      show (if kv.1 = _ then (kv.1, _) else kv).1 = kv.1
      split <;> rfl
    · rw [valV_put]
      by_cases er : r = m
      · subst er
        rw [if_pos rfl, if_pos hin, if_pos rfl]
      · rw [if_neg (inj' er), if_neg er]
        exact hv r hr
  · have hn : valV kvs (Sum.inl (m : Int) : Key) = none := by rw [hv m hm, if_neg hin]
    rw [putK_new _ hn] at hz ⊢
    refine ⟨⟨ks ++ [m], ?_, ?_, ?_, fun r hr => ?_⟩, hz⟩
    · rw [List.map_append, e, List.map_append]
      rfl
    · refine List.nodup_append.mpr ⟨nd, List.nodup_cons.mpr ⟨List.not_mem_nil, List.nodup_nil⟩, fun a ha b hb => ?_⟩
      rw [List.mem_singleton.mp hb]
      intro e
      exact hin (e ▸ ha)
    · intro r hr
      rcases List.mem_append.mp hr with h | h
      · exact lt r h
      · rw [List.mem_singleton.mp h]
        exact hm
    · rw [← putK_new _ hn, valV_put]
      by_cases er : r = m
      · subst er
        rw [if_pos rfl, if_pos (List.mem_append_right _ (List.mem_singleton.mpr rfl)), if_pos rfl]
      · rw [if_neg (inj' er), if_neg er, hv r hr]
        by_cases hrk : r ∈ ks
        · rw [if_pos hrk, if_pos (List.mem_append_left _ hrk)]
        · rw [if_neg hrk, if_neg (by simp [er, hrk])]
section
variable {σ : L2.St} {H : Hp} {td ty tx tv : TE} {a : Addr} {kvs : List (Key × V)} {k : Int} {v x : V} {D : Ends} {tz : TS}
theorem kV_int (k : Int) : kV (Sum.inl k : Key) = .int k := rfl
theorem ev_dget (hd : Ev td σ H (.ref a)) (hk : Ev ty σ H (.int k)) (ha : H a = some (.dK kvs)) (hv : valV kvs (Sum.inl k : Key) = some v) : Ev (tDGet td ty) σ H v := fun H1 e Q q =>
  hd H1 e _ fun H2 e2 => hk H2 (e.trans e2) _ fun H3 e3 => ⟨a, v, rfl, hv ▸ DGet.k (k := Sum.inl k) (((e.trans e2).trans e3) a _ ha), q H3 (e2.trans e3)⟩
theorem ev_dget2 (hd : Ev td σ H (.ref a)) (hk : Ev ty σ H (.int k)) (hx : Ev tx σ H x) (ha : H a = some (.dK kvs)) (hv : (valV kvs (Sum.inl k : Key)).getD x = v) : Ev (tDGet2 td ty tx) σ H v := fun H1 e Q q =>
  hd H1 e _ fun H2 e2 => ⟨a, rfl, .inl ⟨kvs, .inl (e2 a _ (e a _ ha))⟩, hk H2 (e.trans e2) _ fun H3 e3 => hx H3 ((e.trans e2).trans e3) _ fun H4 e4 => ⟨_, DGet.k (k := Sum.inl k) ((((e.trans e2).trans e3).trans e4) a _ ha), by rw [hv]; exact q H4 ((e2.trans e3).trans e4)⟩⟩
theorem s_dput (hv : Ev tv σ H v) (hd : Ev td σ H (.ref a)) (hk : Ev ty σ H (.int k)) (ha : H a = some (.dK kvs)) (hl : kvs.length < 100000) (q : ∀ H1, Ex H H1 → D.nx σ (upd H1 a (.dK (putK kvs (Sum.inl k : Key) v)))) : sDPut td ty tv D σ H :=
  hv H (Ex.refl H) _ fun H1 e1 => hd H1 e1 _ fun H2 e2 => hk H2 (e1.trans e2) _ fun H3 e3 => ⟨a, _, rfl, DPut.k (k := Sum.inl k) (((e1.trans e2).trans e3) a _ ha) (sz_lt hl), q H3 ((e1.trans e2).trans e3)⟩
theorem q_dput (hv : Ev tv σ H v) (hd : Ev td σ H (.ref a)) (hk : Ev ty σ H (.int k)) (ha : H a = some (.dK kvs)) (hl : kvs.length < 100000) (q : ∀ H1, Ex H H1 → tz D σ (upd H1 a (.dK (putK kvs (Sum.inl k : Key) v)))) : tSeq (sDPut td ty tv) tz D σ H := s_dput (D := { D with nx := tz D }) hv hd hk ha hl q
end
/-- the list of tables; all of it new since H0 -/
structure TabsAt (H0 H : Hp) (t : Addr) (ds : List Addr) (N : Nat) (F : Nat → Nat → Nat) : Prop where
  ex : Ex H0 H
  lst : H t = some (.lst (ds.map V.ref))
  nd : ds.Nodup
  fr : ∀ d ∈ ds, H0 d = none
  tab : ∀ (k : Nat) (h : k < ds.length), ∃ kvs, H ds[k] = some (.dK kvs) ∧ Tab N kvs (F k)
theorem TabsAt.mono {H0 H H' : Hp} {t : Addr} {ds : List Addr} {N : Nat} {F : Nat → Nat → Nat} (h : TabsAt H0 H t ds N F) (e : Ex H H') : TabsAt H0 H' t ds N F :=
  ⟨h.ex.trans e, e t _ h.lst, h.nd, h.fr, fun k hk => let ⟨kvs, a, b⟩ := h.tab k hk; ⟨kvs, e _ _ a, b⟩⟩
theorem TabsAt.congr {H0 H : Hp} {t : Addr} {ds : List Addr} {N : Nat} {F G : Nat → Nat → Nat} (h : TabsAt H0 H t ds N F) (e : ∀ k r, k < ds.length → r < N → F k r = G k r) : TabsAt H0 H t ds N G :=
  ⟨h.ex, h.lst, h.nd, h.fr, fun k hk => let ⟨kvs, a, b⟩ := h.tab k hk; ⟨kvs, a, b.congr fun r hr => e k r hk hr⟩⟩
theorem TabsAt.put {H0 H : Hp} {t : Addr} {ds : List Addr} {N : Nat} {F : Nat → Nat → Nat} (h : TabsAt H0 H t ds N F) {k : Nat} (hk : k < ds.length) {kvs : List (Key × V)} {f : Nat → Nat} (hf : Tab N kvs f) :
    TabsAt H0 (upd H ds[k] (.dK kvs)) t ds N (fun j => if j = k then f else F j) := by
  have ht : t ≠ ds[k] := by
    intro e
    obtain ⟨kv, a, _⟩ := h.tab k hk
    rw [← e, h.lst] at a
    cases a
  refine ⟨Ex.mut h.ex (h.fr _ (List.getElem_mem hk)), by rw [upd_ne ht]; exact h.lst, h.nd, h.fr, fun j hj => ?_⟩
  by_cases e : j = k
  · subst e
    exact ⟨kvs, upd_same, by rw [if_pos rfl]; exact hf⟩
  · obtain ⟨kv, a, b⟩ := h.tab j hj
    have ne : ds[j] ≠ ds[k] := fun z => e ((List.getElem_inj h.nd).mp z)
    exact ⟨kv, by rw [upd_ne ne]; exact a, by rw [if_neg e]; exact b⟩
theorem evG_lcD {σ : L2.St} {H : Hp} {tr : TA} {j : Nat} {vs : List Nat} {n : Int} (h : EvA tr σ H [.int n]) (hn : 0 ≤ n ∧ n ≤ 40000) (hw : ∀ x, wipe ((wipe σ vs).set j (some x)) vs = wipe σ vs) :
    EvG (tLc (iRng1 tr) (gName j) tYes tDNewK vs) σ H (fun v H' => ∃ (t : Addr) (ds : List Addr), v = .ref t ∧ ds.length = n.toNat ∧ H' t = some (.lst (ds.map V.ref)) ∧ ds.Nodup ∧ ∀ d ∈ ds, H d = none ∧ H' d = some (.dK [])) := fun H0 e Q q => h H0 e _ fun H1 e1 => ⟨n, rfl, by omega, by omega, fun Dl hD =>
  lc_range (lo := 0) (n := n.toNat) (fun i H' => Ex H1 H' ∧ ∃ ds : List Addr, ds.length = i ∧ H' Dl = some (.lst (ds.map V.ref)) ∧ ds.Nodup ∧ ∀ d ∈ ds, H1 d = none ∧ H' d = some (.dK [])) ⟨Ex.new hD, [], rfl, upd_same, List.nodup_nil, fun d hd => absurd hd List.not_mem_nil⟩ (fun i H' hi p => by
    obtain ⟨x1, ds, hl, hx, nd, hd⟩ := p
    refine ⟨hw _, fun p hp => ⟨ds.map V.ref, ?_, ?_, ?_⟩⟩
    · have : Dl ≠ p := ne_of_none hx hp
      rw [upd_ne this]
      exact hx
    · rw [List.length_map]
      exact sz_lt (by omega)
    · have hpD : p ≠ Dl := (ne_of_none hx hp).symm
      refine ⟨Ex.mut (x1.trans (Ex.new hp)) hD, ds ++ [p], by rw [List.length_append, hl]; rfl, by rw [upd_same, List.map_append]; rfl, ?_, fun d hdm => ?_⟩
      · refine List.nodup_append.mpr ⟨nd, List.nodup_cons.mpr ⟨List.not_mem_nil, List.nodup_nil⟩, fun a ha b hb e => ?_⟩
        rw [List.mem_singleton.mp hb] at e
        have := (hd a ha).2
        rw [e, hp] at this
        cases this
      · rcases List.mem_append.mp hdm with h1 | h1
        · have h2 := hd d h1
          have n1 : d ≠ Dl := fun z => by rw [z, hx] at h2; cases h2.2
          have n2 : d ≠ p := ne_of_none h2.2 hp
          exact ⟨h2.1, by rw [upd_ne n1, upd_ne n2]; exact h2.2⟩
        · rw [List.mem_singleton.mp h1]
          exact ⟨fresh_back x1 hp, by rw [upd_ne hpD]; exact upd_same⟩) (fun H' p => by
    obtain ⟨x1, ds, hl, hx, nd, hd⟩ := p
    exact q _ H' (e1.trans x1) ⟨Dl, ds, rfl, hl, hx, nd, fun d hm => ⟨fresh_back (e.trans e1) (hd d hm).1, (hd d hm).2⟩⟩)⟩
theorem s_forR3 {σ : L2.St} {H : Hp} {D : Ends} {tu : TS} {ta : TA} {j : Nat} {hi : Nat} (h : EvA ta σ H [.int (hi : Int), .int 0, .int (-1)]) (hn : hi ≤ 100000) (Pv : Nat → L2.St → Hp → Prop) (h0 : ∀ H1, Ex H H1 → Pv 0 σ H1)
    (hs : ∀ (i : Nat) σ' H', i < hi → Pv i σ' H' → tu { D with nx := Pv (i + 1), ct := Pv (i + 1), bk := D.nx } (σ'.set j (some (.int ((hi - i : Nat) : Int)))) H') (hd : ∀ σ' H', Pv hi σ' H' → D.nx σ' H') : tFor (iRng3 ta) (gName j) tu D σ H :=
  h H (Ex.refl H) _ fun H1 e => ⟨(hi : Int), 0, -1, ((hi : Int) - 0).toNat, rfl, RgC.neg (by omega) (by omega) (by omega) (by omega), for_rangeC (lo := (hi : Int)) (c := -1) (n := ((hi : Int) - 0).toNat) Pv (h0 H1 e) (fun i σ' H' hi' p => by
    have hlt : i < hi := by omega
    have e0 : (hi : Int) + (i : Nat) * (-1) = ((hi - i : Nat) : Int) := by omega
    show tu { D with nx := Pv (i + 1), ct := Pv (i + 1), bk := D.nx } (σ'.set j (some (.int ((hi : Int) + (i : Nat) * (-1))))) H'
    rw [e0]
    exact hs i σ' H' hlt p) (fun σ' H' p => by
      have : ((hi : Int) - 0).toNat = hi := by omega
      rw [this] at p
      exact hd σ' H' p)⟩
theorem oF_zero {N : Nat} : ∀ {p k r : Nat}, p < k → oF N p k r = 0
  | 0, 0, _, h => absurd h (Nat.lt_irrefl 0)
  | 0, k + 1, _, _ => rfl
  | p + 1, 0, _, h => by omega
  | p + 1, k + 1, r, h => by
    show oF N p (k + 1) r + oF N p k _ = 0
    rw [oF_zero (by omega), oF_zero (by omega)]
theorem md1 {a N : Nat} (h : a < N + N) : a % N = if a < N then a else a - N := by
  by_cases h1 : a < N
  · rw [if_pos h1, Nat.mod_eq_of_lt h1]
  · rw [if_neg h1, Nat.mod_eq_sub_mod (by omega), Nat.mod_eq_of_lt (by omega)]
theorem shift {N p r o : Nat} (hr : r < N) (ho : o < N) (hp : p < N) : (r + N - p) % N = o ↔ r = (o + p) % N := by
  rw [md1 (by omega), md1 (by omega)]
  constructor
  · intro h
    split at h <;> split <;> omega
  · intro h
    split at h <;> split <;> omega
section
variable {P : Program} {w : World} {K : PySem.W.Frag} {mg : Str → Option Value} {base : Heap}
abbrev s_law_with_ones : Stmt := topS 55
abbrev n_law_with_ones : List Str := ["_law_n", "_law_rest", "_law_ones", "_law_tables", "_law_place", "_law_k", "_law_table", "_law_old", "_law_more"]
abbrev p_law_with_ones : List Str := ["_law_n", "_law_rest", "_law_ones"]
theorem sc_law_with_ones : FnScope n_law_with_ones p_law_with_ones (defScope s_law_with_ones) := ⟨rfl, rfl, rfl, by decide +kernel, rfl, by decide +kernel, by decide +kernel⟩
-- 0 _law_n 1 _law_rest 2 _law_ones 3 _law_tables 4 _law_place 5 _law_k 6 _law_table 7 _law_old 8 _law_more
def sp_law_with_ones : Sp := fun vs H Q _ => ∃ (n r k : Nat), vs = [.int (n : Int), .int (r : Int), .int (k : Int)] ∧ n ≤ 200 ∧ r ≤ n ∧ k ≤ n ∧ RetV (.int (oF (n + 1) n k r : Nat)) H Q
theorem ok_law_with_ones {f : Addr} {fd : FuncData} (F : Fun K "_law_with_ones" "_law_with_ones" s_law_with_ones f fd) (T : Txt mg) : FnOk P w K mg base CX0 1 f fd p_law_with_ones sp_law_with_ones := by
  refine F.ok sc_law_with_ones (fun vs H Q E h => ?_) (fun cdv A outer s H vs Q E hr h => ?_)
  · obtain ⟨n, r, k, rfl, _⟩ := h
    rfl
  · obtain ⟨n, r, k, rfl, hn, hrn, hkn, q⟩ := h
    have hu := hu_of hr
    refine ⟨_, (pss_cons (ps_setLc (i := 3) (own := [("_law_k", 5)]) rfl sc_law_with_ones.nd rfl rfl (sw_true rfl rfl rfl (by decide +kernel)) (pi_range1 (by rfl) T.range_ (pa_cons (pe_op op_add (pv 2) pe_int) pa_nil)) (blkOk_by (own := [("_law_k", 5)]) (N := n_law_with_ones) (sc := defScope s_law_with_ones) (by decide +kernel)) (fun _ _ _ _ _ => (pg_name (i := 5) sc_law_with_ones.nd rfl (by first | exact Or.inl rfl | exact Or.inr rfl))) (fun _ _ _ _ _ => pts_nil) (fun _ _ _ _ _ => pe_dnewK))
      (pss_cons (ps_dput hu (pe_ix (ix_listK (K := K) rfl) (pv 3) pe_int (fun _ _ => rfl)) pe_int pe_int rfl)
      (pss_cons (ps_for PassesOwn.never rfl (pi_range2 (by rfl) T.range_ (pa_cons pe_int (pa_cons (pe_op op_add (pv 0) pe_int) pa_nil))) (pg_name (i := 4) sc_law_with_ones.nd rfl (by first | exact Or.inl rfl | exact Or.inr rfl))
      (pss_one (ps_for PassesOwn.never rfl (pi_range3 (by rfl) T.range_ (pa_cons (pe_callB (cr_min2 rfl) (by rfl) T.min_ boot_min (pa_cons (pv 2) (pa_cons (pv 4) pa_nil))) (pa_cons pe_int (pa_cons (pe_un un_neg pe_int) pa_nil)))) (pg_name (i := 5) sc_law_with_ones.nd rfl (by first | exact Or.inl rfl | exact Or.inr rfl))
        (pss_cons (ps_set (i := 6) sc_law_with_ones.nd rfl (by first | exact Or.inl rfl | exact Or.inr rfl) (pe_ix (ix_listK (K := K) rfl) (pv 3) (pv 5) (fun _ _ => rfl)))
          (pss_one (ps_for PassesOwn.never rfl (pi_listK (K := K) rfl (pe_listKeys rfl (pe_ix (ix_listK (K := K) rfl) (pv 3) (pe_op op_sub (pv 5) pe_int) (fun _ _ => rfl)) (by rfl) T.list_ boot_list)) (pg_name (i := 7) sc_law_with_ones.nd rfl (by first | exact Or.inl rfl | exact Or.inr rfl))
          (pss_cons (ps_set (i := 8) sc_law_with_ones.nd rfl (by first | exact Or.inl rfl | exact Or.inr rfl) (pe_op op_mod (pe_callTy cr_int (by rfl) T.int_ boot_int (pa_cons (pe_op op_add (pv 7) (pv 4)) pa_nil)) (pe_op op_add (pv 0) pe_int)))
            (pss_one (ps_dput hu (pv 6) (pv 8) (pe_op op_add (pe_dget2 hu (pv 6) (pv 8) pe_int ⟨by rfl, by rfl, by rfl, by rfl⟩) (pe_dget hu (pe_ix (ix_listK (K := K) rfl) (pv 3) (pe_op op_sub (pv 5) pe_int) (fun _ _ => rfl)) (pv 7) (fun _ _ => rfl))) rfl)))))))))
      (pss_one (ps_ret (pe_dget2 hu (pe_ix (ix_listK (K := K) rfl) (pv 3) (pv 2) (fun _ _ => rfl)) (pv 1) pe_int ⟨by rfl, by rfl, by rfl, by rfl⟩)))))), ?_⟩
    refine q_asgG (evG_lcD (n := (k : Int) + 1) (ea_cons (by walk_at "ev") ea_nil) ⟨by omega, by omega⟩ (fun _ => rfl)) fun v1 H1 e1 ⟨t, ds, ev, hl, ht, nd, hd⟩ => ?_
    subst ev
    have hl' : ds.length = k + 1 := by omega
    have T0 : TabsAt H H1 t ds (n + 1) (fun _ _ => 0) := ⟨e1, ht, nd, fun d hm => (hd d hm).1, fun j hj => ⟨[], (hd _ (List.getElem_mem hj)).2, Tab.nil fun _ => rfl⟩⟩
    -- reads of the tables
    have rdT : ∀ (H1 : Hp) (σ : L2.St) (G : Nat → Nat → Nat) (ti : TE) (j : Nat), σ[3]? = some (some (.ref t)) → TabsAt H H1 t ds (n + 1) G → Ev ti σ H1 (.int (j : Int)) → (hj : j < ds.length) → Ev (tOp (rIxL K) (tVar 3) ti) σ H1 (.ref ds[j]) := fun H1 σ G ti j hs tb hi hj =>
      ev_ixL (evG_varL hs tb.lst) hi (atI_nat (by rw [List.getElem?_map, List.getElem?_eq_getElem hj]; rfl))
    have h00 : 0 < ds.length := by omega
    refine q_dput (k := 0) (v := .int ((1 : Nat) : Int)) ev_c (rdT _ _ _ _ 0 rfl T0 ev_c h00) ev_c (hd _ (List.getElem_mem h00)).2 (by show 0 < 100000; decide) fun H2 e2 => ?_
    have T1 : TabsAt H (upd H2 ds[0] (.dK (putK [] (Sum.inl ((0 : Nat) : Int) : Key) (.int ((1 : Nat) : Int))))) t ds (n + 1) (oF (n + 1) 0) :=
      ((T0.mono e2).put h00 ((Tab.nil (N := n + 1) (f := fun _ => 0) fun _ => rfl).put (m := 0) (c := 1) (by omega))).congr fun j r hj hr => by
        cases j with
        | zero => rfl
        | succ j => rfl
    generalize (upd H2 ds[0] (.dK (putK [] (Sum.inl ((0 : Nat) : Int) : Key) (.int ((1 : Nat) : Int))))) = H3 at T1
    refine q_forR2 (lo := 1) (n := (n : Int) + 1) (ea_cons ev_c (ea_cons (by walk_at "ev") ea_nil)) ⟨by omega, by omega, by omega, by omega⟩ (fun i σ' H' => (∃ x4 x5 x6 x7 x8, σ' = [some (.int n), some (.int r), some (.int k), some (.ref t), x4, x5, x6, x7, x8]) ∧ TabsAt H H' t ds (n + 1) (oF (n + 1) i)) (fun H4 e4 => ⟨⟨none, none, none, none, none, rfl⟩, T1.mono e4⟩) ?_ ?_
    · rintro i σ' H' hi ⟨⟨x4, x5, x6, x7, x8, rfl⟩, Ti⟩
      -- for k in range(min(ones, place), 0, -1)
      have ehi : (if 1 + (i : Int) < (k : Int) then 1 + (i : Int) else (k : Int)) = ((min k (i + 1) : Nat) : Int) := by
        by_cases h : 1 + (i : Int) < (k : Int)
        · rw [if_pos h, Nat.min_eq_right (by omega)]
          omega
        · rw [if_neg h, Nat.min_eq_left (by omega)]
      refine s_forR3 (hi := min k (i + 1)) (ea_cons (ev_is (ev_min2 (ev_var rfl) (ev_var rfl)) (congrArg V.int ehi)) (ea_cons ev_c (ea_cons (ev_neg ev_c) ea_nil))) (by omega)
        (fun u σ' H' => (∃ x5 x6 x7 x8, σ' = [some (.int n), some (.int r), some (.int k), some (.ref t), some (.int (1 + (i : Int))), x5, x6, x7, x8]) ∧ TabsAt H H' t ds (n + 1) (fun j => if min k (i + 1) - u < j then oF (n + 1) (i + 1) j else oF (n + 1) i j)) (fun H4 e4 => ⟨⟨x5, x6, x7, x8, rfl⟩, (Ti.mono e4).congr fun j r hj hr => ?_⟩) ?_ ?_
      · show oF (n + 1) i j r = (if min k (i + 1) - 0 < j then oF (n + 1) (i + 1) j else oF (n + 1) i j) r
        by_cases h : min k (i + 1) - 0 < j
        · rw [if_pos h, oF_zero (by omega), oF_zero (by omega)]
        · rw [if_neg h]
      · rintro u σ' H' hu' ⟨⟨x5, x6, x7, x8, rfl⟩, Tu⟩
        generalize hkk : min k (i + 1) - u = kk at Tu ⊢
        obtain ⟨k1, rfl⟩ : ∃ k1, kk = k1 + 1 := ⟨kk - 1, by omega⟩
        have hk1 : k1 + 1 < ds.length := by omega
        have hk0 : k1 < ds.length := by omega
        refine q_asg (rdT _ _ _ _ (k1 + 1) rfl Tu (ev_var rfl) hk1) fun H4 e4 => ?_
        have T4 := Tu.mono e4
        obtain ⟨kvs', hkv, tb'⟩ := T4.tab k1 hk0
        have tb : Tab (n + 1) kvs' (oF (n + 1) i k1) := tb'.congr fun r _ => by
          show (if k1 + 1 < k1 then oF (n + 1) (i + 1) k1 else oF (n + 1) i k1) r = _
          rw [if_neg (by omega)]
        obtain ⟨ks, hks, ndk, ltk, hval⟩ := tb.keys
        have ekeys : kvs'.map (fun kv => kV kv.1) = ks.map (fun r : Nat => V.int (r : Int)) := by
          have h1 := congrArg (List.map kV) hks
          rw [List.map_map, List.map_map] at h1
          exact h1
        -- the rest from which r is reached
        have hs0 : ∀ r, (r + (n + 1) - (i + 1)) % (n + 1) < n + 1 := fun r => Nat.mod_lt _ (by omega)
        let fj : Nat → Nat → Nat := fun j r => oF (n + 1) i (k1 + 1) r + if (r + (n + 1) - (i + 1)) % (n + 1) ∈ ks.take j then oF (n + 1) i k1 ((r + (n + 1) - (i + 1)) % (n + 1)) else 0
        let FF : Nat → Nat → Nat → Nat := fun j l => if l = k1 + 1 then fj j else if k1 + 1 < l then oF (n + 1) (i + 1) l else oF (n + 1) i l
        refine (rdT H4 _ _ _ k1 rfl T4 (ev_is (ev_sub (ev_var (i := 5) (v := .int ((k1 + 1 : Nat) : Int)) rfl) ev_c) (congrArg V.int (by omega))) hk0) H4 (Ex.refl _) _ fun H5 e5 => ⟨ds[k1], kvs', rfl, e5 _ _ hkv, fun a ha => ⟨a, rfl, ⟨_, SqL.of upd_same⟩, ?_⟩⟩
        rw [ekeys]
        have T5 := T4.mono (e5.trans (Ex.new (o := .lst (ks.map (fun r : Nat => V.int (r : Int)))) ha))
        have hkv5 : (upd H5 a (.lst (ks.map (fun r : Nat => V.int (r : Int))))) ds[k1] = some (.dK kvs') := Ex.new ha _ _ (e5 _ _ hkv)
        refine for_list (K := K) (a := a) (xs := ks.map (fun r : Nat => V.int (r : Int)))
          (fun j σ' H' => (∃ x7 x8, σ' = [some (.int n), some (.int r), some (.int k), some (.ref t), some (.int (1 + (i : Int))), some (.int ((k1 + 1 : Nat) : Int)), some (.ref ds[k1 + 1]), x7, x8]) ∧ TabsAt H H' t ds (n + 1) (FF j) ∧ H' a = some (.lst (ks.map (fun r : Nat => V.int (r : Int)))) ∧ H' ds[k1] = some (.dK kvs'))
          ⟨⟨x7, x8, rfl⟩, T5.congr fun l r hl hr => ?_, upd_same, hkv5⟩ (fun j σ' H' _ p => SqL.of p.2.2.1) ?_ ?_
        · show (if k1 + 1 < l then oF (n + 1) (i + 1) l else oF (n + 1) i l) r = (if l = k1 + 1 then fj 0 else if k1 + 1 < l then oF (n + 1) (i + 1) l else oF (n + 1) i l) r
          by_cases el : l = k1 + 1
          · subst el
            rw [if_neg (by omega), if_pos rfl]
            show _ = oF (n + 1) i (k1 + 1) r + if _ ∈ ks.take 0 then _ else 0
            rw [List.take_zero, if_neg List.not_mem_nil]
            rfl
          · rw [if_neg el]
        · rintro j x σ' H' hx ⟨⟨y7, y8, rfl⟩, Tj, hla, hkv'⟩
          obtain ⟨o, hjo, rfl⟩ : ∃ o : Nat, ks[j]? = some o ∧ V.int (o : Int) = x := by
            rw [List.getElem?_map] at hx
            cases e : ks[j]? with
            | none => rw [e] at hx; cases hx
            | some o => rw [e] at hx; exact ⟨o, rfl, Option.some.inj hx⟩
          have hom : o ∈ ks := List.mem_of_getElem? hjo
          have hoN := ltk o hom
          have hnot : o ∉ ks.take j := fun hm => by
            obtain ⟨j', hj', e'⟩ := List.getElem_of_mem hm
            rw [List.length_take] at hj'
            rw [List.getElem_take] at e'
            have hjl := (List.getElem?_eq_some_iff.mp hjo).1
            have e2 := (List.getElem?_eq_some_iff.mp hjo).2
            have := (List.getElem_inj ndk).mp (e'.trans e2.symm)
            omega
          have htk : ks.take (j + 1) = ks.take j ++ [o] := by rw [List.take_succ, hjo]; rfl
          have hmm : (o + (i + 1)) % (n + 1) < n + 1 := Nat.mod_lt _ (by omega)
          have em : ((o : Int) + (1 + (i : Int))) % ((n : Int) + 1) = (((o + (i + 1)) % (n + 1) : Nat) : Int) := by
            rw [Int.natCast_emod]
            congr 1
            simp only [Int.natCast_add]
            omega
          have hsm : ((o + (i + 1)) % (n + 1) + (n + 1) - (i + 1)) % (n + 1) = o := (shift hmm hoN (by omega)).mpr rfl
          generalize (o + (i + 1)) % (n + 1) = m at hmm em hsm
          refine q_asg (v := .int (m : Int)) (ev_is (ev_mod (ev_int1 (ev_add (ev_var (i := 7) (v := .int (o : Int)) rfl) (ev_var (i := 4) (v := .int (1 + (i : Int))) rfl))) (ev_add (ev_var (i := 0) (v := .int (n : Int)) rfl) ev_c) (by omega)) (congrArg V.int em)) fun H6 e6 => ?_
          have T6 := Tj.mono e6
          obtain ⟨kvs, hkk2, tbk⟩ := T6.tab (k1 + 1) hk1
          have tbk' : Tab (n + 1) kvs (fj j) := tbk.congr fun r _ => by
            show (if k1 + 1 = k1 + 1 then fj j else _) r = _
            rw [if_pos rfl]
          have hfm : fj j m = oF (n + 1) i (k1 + 1) m := by
            show oF (n + 1) i (k1 + 1) m + (if _ ∈ ks.take j then _ else 0) = _
            rw [hsm, if_neg hnot, Nat.add_zero]
          have hget := ev_dget2 (ev_var (σ := [some (.int n), some (.int r), some (.int k), some (.ref t), some (.int (1 + (i : Int))), some (.int ((k1 + 1 : Nat) : Int)), some (.ref ds[k1 + 1]), some (.int (o : Int)), some (.int (m : Int))]) (i := 6) rfl) (ev_var (i := 8) (v := .int (m : Int)) rfl) (ev_c (v := .int 0)) hkk2 (tbk'.getD hmm)
          have hold : valV kvs' (Sum.inl (o : Int) : Key) = some (.int (oF (n + 1) i k1 o : Nat)) := by rw [hval o hoN, if_pos hom]
          have hget2 := ev_dget (rdT H6 [some (.int n), some (.int r), some (.int k), some (.ref t), some (.int (1 + (i : Int))), some (.int ((k1 + 1 : Nat) : Int)), some (.ref ds[k1 + 1]), some (.int (o : Int)), some (.int (m : Int))] _ (tOp (rI0 fun i j => .int (i - j)) (tVar 5) (tC (.int 1))) k1 rfl T6 (ev_is (ev_sub (ev_var (i := 5) (v := .int ((k1 + 1 : Nat) : Int)) rfl) ev_c) (congrArg V.int (by omega))) hk0) (ev_var (i := 7) (v := .int (o : Int)) rfl) (e6 _ _ hkv') hold
          have hlen := tbk.len
          refine s_dput (k := (m : Int)) (v := .int ((fj j m + oF (n + 1) i k1 o : Nat) : Int)) (ev_is (ev_add hget hget2) rfl) (ev_var (i := 6) rfl) (ev_var (i := 8) rfl) hkk2 (by omega) fun H7 e7 => ?_
          have hne : a ≠ ds[k1 + 1] := fun z => by
            have h1 := e6 a _ hla
            rw [z, hkk2] at h1
            cases h1
          have hne2 : ds[k1] ≠ ds[k1 + 1] := fun z => by
            have := (List.getElem_inj nd).mp z
            omega
          refine ⟨⟨_, _, rfl⟩, ((T6.mono e7).put hk1 (tbk'.put (c := fj j m + oF (n + 1) i k1 o) hmm)).congr fun l r' hl hr' => ?_, ?_, ?_⟩
          · show (if l = k1 + 1 then (fun r => if r = m then fj j m + oF (n + 1) i k1 o else fj j r) else FF j l) r' = FF (j + 1) l r'
            by_cases el : l = k1 + 1
            · rw [if_pos el]
              have e9 : FF (j + 1) l = fj (j + 1) := if_pos el
              rw [e9]
              show (if r' = m then fj j m + oF (n + 1) i k1 o else fj j r') = oF (n + 1) i (k1 + 1) r' + if (r' + (n + 1) - (i + 1)) % (n + 1) ∈ ks.take (j + 1) then oF (n + 1) i k1 ((r' + (n + 1) - (i + 1)) % (n + 1)) else 0
              by_cases er : r' = m
              · subst er
                rw [if_pos rfl, hfm, hsm, htk, if_pos (List.mem_append_right _ (List.mem_singleton.mpr rfl))]
              · rw [if_neg er, htk]
                have hs1 : ¬ (r' + (n + 1) - (i + 1)) % (n + 1) = o := fun z => er (by
                  have h1 := (shift hr' hoN (show i + 1 < n + 1 by omega)).mp z
                  have h2 := (shift hmm hoN (show i + 1 < n + 1 by omega)).mp hsm
                  rw [h1, h2])
                show oF (n + 1) i (k1 + 1) r' + (if (r' + (n + 1) - (i + 1)) % (n + 1) ∈ ks.take j then oF (n + 1) i k1 ((r' + (n + 1) - (i + 1)) % (n + 1)) else 0) = _
                congr 1
                by_cases hin : (r' + (n + 1) - (i + 1)) % (n + 1) ∈ ks.take j
                · rw [if_pos hin, if_pos (List.mem_append_left _ hin)]
                · rw [if_neg hin, if_neg (by simp [hin, hs1])]
            · rw [if_neg el]
              have e1 : FF j l = FF (j + 1) l := by
                show (if l = k1 + 1 then fj j else _) = (if l = k1 + 1 then fj (j + 1) else _)
                rw [if_neg el, if_neg el]
              rw [e1]
          · rw [upd_ne hne]
            exact e7 a _ (e6 a _ hla)
          · rw [upd_ne hne2]
            exact e7 _ _ (e6 _ _ hkv')
        · rintro σ' H' ⟨⟨y7, y8, rfl⟩, Tj, hla, hkv'⟩
          refine ⟨⟨_, _, _, _, rfl⟩, Tj.congr fun l r' hl hr' => ?_⟩
          rw [List.length_map]
          have eu : min k (i + 1) - (u + 1) = k1 := by omega
          show FF ks.length l r' = (if min k (i + 1) - (u + 1) < l then oF (n + 1) (i + 1) l else oF (n + 1) i l) r'
          rw [eu]
          by_cases el : l = k1 + 1
          · have e9 : FF ks.length l = fj ks.length := if_pos el
            rw [e9, el, if_pos (by omega)]
            show oF (n + 1) i (k1 + 1) r' + (if (r' + (n + 1) - (i + 1)) % (n + 1) ∈ ks.take ks.length then oF (n + 1) i k1 ((r' + (n + 1) - (i + 1)) % (n + 1)) else 0) = oF (n + 1) i (k1 + 1) r' + oF (n + 1) i k1 ((r' + (n + 1) - (i + 1)) % (n + 1))
            congr 1
            rw [List.take_length]
            by_cases hin : (r' + (n + 1) - (i + 1)) % (n + 1) ∈ ks
            · rw [if_pos hin]
            · rw [if_neg hin]
              exact (tb.zero _ (hs0 r') (by rw [hval _ (hs0 r'), if_neg hin])).symm
          · have e9 : FF ks.length l = if k1 + 1 < l then oF (n + 1) (i + 1) l else oF (n + 1) i l := if_neg el
            rw [e9]
            by_cases h1 : k1 + 1 < l
            · rw [if_pos h1, if_pos (by omega)]
            · rw [if_neg h1, if_neg (by omega)]
      · rintro σ' H' ⟨⟨x5, x6, x7, x8, rfl⟩, Tu⟩
        refine ⟨⟨_, _, _, _, _, rfl⟩, Tu.congr fun l r' hl hr' => ?_⟩
        show (if min k (i + 1) - min k (i + 1) < l then oF (n + 1) (i + 1) l else oF (n + 1) i l) r' = oF (n + 1) (i + 1) l r'
        by_cases h1 : min k (i + 1) - min k (i + 1) < l
        · rw [if_pos h1]
        · rw [if_neg h1]
          have : l = 0 := by omega
          subst this
          rfl
    · rintro σ' H' ⟨⟨x4, x5, x6, x7, x8, rfl⟩, Ti⟩
      have en : ((n : Int) + 1 - 1).toNat = n := by omega
      rw [en] at Ti
      have hkl : k < ds.length := by omega
      obtain ⟨kvs, hkv, tb⟩ := Ti.tab k hkl
      exact s_ret (ev_dget2 (rdT _ _ _ _ k rfl Ti (ev_var rfl) hkl) (ev_var rfl) ev_c hkv (tb.getD (by omega))) fun H4 e4 => q H4 (Ti.ex.trans e4)
theorem sv_law_with_ones {n r k : Nat} {H : Hp} (h1 : n ≤ 200) (h2 : r ≤ n) (h3 : k ≤ n) : SpV sp_law_with_ones ([.int (n : Int), .int (r : Int), .int (k : Int)] ++ []) H (.int (oF (n + 1) n k r : Nat)) := fun H1 e Q q E => ⟨n, r, k, rfl, h1, h2, h3, fun H2 e2 => q H2 e2⟩
abbrev C_law_with_ones (P : Program) (w : World) (K : PySem.W.Frag) (mg : Str → Option Value) (base : Heap) := Cal P w K mg base 1 "_law_with_ones" p_law_with_ones [] sp_law_with_ones
end
end K47

set_option maxHeartbeats 4000000
namespace K47
open PySem PySem.Spec PyProof.Rows L2 Evl
local macro_rules | `(tactic| walk_at "evs") => `(tactic| first | assumption | omega | decide | exact ⟨by omega, by omega⟩ | exact Or.inl ⟨by omega, by omega⟩ | exact Or.inr ⟨by omega, by omega⟩)
local macro_rules | `(tactic| walk_at "ev") => `(tactic| first
  | with_reducible exact ev_c
  | ((with_reducible apply ev_var); rfl)
  | ((with_reducible apply ev_add) <;> walk_at "ev")
  | ((with_reducible apply ev_sub) <;> walk_at "ev")
  | ((with_reducible apply ev_neg) <;> walk_at "ev")
  | ((with_reducible apply ev_int1) <;> walk_at "ev")
  | ((with_reducible apply ev_mod); (· walk_at "ev"); (· walk_at "ev"); (· walk_at "evs"))
  | ((with_reducible apply ev_div); (· walk_at "ev"); (· walk_at "ev"); (· walk_at "evs"))
  | ((with_reducible apply ev_mul); (· walk_at "ev"); (· walk_at "ev"); (· walk_at "evs"))
  | ((with_reducible apply ev_lt) <;> walk_at "ev")
  | ((with_reducible apply ev_le) <;> walk_at "ev")
  | ((with_reducible apply ev_gt) <;> walk_at "ev")
  | ((with_reducible apply ev_ge) <;> walk_at "ev")
  | ((with_reducible apply ev_eq) <;> walk_at "ev")
  | ((with_reducible apply ev_ne) <;> walk_at "ev")
  | ((with_reducible apply ev_min2) <;> walk_at "ev")
  | (apply ev_isi (a := "int") (ty := tyx_int) (e := isi_int_int) <;> walk_at "ev")
  | (apply ev_isi (a := "int") (ty := tyx_int) (e := isi_int_bool) <;> walk_at "ev"))
local macro_rules | `(tactic| walk_at "et") => `(tactic| first
  | ((with_reducible apply et_test); walk_at "ev")
  | ((with_reducible apply et_B); walk_at "ev")
  | ((with_reducible apply et_not); walk_at "et"))
local macro_rules | `(tactic| walk_at "ea") => `(tactic| first
  | with_reducible exact ea_nil
  | ((with_reducible apply ea_cons); (· walk_at "ev"); (· walk_at "ea")))

/-! ### evaluation while the hand may turn -/
def EvX (p : Addr) (te : TE) (σ : L2.St) (H : Hp) (Po : V → Prop) : Prop := ∀ H1, Exx p H H1 → HandAt H1 p → ∀ Q : VK, (∀ v H2, Exx p H1 H2 → HandAt H2 p → Po v → Q v H2) → te σ H1 Q
section
variable {p : Addr} {σ : L2.St} {H : Hp} {ta tb te : TE} {v : V} {Pa Pb Po : V → Prop}
theorem evX_c : EvX p (tC v) σ H (fun x => x = v) := fun H1 _ h Q q => q v H1 (fun _ _ _ e => e) h rfl
theorem evX_var {i : Nat} (h : σ[i]? = some (some v)) : EvX p (tVar i) σ H (fun x => x = v) := fun H1 _ hh Q q => ⟨v, h, q v H1 (fun _ _ _ e => e) hh rfl⟩
theorem evX_imp (h : EvX p te σ H Pa) (hi : ∀ v, Pa v → Po v) : EvX p te σ H Po := fun H1 e hh Q q => h H1 e hh Q fun v H2 e2 h2 pv => q v H2 e2 h2 (hi v pv)
theorem evX_op {r : R2} (h1 : EvX p ta σ H Pa) (h2 : EvX p tb σ H Pb) (hr : ∀ x y H1, Pa x → Pb y → ∀ Q : VK, (∀ v, Po v → Q v H1) → r x y H1 Q) : EvX p (tOp r ta tb) σ H Po := fun H1 e hh Q q =>
  h1 H1 e hh _ fun x H2 e2 hh2 px => h2 H2 (e.trans e2) hh2 _ fun y H3 e3 hh3 py => hr x y H3 px py Q fun v pv => q v H3 (e2.trans e3) hh3 pv
theorem evX_if {ta tb tc : TE} (hc : EvX p tc σ H (fun x => ∃ b, x = .bl b)) (ha : EvX p ta σ H Po) (hb : EvX p tb σ H Po) : EvX p (tIf (tTest tc) ta tb) σ H Po := fun H1 e hh Q q =>
  hc H1 e hh _ fun x H2 e2 hh2 ⟨b, eb⟩ => ⟨b, eb, by
    cases b with
    | true => exact ha H2 (e.trans e2) hh2 Q fun v H3 e3 hh3 pv => q v H3 (e2.trans e3) hh3 pv
    | false => exact hb H2 (e.trans e2) hh2 Q fun v H3 e3 hh3 pv => q v H3 (e2.trans e3) hh3 pv⟩
theorem evX_take {i : Nat} {m : Int} {tm : TE} (hs : σ[i]? = some (some (.ref p))) (hm : 0 < m) (hm2 : m ≤ 1000) (ht : EvX p tm σ H (fun x => x = .int m)) : EvX p (tCall sp_law_take [] E0 (tCons (tVar i) (tCons tm tNil))) σ H (fun x => ∃ z : Nat, x = .int (z : Int) ∧ (z : Int) < m) := fun H1 e hh Q q =>
  ⟨.ref p, hs, ht H1 e hh _ fun x H2 e2 hh2 ex => ⟨p, m, by rw [ex]; rfl, hh2, hm, hm2, fun v H' x h a b => q _ H' (e2.trans x) h ⟨v.toNat, by rw [Int.toNat_of_nonneg a], by omega⟩⟩⟩
theorem evX_I0 {g : Int → Int → V} {A B : Int → Prop} (h1 : EvX p ta σ H (fun x => ∃ i, x = .int i ∧ A i)) (h2 : EvX p tb σ H (fun x => ∃ i, x = .int i ∧ B i)) : EvX p (tOp (rI0 g) ta tb) σ H (fun x => ∃ i j, A i ∧ B j ∧ x = g i j) :=
  evX_op h1 h2 fun x y H1 ⟨i, ex, a⟩ ⟨j, ey, b⟩ Q q => ⟨i, j, ex, ey, q _ ⟨i, j, a, b, rfl⟩⟩
variable {D : Ends} {tz : TS}
theorem q_asgX {k : Nat} (h : EvX p te σ H Po) (hh : HandAt H p) (q : ∀ v H1, Exx p H H1 → HandAt H1 p → Po v → tz D (σ.set k (some v)) H1) : tSeq (tAsg te (gName k)) tz D σ H := h H (fun _ _ _ e => e) hh _ fun v H1 e h1 p => q v H1 e h1 p
/-- the walk's first number: a choice between two takes -/
theorem evX_pick {i : Nat} {m1 m2 m3 : Int} {g : Int → Int → V} {c : Int} (hs : σ[i]? = some (some (.ref p))) (h1 : 0 < m1 ∧ m1 ≤ 1000) (h2 : 0 < m2 ∧ m2 ≤ 1000) (h3 : 0 < m3 ∧ m3 ≤ 1000) (ha : ∀ z : Nat, (z : Int) < m2 → Po (.int z)) (hb : ∀ z : Nat, (z : Int) < m3 → Po (g c z)) :
    EvX p (tIf (tTest (tOp (rI0 fun i j => .bl (decide (j < i))) (tCall sp_law_take [] E0 (tCons (tVar i) (tCons (tC (.int m1)) tNil))) (tC (.int 0)))) (tCall sp_law_take [] E0 (tCons (tVar i) (tCons (tC (.int m2)) tNil))) (tOp (rI0 g) (tC (.int c)) (tCall sp_law_take [] E0 (tCons (tVar i) (tCons (tC (.int m3)) tNil))))) σ H Po :=
  evX_if (evX_op (evX_take hs h1.1 h1.2 evX_c) evX_c fun x y H1 ⟨z, ex, _⟩ ey Q q => ⟨_, _, ex, ey, q _ ⟨_, rfl⟩⟩) (evX_imp (evX_take hs h2.1 h2.2 evX_c) fun v ⟨z, ev, hz⟩ => ev ▸ ha z hz)
    (evX_op evX_c (evX_take hs h3.1 h3.2 evX_c) fun x y H1 ex ⟨z, ey, hz⟩ Q q => ⟨_, _, ex, ey, q _ (hb z hz)⟩)
end
section
variable {K : PySem.W.Frag} {σ : L2.St} {H : Hp} {ta tb te tl : TE} {tt : TT} {j : Nat} {vs : List Nat} {D : Ends} {tu tz : TS}
theorem q_forLE {xs : List V} (h : EvG tl σ H (IsL xs)) (Iv : Nat → L2.St → Prop) (h0 : Iv 0 σ)
    (hs : ∀ i x σ' H', Ex H H' → xs[i]? = some x → Iv i σ' → ∀ N : L2.St → Hp → Prop, (∀ σ2 H2, Ex H' H2 → Iv (i + 1) σ2 → N σ2 H2) → tu { D with nx := N, ct := N, bk := tz D } (σ'.set j (some x)) H') (hd : ∀ σ' H', Ex H H' → Iv xs.length σ' → tz D σ' H') : tSeq (tFor (iList K tl) (gName j) tu) tz D σ H :=
  s_forLE (D := { D with nx := tz D }) h Iv h0 hs hd
/-- [x for x in ints if test] -/
theorem evG_lcLF {ns : List Int} (f : Int → Bool) (h : EvG tl σ H (IsL (ns.map V.int))) (hz : ns.length ≤ 40000) (hw : ∀ x, wipe ((wipe σ vs).set j (some x)) vs = wipe σ vs)
    (ht : ∀ z ∈ ns, ∀ H1, Ex H H1 → EvT tt ((wipe σ vs).set j (some (.int z))) H1 (f z)) (hv : ∀ x, ((wipe σ vs).set j (some x))[j]? = some (some x)) :
    EvG (tLc (iList K tl) (gName j) tt (tVar j) vs) σ H (IsL ((ns.filter f).map V.int)) := fun H0 e Q q => h H0 e _ fun v H1 e1 ⟨p, ev, hp⟩ => ⟨p, ev, ⟨_, SqL.of hp⟩, fun Dl hD => by
  refine lc_list (xs := ns.map V.int) (fun i H' => Ex H1 H' ∧ H' Dl = some (.lst (((ns.take i).filter f).map V.int))) ⟨Ex.new hD, upd_same⟩ (fun i H' _ q => SqL.of (q.1 p _ hp)) (fun i x H' hi p' => ?_) (fun H' p' => ?_)
  · obtain ⟨x1, hy⟩ := p'
    obtain ⟨z, rfl, hiz, hm⟩ := get_int hi
    refine ⟨hw _, ht z hm H' ((e.trans e1).trans x1) H' (Ex.refl _) _ fun H3 e3 => ?_⟩
    have htk : (ns.take (i + 1)).filter f = (ns.take i).filter f ++ (if f z = true then [z] else []) := by
      rw [List.take_succ, hiz, List.filter_append]
      by_cases hf : f z = true
      · rw [if_pos hf]
        simp [List.filter_cons, hf]
      · rw [if_neg hf]
        simp [List.filter_cons, hf]
    by_cases hf : f z = true
    · rw [if_pos hf] at htk
      rw [if_pos hf]
      refine ⟨.int z, hv _, _, e3 Dl _ hy, ?_, Ex.mut (x1.trans e3) hD, ?_⟩
      · rw [List.length_map]
        have h2 := List.length_filter_le f (ns.take i)
        have h3 : (ns.take i).length ≤ ns.length := by rw [List.length_take]; omega
        exact sz_lt (by omega)
      · rw [upd_same, htk, List.map_append]
        rfl
    · rw [if_neg hf, List.append_nil] at htk
      rw [if_neg hf, htk]
      exact ⟨x1.trans e3, e3 Dl _ hy⟩
  · obtain ⟨x1, hy⟩ := p'
    rw [List.length_map, List.take_length] at hy
    exact q _ H' (e1.trans x1) ⟨Dl, rfl, hy⟩⟩
theorem ev_neL {ns ms : List Int} (h1 : EvG ta σ H (IsL (ns.map V.int))) (h2 : EvG tb σ H (IsL (ms.map V.int))) : Ev (tOp (rNeD K) ta tb) σ H (.bl (!decide (ns = ms))) :=
  ev_ofG (ev_opG h1 (fun v H1 e _ => h2.mono e) fun x y H1 H2 e1 ⟨p, ex, hp⟩ e2 ⟨q, ey, hq⟩ Q k => ⟨_, _, by rw [ex]; exact Dp.lst (SqL.of (e2 p _ hp)) dpInts, by rw [ey]; exact Dp.lst (SqL.of hq) dpInts, shL ns, shL ms, k _ _ (Ex.refl _) (by rw [eqvL])⟩)
end
end K47

set_option maxHeartbeats 4000000
namespace K47
open PySem PySem.Spec PyProof.Rows L2 Evl
local macro_rules | `(tactic| walk_at "evs") => `(tactic| first | assumption | omega | decide | exact ⟨by omega, by omega⟩ | exact Or.inl ⟨by omega, by omega⟩ | exact Or.inr ⟨by omega, by omega⟩)
local macro_rules | `(tactic| walk_at "ev") => `(tactic| first
  | with_reducible exact ev_c
  | ((with_reducible apply ev_var); rfl)
  | ((with_reducible apply ev_add) <;> walk_at "ev")
  | ((with_reducible apply ev_sub) <;> walk_at "ev")
  | ((with_reducible apply ev_neg) <;> walk_at "ev")
  | ((with_reducible apply ev_int1) <;> walk_at "ev")
  | ((with_reducible apply ev_mod); (· walk_at "ev"); (· walk_at "ev"); (· walk_at "evs"))
  | ((with_reducible apply ev_div); (· walk_at "ev"); (· walk_at "ev"); (· walk_at "evs"))
  | ((with_reducible apply ev_mul); (· walk_at "ev"); (· walk_at "ev"); (· walk_at "evs"))
  | ((with_reducible apply ev_lt) <;> walk_at "ev")
  | ((with_reducible apply ev_le) <;> walk_at "ev")
  | ((with_reducible apply ev_gt) <;> walk_at "ev")
  | ((with_reducible apply ev_ge) <;> walk_at "ev")
  | ((with_reducible apply ev_eq) <;> walk_at "ev")
  | ((with_reducible apply ev_ne) <;> walk_at "ev")
  | ((with_reducible apply ev_min2) <;> walk_at "ev")
  | (apply ev_isi (a := "int") (ty := tyx_int) (e := isi_int_int) <;> walk_at "ev")
  | (apply ev_isi (a := "int") (ty := tyx_int) (e := isi_int_bool) <;> walk_at "ev"))
local macro_rules | `(tactic| walk_at "et") => `(tactic| first
  | ((with_reducible apply et_test); walk_at "ev")
  | ((with_reducible apply et_B); walk_at "ev")
  | ((with_reducible apply et_not); walk_at "et"))
local macro_rules | `(tactic| walk_at "ea") => `(tactic| first
  | with_reducible exact ea_nil
  | ((with_reducible apply ea_cons); (· walk_at "ev"); (· walk_at "ea")))

section
variable {P : Program} {w : World} {K : PySem.W.Frag} {mg : Str → Option Value} {base : Heap}
theorem members_len {σ : L2.St} {H : Hp} {t : TA} {C : Addr} {n r : Nat} (h : EvA t σ H [.int (n : Int), .int ((n : Int) + 1), .int (r : Int)]) (hn : n ≤ 9) (hr : r ≤ n) :
    Ev (tCB (rLenA K) (tCons (tListG (tCallG (spM C) [] E0 (tCons (tMake C (spI C) [] E0 t) tNil))) tNil)) σ H (.int (memM n r : Nat)) := fun H1 e Q q => by
  have hb := evG_book (C := C) h (by omega) (by omega) (Int.le_refl _) (by omega) (by omega) (by omega)
  unfold tCB tCons tListG tCallG tNil
  refine hb H1 e _ fun v H2 e2 ⟨x, ev, hb⟩ => ⟨x, n, r, by rw [ev]; rfl, hb, hn, fun out H3 e3 hl a ha => ⟨a, out, rfl, .inl (SqL.of upd_same), ?_⟩⟩
  rw [hl]
  exact q _ ((e2.trans e3).trans (Ex.new ha))
def reps (n : Nat) : List Int := (oddR (n + 1)).map fun w => ((repM w : Nat) : Int)
theorem reps_pos {n : Nat} {z : Int} (h : z ∈ reps n) : 0 < z := by
  obtain ⟨wd, hm, e⟩ := List.mem_map.mp h
  have := rep_pos (wd := wd) (by rw [(oddL_mem hm).1]; omega)
  omega
theorem reps_count (n r : Nat) : ((reps n).filter fun k => decide ((r : Int) % k = 0)).length = (ringsF n r).length := by
  unfold reps ringsF
  rw [List.filter_map, List.length_map]
  rfl
/-- the rests that the rings are asked for -/
theorem q_rests {D : Ends} {tz : TS} {σ : L2.St} {H : Hp} {p : Addr} {n : Nat} (hs0 : σ[0]? = some (some (V.ref p))) (hs1 : σ[1]? = some (some (V.int (n : Int)))) (hn : n ≤ 9) (hh : HandAt H p)
    (q : ∀ (a : Addr) (rs : List Nat) (H4 : Hp), Exx p H H4 → HandAt H4 p → H4 a = some (.lst (vN rs)) → (∀ z ∈ rs, z ≤ n) → tz D (σ.set 3 (some (V.ref a))) H4) :
    tSeq (tAsg (tIf (tTest (tOp (rI0 fun i j => .bl (decide (i < j))) (tVar 1) (tC (.int 7)))) (tLstRg (tRg1 (tOp (rI0 fun i j => .int (i + j)) (tVar 1) (tC (.int 1))))) (tLst (tCons (tC (.int 0)) (tCons (tC (.int 1)) (tCons (tCall sp_law_take [] E0 (tCons (tVar 0) (tCons (tOp (rI0 fun i j => .int (i + j)) (tVar 1) (tC (.int 1))) tNil))) (tCons (tVar 1) tNil)))))) (gName 3)) tz D σ H := by
  refine et_test (ev_lt (ev_var hs1) ev_c) H (Ex.refl _) _ fun H1 e1 => ?_
  by_cases h7 : (n : Int) < 7
  · rw [if_pos (decide_eq_true h7)]
    refine ⟨_, hs1, _, _, rfl, rfl, _, rfl, ⟨by omega, by omega, by omega, by omega, by omega⟩, fun a ha => ?_⟩
    refine q a (List.range (n + 1)) _ (.of (e1.trans (Ex.new ha))) (hh.ex (e1.trans (Ex.new ha))) ?_ fun z hz => by have := List.mem_range.mp hz; omega
    rw [upd_same]
    unfold rgV vN
    have e : ((n : Int) + 1 - 0).toNat = n + 1 := by omega
    rw [e]
    refine congrArg (fun l => some (HO.lst l)) (List.map_congr_left fun i _ => ?_)
    rw [Int.zero_add]
  · rw [if_neg (by rw [decide_eq_false h7]; decide)]
    unfold tLst tCons tC
    refine take_i hs0 (hh.ex e1) (m := (n : Int) + 1) (by omega) (by omega) (ev_add (ev_var hs1) ev_c) fun v H2 x2 hh2 h0 hlt => ⟨_, hs1, by show 4 ≤ sizeLine; decide, fun a ha => ?_⟩
    refine q a [0, 1, v.toNat, n] _ ((Exx.of e1).trans (x2.trans (.of (Ex.new ha)))) (hh2.ex (Ex.new ha)) ?_ fun z hz => ?_
    · rw [upd_same]
      have e : ((v.toNat : Nat) : Int) = v := Int.toNat_of_nonneg h0
      show _ = some (HO.lst [V.int 0, V.int 1, V.int ((v.toNat : Nat) : Int), V.int (n : Int)])
      rw [e]
    · rcases List.mem_cons.mp hz with e | hz
      · omega
      · rcases List.mem_cons.mp hz with e | hz
        · omega
        · rcases List.mem_cons.mp hz with e | hz
          · omega
          · have := List.mem_singleton.mp hz
            omega
abbrev s_law_rings_asked : Stmt := topS 57
abbrev n_law_rings_asked : List Str := ["_law_hand_here", "_law_n", "_law_repeats", "_law_rests", "_law_rest", "_law_many", "_law_total", "_law_one", "_law_ring", "_law_k"]
abbrev p_law_rings_asked : List Str := ["_law_hand_here"]
theorem sc_law_rings_asked : FnScope n_law_rings_asked p_law_rings_asked (defScope s_law_rings_asked) := ⟨rfl, rfl, rfl, by decide +kernel, rfl, by decide +kernel, by decide +kernel⟩
-- 0 _law_hand_here 1 _law_n 2 _law_repeats 3 _law_rests 4 _law_rest 5 _law_many 6 _law_total 7 _law_one 8 _law_ring 9 _law_k
def sp_law_rings_asked : Sp := fun vs H Q _ => ∃ (p : Addr), vs = [.ref p] ∧ HandAt H p ∧ ∀ H', Exx p H H' → HandAt H' p → Q (.bl true) H'
theorem ok_law_rings_asked {f C fI fF pF fT fC fM : Addr} {fd fdI fdM : FuncData} (F : Fun K "_law_rings_asked" "_law_rings_asked" s_law_rings_asked f fd) (T0 : Txt mg) (B : Bk K mg C fI fF pF fT fC)
    (G_init : FnOk P w K mg base CX0 3 fI fdI p_SumBook___init (spI C)) (b_init : Binds K fdI p_SumBook___init [])
    (G_members : GFn P w K mg base 2 fM fdM p_sum_members (spM C)) (m_members : mg "sum_members" = some (.ref fM)) (k_members : PySem.W.keepIn K (.ref fM) = true) (b_members : Binds K fdM p_sum_members [])
    (c_law_take : C_law_take P w K mg base) (c_repeats_of : C_repeats_of P w K mg base) (c_odd_rings : C_odd_rings P w K mg base) (c_law_whole : C_law_whole P w K mg base) (c_law_counts : C_law_counts P w K mg base) (c_rings_for : C_rings_for P w K mg base)
    (c_divisors_of : C_divisors_of P w K mg base) (c_single_rings : C_single_rings P w K mg base) (c_law_is_number : C_law_is_number P w K mg base) (c_size_of : C_size_of P w K mg base) : FnOk P w K mg base CX0 7 f fd p_law_rings_asked sp_law_rings_asked := by
  refine F.ok sc_law_rings_asked (fun vs H Q E h => ?_) (fun cdv A outer s H vs Q E hr h => ?_)
  · obtain ⟨p, rfl, _⟩ := h
    rfl
  · obtain ⟨p, rfl, hh, k⟩ := h
    have T := T0
    refine ⟨_, (pss_cons (ps_set (i := 1) sc_law_rings_asked.nd rfl (by first | exact Or.inl rfl | exact Or.inr rfl) (pe_ifExp (pt_cmpR op_gt (pe_c c_law_take hr (by rfl) (pa_cons (pv 0) (pa_cons pe_int pa_nil))) pe_int (nomark _)) (pe_c c_law_take hr (by rfl) (pa_cons (pv 0) (pa_cons pe_int pa_nil))) (pe_op op_add pe_int (pe_c c_law_take hr (by rfl) (pa_cons (pv 0) (pa_cons pe_int pa_nil))))))
      (pss_cons (ps_setLc (i := 2) (own := [("_law_ring", 8)]) rfl sc_law_rings_asked.nd rfl rfl (sw_true rfl rfl rfl (by decide +kernel)) (pi_tupK (K := K) rfl (pe_c c_odd_rings hr (by rfl) (pa_cons (pe_op op_add (pv 1) pe_int) pa_nil))) (blkOk_by (own := [("_law_ring", 8)]) (N := n_law_rings_asked) (sc := defScope s_law_rings_asked) (by decide +kernel)) (fun _ _ _ _ _ => (pg_name (i := 8) sc_law_rings_asked.nd rfl (by first | exact Or.inl rfl | exact Or.inr rfl))) (fun _ _ _ _ _ => pts_nil) (fun _ _ _ _ _ => (pe_c c_repeats_of hr (by rfl) (pa_cons (pv 8) pa_nil))))
      (pss_cons (ps_if (pt_cmpR (op_neK (K := K) rfl hr.units) (pe_lc (own := [("_law_k", 9)]) rfl sc_law_rings_asked.nd (pi_listK (K := K) rfl (pv 2)) (blkOk_by (own := [("_law_k", 9)]) (N := n_law_rings_asked) (sc := defScope s_law_rings_asked) (by decide +kernel)) (fun _ _ _ _ _ => (pg_name (i := 9) sc_law_rings_asked.nd rfl (by first | exact Or.inl rfl | exact Or.inr rfl))) (fun _ _ _ _ _ => pts_one (PW.pt (pw_or (pt_not (pt_val (pe_c c_law_whole hr (by rfl) (pa_cons (pv 9) pa_nil)))) (pw_or1 (pt_cmpR op_lt (pv 9) pe_int (nomark _)))))) (fun _ _ _ _ _ => (pv 9))) (pe_lst pa_nil) (nomark _))
      (pss_one (ps_ret pe_bl))
      pss_nil)
      (pss_cons (ps_set (i := 3) sc_law_rings_asked.nd rfl (by first | exact Or.inl rfl | exact Or.inr rfl) (pe_ifExp (pt_cmpR op_lt (pv 1) pe_int (nomark _)) (pe_listRg rfl (by rfl) T.list_ (prg_1 (by rfl) T.range_ (pe_op op_add (pv 1) pe_int))) (pe_lst (pa_cons pe_int (pa_cons pe_int (pa_cons (pe_c c_law_take hr (by rfl) (pa_cons (pv 0) (pa_cons (pe_op op_add (pv 1) pe_int) pa_nil))) (pa_cons (pv 1) pa_nil)))))))
      (pss_cons (ps_for PassesOwn.never rfl (pi_listK (K := K) rfl (pv 3)) (pg_name (i := 4) sc_law_rings_asked.nd rfl (by first | exact Or.inl rfl | exact Or.inr rfl))
      (pss_cons (ps_set (i := 5) sc_law_rings_asked.nd rfl (by first | exact Or.inl rfl | exact Or.inr rfl) (pe_callB (cr_lenK (K := K) rfl) (by rfl) T.len_ PySem.boot_len (pa_cons (pe_listG (pgen_call (E := E0) G_members (hr.mono (by decide)) (by rfl) m_members k_members b_members .nil (pa_cons (pe_make B.mkk G_init (hr.mono (by decide)) (by rfl) B.gC b_init .nil pass0 (pa_cons (pv 1) (pa_cons (pe_op op_add (pv 1) pe_int) (pa_cons (pv 4) pa_nil)))) pa_nil)) passG noStop0 (hr.mono (by decide)) (by rfl) T.list_ boot_list) pa_nil)))
        (pss_cons (ps_if (PW.pt (pw_or (pt_cmpR op_ne (pv 5) (pe_ix (ix_listK (K := K) rfl) (pe_c c_law_counts hr (by rfl) (pa_cons (pv 1) (pa_cons (pe_op op_add (pv 1) pe_int) pa_nil))) (pv 4) (fun _ _ => rfl)) (nomark _)) (pw_or1 (pt_cmpR op_ne (pe_callB (cr_lenK (K := K) rfl) (by rfl) T.len_ PySem.boot_len (pa_cons (pe_c c_rings_for hr (by rfl) (pa_cons (pv 1) (pa_cons (pv 4) pa_nil))) pa_nil)) (pv 5) (nomark _)))))
        (pss_one (ps_ret pe_bl))
        pss_nil)
        (pss_cons (ps_if (pt_cmpR op_ne (pe_callB (cr_lenK (K := K) rfl) (by rfl) T.len_ PySem.boot_len (pa_cons (pe_lc (own := [("_law_k", 9)]) rfl sc_law_rings_asked.nd (pi_listK (K := K) rfl (pv 2)) (blkOk_by (own := [("_law_k", 9)]) (N := n_law_rings_asked) (sc := defScope s_law_rings_asked) (by decide +kernel)) (fun _ _ _ _ _ => (pg_name (i := 9) sc_law_rings_asked.nd rfl (by first | exact Or.inl rfl | exact Or.inr rfl))) (fun _ _ _ _ _ => pts_one (pt_cmpR op_eq (pe_op op_mod (pe_callTy cr_int (by rfl) T.int_ boot_int (pa_cons (pv 4) pa_nil)) (pv 9)) pe_int (nomark _))) (fun _ _ _ _ _ => (pv 9))) pa_nil)) (pv 5) (nomark _))
        (pss_one (ps_ret pe_bl))
        pss_nil)
        (pss_cons (ps_set (i := 6) sc_law_rings_asked.nd rfl (by first | exact Or.inl rfl | exact Or.inr rfl) pe_int)
        (pss_cons (ps_for PassesOwn.never rfl (pi_tupK (K := K) rfl (pe_c c_divisors_of hr (by rfl) (pa_cons (pe_op op_add (pv 1) pe_int) pa_nil))) (pg_name (i := 7) sc_law_rings_asked.nd rfl (by first | exact Or.inl rfl | exact Or.inr rfl))
        (pss_one (ps_if (PW.pt (pw_and (pt_cmpR op_eq (pe_op op_mod (pe_callTy cr_int (by rfl) T.int_ boot_int (pa_cons (pv 7) pa_nil)) pe_int) pe_int (nomark _)) (pw_and1 (pt_cmpR op_eq (pe_op op_mod (pe_callTy cr_int (by rfl) T.int_ boot_int (pa_cons (pv 4) pa_nil)) (pv 7)) pe_int (nomark _)))))
          (pss_one (ps_set (i := 6) sc_law_rings_asked.nd rfl (by first | exact Or.inl rfl | exact Or.inr rfl) (pe_op op_add (pv 6) (pe_c c_single_rings hr (by rfl) (pa_cons (pe_op op_fdiv (pe_op op_add (pv 1) pe_int) (pv 7)) pa_nil)))))
          pss_nil)))
        (pss_one (ps_if (PW.pt (pw_or (pt_cmpR op_ne (pv 6) (pv 5) (nomark _)) (pw_or1 (pt_not (pt_val (pe_c c_law_is_number hr (by rfl) (pa_cons (pe_c c_size_of hr (by rfl) (pa_cons (pv 1) (pa_cons (pv 4) pa_nil))) (pa_cons (pv 5) pa_nil))))))))
        (pss_one (ps_ret pe_bl))
        pss_nil))))))))
      (pss_one (ps_ret pe_bl))))))), ?_⟩
    refine q_asgX (Po := fun v => ∃ n : Nat, v = .int (n : Int) ∧ n ≤ 9) (evX_pick (g := fun i j => .int (i + j)) (m1 := 16) (m2 := 7) (m3 := 3) (c := 7) rfl ⟨by decide, by decide⟩ ⟨by decide, by decide⟩ ⟨by decide, by decide⟩ (fun z hz => ⟨z, rfl, by omega⟩) fun z hz => ⟨7 + z, rfl, by omega⟩) hh fun v0 H1 x1 hh1 ⟨n, ev, hn⟩ => ?_
    subst ev
    have en : ((n : Int) + 1) = ((n + 1 : Nat) : Int) := rfl
    refine q_asgG (evG_lcTWI (ws := oddR (n + 1)) (fun w => ((repM w : Nat) : Int)) (evG_call (ea_cons (ev_is (by walk_at "ev") (congrArg V.int en)) ea_nil) (sv_odd_rings (l := n + 1) (by omega) (by omega))) (by
        have h1 := oddL_len (n + 1) (2 ^ (n + 1))
        have h2 : 2 ^ (n + 1) ≤ 2 ^ 10 := Nat.pow_le_pow_right (by decide) (by omega)
        unfold oddR
        omega) (fun _ => rfl) fun i a wd H2 e2 hi ha => ev_call (ea_cons (ev_var rfl) ea_nil) (sv_repeats_of ha (.of01 (by omega) (oddL_mem (List.mem_of_getElem? hi))) (by rw [(oddL_mem (List.mem_of_getElem? hi)).1]; omega))) fun v1 H2 e2 hv1 => ?_
    obtain ⟨ra, ev, hra⟩ := hv1
    subst ev
    have hra : H2 ra = some (.lst ((reps n).map V.int)) := hra
    have hh2 := hh1.ex e2
    have hlen : (reps n).length ≤ 40000 := by
      unfold reps oddR
      have h1 := oddL_len (n + 1) (2 ^ (n + 1))
      have h2 : 2 ^ (n + 1) ≤ 2 ^ 10 := Nat.pow_le_pow_right (by decide) (by omega)
      rw [List.length_map]
      omega
    have hf0 : (reps n).filter (fun _ => false) = [] := by simp
    refine q_pass (b := false) (et_test (ev_is (ev_neL (ms := []) (evG_lcLF (fun _ => false) (evG_varL rfl hra) hlen (fun _ => rfl) (fun z hz H3 e3 => ?_) fun _ => rfl) (evG_lst ea_nil (by decide))) (by rw [hf0]; rfl))) rfl fun H3 e3 => ?_
    · have hz0 := reps_pos hz
      exact et_is (et_or (a := false) (b := false) (et_not (a := true) (et_B (ev_call (ea_cons (ev_var rfl) ea_nil) sv_law_whole))) fun _ => et_test (ev_is (ev_lt (ev_var rfl) ev_c) (congrArg V.bl (decide_eq_false (by omega))))) rfl
    have hra3 := e3 ra _ hra
    have hh3 := hh2.ex e3
    -- the rests
    refine q_rests rfl rfl hn hh3 fun a rs H4 x4 hh4 ha hrs => ?_
    obtain ⟨c, cells, pos, rst, tot, hp3, _⟩ := id hh3
    have nra : ra ≠ p := hand_ne hp3 hra3
    have hra4 := x4 ra _ nra hra3
    have x0 : Exx p H H4 := (x1.trans (.of (e2.trans e3))).trans x4
    clear x4 hp3 hra3 hh3 hra hh2 hh1
    refine q_forLE (evG_varL rfl ha) (fun i σ' => ∃ x4 x5 x6 x7, σ' = [some (.ref p), some (.int n), some (.ref ra), some (.ref a), x4, x5, x6, x7, none, none]) ⟨none, none, none, none, rfl⟩ ?_ ?_
    · rintro i x σ' H5 e5 hx ⟨y4, y5, y6, y7, rfl⟩ N hN
      obtain ⟨r, rfl, hi, hm⟩ := vN_get hx
      have hrn := hrs r hm
      obtain ⟨f1, f2, f3⟩ := ring_facts hn hrn
      have hra5 := e5 ra _ hra4
      have cz := cF_size (n := n) (r := r) (by omega) hrn
      have en1 : Ev (tCB (rLenA K) (tCons (tListG (tCallG (spM C) [] E0 (tCons (tMake C (spI C) [] E0 (tCons (tVar 1) (tCons (tOp (rI0 fun i j => .int (i + j)) (tVar 1) (tC (.int 1))) (tCons (tVar 4) tNil)))) tNil))) tNil)) [some (.ref p), some (.int n), some (.ref ra), some (.ref a), some (.int (r : Int)), y5, y6, y7, none, none] H5 (.int (memM n r : Nat)) := members_len (ea_cons (ev_var rfl) (ea_cons (ev_add (ev_var rfl) ev_c) (ea_cons (ev_var rfl) ea_nil))) hn hrn
      rw [f1] at en1
      refine q_asg en1 fun H6 e6 => ?_
      generalize hc : cF (n + 1) n r = c at f1 f2 f3 cz
      have hra6 := e6 ra _ hra5
      have vn : ∀ {H : Hp}, Ev (tVar 1) [some (.ref p), some (.int n), some (.ref ra), some (.ref a), some (.int (r : Int)), some (.int (c : Int)), y6, y7, none, none] H (.int (n : Int)) := ev_var rfl
      have vr : ∀ {H : Hp}, Ev (tVar 4) [some (.ref p), some (.int n), some (.ref ra), some (.ref a), some (.int (r : Int)), some (.int (c : Int)), y6, y7, none, none] H (.int (r : Int)) := ev_var rfl
      have vm : ∀ {H : Hp}, Ev (tVar 5) [some (.ref p), some (.int n), some (.ref ra), some (.ref a), some (.int (r : Int)), some (.int (c : Int)), y6, y7, none, none] H (.int (c : Int)) := ev_var rfl
      have hcnt' : Ev (tOp (rIxL K) (tCall sp_law_counts [] E0 (tCons (tVar 1) (tCons (tOp (rI0 fun i j => .int (i + j)) (tVar 1) (tC (.int 1))) tNil))) (tVar 4)) [some (.ref p), some (.int n), some (.ref ra), some (.ref a), some (.int (r : Int)), some (.int (c : Int)), y6, y7, none, none] H6 (.int (c : Int)) := by
        have h1 := ev_ixL (K := K) (evG_call (E := E0) (ea_cons (vn (H := H6)) (ea_cons (ev_add vn ev_c) ea_nil)) (sv_law_counts (n := n) (by omega))) vr (cRow_at hrn)
        rw [hc] at h1
        exact h1
      have hrf : Ev (tCB (rLenA K) (tCons (tCall sp_rings_for [] E0 (tCons (tVar 1) (tCons (tVar 4) tNil))) tNil)) [some (.ref p), some (.int n), some (.ref ra), some (.ref a), some (.int (r : Int)), some (.int (c : Int)), y6, y7, none, none] H6 (.int (c : Int)) := by
        have h1 := ev_lenTW (K := K) (evG_call (E := E0) (ea_cons (vn (H := H6)) (ea_cons vr ea_nil)) (sv_rings_for hn hrn))
        rw [f2] at h1
        exact h1
      have hnn : ∀ z : Int, V.bl (!decide (z = z)) = V.bl false := fun z => by simp
      have t1 := et_is (et_or (a := false) (b := false) (et_test (ev_is (ev_ne vm hcnt') (hnn c))) fun _ => et_test (ev_is (ev_ne hrf vm) (hnn c))) (b := false) rfl
      refine q_pass t1 rfl fun H7 e7 => ?_
      have hra7 := e7 ra _ hra6
      have hfl := evG_lcLF (K := K) (tt := tTest (tOp rEq (tOp (rI (fun _ j => 0 < j) fun i j => .int (i % j)) (tCB rInt1 (tCons (tVar 4) tNil)) (tVar 9)) (tC (.int 0)))) (tl := tVar 2) (j := 9) (vs := [9]) (H := H7) (σ := [some (.ref p), some (.int n), some (.ref ra), some (.ref a), some (.int (r : Int)), some (.int (c : Int)), y6, y7, none, none]) (fun k => decide ((r : Int) % k = 0)) (evG_varL rfl hra7) hlen (fun _ => rfl) (fun z hz H8 e8 => et_test (ev_eq (ev_mod (ev_int1 (ev_var rfl)) (ev_var rfl) (reps_pos hz)) ev_c)) fun _ => rfl
      have hfl2 : Ev (tCB (rLenA K) (tCons (tLc (iList K (tVar 2)) (gName 9) (tTest (tOp rEq (tOp (rI (fun _ j => 0 < j) fun i j => .int (i % j)) (tCB rInt1 (tCons (tVar 4) tNil)) (tVar 9)) (tC (.int 0)))) (tVar 9) [9]) tNil)) [some (.ref p), some (.int n), some (.ref ra), some (.ref a), some (.int (r : Int)), some (.int (c : Int)), y6, y7, none, none] H7 (.int (c : Int)) := by
        have h1 := ev_lenL (K := K) hfl
        rw [List.length_map, reps_count, f2] at h1
        exact h1
      refine q_pass (et_test (ev_is (ev_ne hfl2 vm) (hnn c))) rfl fun H8 e8 => ?_
      refine q_asg ev_c fun H9 e9 => ?_
      have hdv : EvA (tCons (tOp (rI0 fun i j => .int (i + j)) (tVar 1) (tC (.int 1))) tNil) [some (.ref p), some (.int n), some (.ref ra), some (.ref a), some (.int (r : Int)), some (.int (c : Int)), some (.int 0), y7, none, none] H9 [.int ((n + 1 : Nat) : Int)] := ea_cons (ev_is (ev_add (ev_var (v := .int (n : Int)) rfl) (ev_c (v := .int 1))) (congrArg V.int en)) ea_nil
      refine q_forTE (evG_call (E := E0) hdv (sv_divisors_of (n := n + 1) (by omega) (by omega))) (fun i σ' => ∃ (t : Int) (dv : Option V), σ' = [some (.ref p), some (.int n), some (.ref ra), some (.ref a), some (.int (r : Int)), some (.int (c : Int)), some (.int t), dv, none, none] ∧ sgF n r ((divs (n + 1)).drop i) t = (c : Int)) ⟨0, y7, rfl, f3⟩ ?_ ?_
      · rintro i x σ' H' e' hx ⟨t, dv, rfl, hS⟩ N' hN'
        obtain ⟨d, rfl, hi, hm⟩ := vN_get hx
        have hd := (dv_ok (n := n + 1) (by omega) (by omega)).1 d hm
        rw [drop_at hi] at hS
        have un : sgF n r (d :: (divs (n + 1)).drop (i + 1)) t = sgF n r ((divs (n + 1)).drop (i + 1)) (if d % 2 = 1 ∧ r % d = 0 then t + singM ((n + 1) / d) else t) := rfl
        rw [un] at hS
        have vd : ∀ {H : Hp}, Ev (tVar 7) [some (.ref p), some (.int n), some (.ref ra), some (.ref a), some (.int (r : Int)), some (.int (c : Int)), some (.int t), some (.int (d : Int)), none, none] H (.int (d : Int)) := ev_var rfl
        have vr' : ∀ {H : Hp}, Ev (tVar 4) [some (.ref p), some (.int n), some (.ref ra), some (.ref a), some (.int (r : Int)), some (.int (c : Int)), some (.int t), some (.int (d : Int)), none, none] H (.int (r : Int)) := ev_var rfl
        have tt := et_and (H := H') (et_test (ev_eq (ev_mod (ev_int1 vd) (ev_c (v := .int 2)) (by decide)) (ev_c (v := .int 1)))) fun _ => et_test (ev_eq (ev_mod (ev_int1 vr') vd (by omega)) (ev_c (v := .int 0)))
        refine s_when tt (fun hc H3 e3 => ?_) fun hc H3 e3 => ?_
        · rw [Bool.and_eq_true, decide_eq_true_eq, decide_eq_true_eq] at hc
          have hc2 : d % 2 = 1 ∧ r % d = 0 := ⟨by omega, by
            have h1 := hc.2
            rw [← Int.natCast_emod] at h1
            omega⟩
          rw [if_pos hc2] at hS
          have hle : (n + 1) / d ≤ 201 := Nat.le_trans (Nat.div_le_self _ _) (by omega)
          have hpos : 1 ≤ (n + 1) / d := Nat.div_pos hd.2.1 (by omega)
          have vn' : Ev (tVar 1) [some (.ref p), some (.int n), some (.ref ra), some (.ref a), some (.int (r : Int)), some (.int (c : Int)), some (.int t), some (.int (d : Int)), none, none] H3 (.int (n : Int)) := ev_var rfl
          have hq : Ev (tOp (rI CDiv fun i j => .int (i / j)) (tOp (rI0 fun i j => .int (i + j)) (tVar 1) (tC (.int 1))) (tVar 7)) [some (.ref p), some (.int n), some (.ref ra), some (.ref a), some (.int (r : Int)), some (.int (c : Int)), some (.int t), some (.int (d : Int)), none, none] H3 (.int (((n + 1) / d : Nat) : Int)) := ev_is (ev_div (ev_add vn' ev_c) vd ⟨by omega, by omega⟩) (congrArg V.int divN)
          exact s_asg (v := .int (t + singM ((n + 1) / d))) (ev_add (ev_var rfl) (ev_call (ea_cons hq ea_nil) (sv_single_rings hpos hle))) fun H4 e4 => hN' _ H4 (e3.trans e4) ⟨_, _, rfl, hS⟩
        · rw [Bool.and_eq_false_iff, decide_eq_false_iff_not, decide_eq_false_iff_not] at hc
          have hc2 : ¬ (d % 2 = 1 ∧ r % d = 0) := fun z => by
            rcases hc with h | h
            · exact h (by omega)
            · exact h (by
                rw [← Int.natCast_emod]
                omega)
          rw [if_neg hc2] at hS
          exact hN' _ H3 e3 ⟨_, _, rfl, hS⟩
      · rintro σ' H' e' ⟨t, dv, rfl, hS⟩
        rw [vN_len, List.drop_length] at hS
        have hS' : t = (c : Int) := hS
        subst hS'
        have vn' : Ev (tVar 1) [some (.ref p), some (.int n), some (.ref ra), some (.ref a), some (.int (r : Int)), some (.int (c : Int)), some (.int (c : Int)), dv, none, none] H' (.int (n : Int)) := ev_var rfl
        have vr' : Ev (tVar 4) [some (.ref p), some (.int n), some (.ref ra), some (.ref a), some (.int (r : Int)), some (.int (c : Int)), some (.int (c : Int)), dv, none, none] H' (.int (r : Int)) := ev_var rfl
        have vm' : Ev (tVar 5) [some (.ref p), some (.int n), some (.ref ra), some (.ref a), some (.int (r : Int)), some (.int (c : Int)), some (.int (c : Int)), dv, none, none] H' (.int (c : Int)) := ev_var rfl
        have vt' : Ev (tVar 6) [some (.ref p), some (.int n), some (.ref ra), some (.ref a), some (.int (r : Int)), some (.int (c : Int)), some (.int (c : Int)), dv, none, none] H' (.int (c : Int)) := ev_var rfl
        have hsz := ev_call (E := E0) (ea_cons (ev_call (E := E0) (ea_cons vn' (ea_cons vr' ea_nil)) (sv_size_of (n := n) (r := r) (by omega) hrn)) (ea_cons vm' ea_nil)) (sv_law_is_number cz.symm)
        have t3 := et_is (et_or (a := false) (b := false) (et_test (ev_is (ev_ne vt' vm') (hnn c))) fun _ => et_not (a := true) (et_B hsz)) (b := false) rfl
        exact s_pass t3 rfl fun H3 e3 => hN _ H3 (((((e6.trans e7).trans e8).trans e9).trans e').trans e3) ⟨_, _, _, _, rfl⟩
    · rintro σ' H5 e5 ⟨y4, y5, y6, y7, rfl⟩
      exact s_ret ev_c fun H6 e6 => k H6 (x0.trans (.of (e5.trans e6))) (hh4.ex (e5.trans e6))
end
end K47

set_option maxHeartbeats 4000000
namespace K47
open PySem PySem.Spec PyProof.Rows L2 Evl
local macro_rules | `(tactic| walk_at "evs") => `(tactic| first | assumption | omega | decide | exact ⟨by omega, by omega⟩ | exact Or.inl ⟨by omega, by omega⟩ | exact Or.inr ⟨by omega, by omega⟩)
local macro_rules | `(tactic| walk_at "ev") => `(tactic| first
  | with_reducible exact ev_c
  | ((with_reducible apply ev_var); rfl)
  | ((with_reducible apply ev_add) <;> walk_at "ev")
  | ((with_reducible apply ev_sub) <;> walk_at "ev")
  | ((with_reducible apply ev_neg) <;> walk_at "ev")
  | ((with_reducible apply ev_int1) <;> walk_at "ev")
  | ((with_reducible apply ev_mod); (· walk_at "ev"); (· walk_at "ev"); (· walk_at "evs"))
  | ((with_reducible apply ev_div); (· walk_at "ev"); (· walk_at "ev"); (· walk_at "evs"))
  | ((with_reducible apply ev_mul); (· walk_at "ev"); (· walk_at "ev"); (· walk_at "evs"))
  | ((with_reducible apply ev_lt) <;> walk_at "ev")
  | ((with_reducible apply ev_le) <;> walk_at "ev")
  | ((with_reducible apply ev_gt) <;> walk_at "ev")
  | ((with_reducible apply ev_ge) <;> walk_at "ev")
  | ((with_reducible apply ev_eq) <;> walk_at "ev")
  | ((with_reducible apply ev_ne) <;> walk_at "ev")
  | ((with_reducible apply ev_min2) <;> walk_at "ev")
  | (apply ev_isi (a := "int") (ty := tyx_int) (e := isi_int_int) <;> walk_at "ev")
  | (apply ev_isi (a := "int") (ty := tyx_int) (e := isi_int_bool) <;> walk_at "ev"))
local macro_rules | `(tactic| walk_at "et") => `(tactic| first
  | ((with_reducible apply et_test); walk_at "ev")
  | ((with_reducible apply et_B); walk_at "ev")
  | ((with_reducible apply et_not); walk_at "et"))
local macro_rules | `(tactic| walk_at "ea") => `(tactic| first
  | with_reducible exact ea_nil
  | ((with_reducible apply ea_cons); (· walk_at "ev"); (· walk_at "ea")))

section
variable {p : Addr} {σ : L2.St} {H : Hp} {te : TE} {v : V}
theorem evX_of (h : ∀ H, Ev te σ H v) : EvX p te σ H (fun x => x = v) := fun H1 _ hh Q q => h H1 H1 (Ex.refl _) Q fun H2 e2 => q v H2 (.of e2) (hh.ex e2) rfl
end
section
variable {P : Program} {w : World} {K : PySem.W.Frag} {mg : Str → Option Value} {base : Heap}
theorem evG_turned {C : Addr} {σ : L2.St} {H : Hp} {ta : TE} {a : Addr} {n r : Int} (ha : Ev ta σ H (.ref a)) (hb : BookAt C H a n (n + 1) r) (h1 : 0 ≤ n) (h2 : n ≤ 200) :
    EvG (tMeth C "turned" (spTurn C) [] E0 ta tNil) σ H (IsBook C n (n + 1) ((n + 1 - r) % (n + 1))) := fun H1 e Q q => ha H1 e _ fun H2 e2 => by
  obtain ⟨dx, hb2⟩ := hb.ex (e.trans e2)
  exact ⟨a, dx, _, rfl, hb2, bk_none (by decide +kernel) (by decide +kernel) (by decide +kernel), a, n, r, rfl, ⟨dx, hb2⟩, h1, h2, fun v H3 e3 p3 => q v H3 (e2.trans e3) p3⟩
theorem evG_contrary {C : Addr} {σ : L2.St} {H : Hp} {ta : TE} {a : Addr} {n r : Int} (ha : Ev ta σ H (.ref a)) (hb : BookAt C H a n (n + 1) r) (h1 : 0 ≤ n) (h2 : n ≤ 200) :
    EvG (tMeth C "contrary" (spContr C) [] E0 ta tNil) σ H (IsBook C n (n + 1) ((n * (n + 1) / 2 - r) % (n + 1))) := fun H1 e Q q => ha H1 e _ fun H2 e2 => by
  obtain ⟨dx, hb2⟩ := hb.ex (e.trans e2)
  exact ⟨a, dx, _, rfl, hb2, bk_none (by decide +kernel) (by decide +kernel) (by decide +kernel), a, n, r, rfl, ⟨dx, hb2⟩, h1, h2, fun v H3 e3 p3 => q v H3 (e2.trans e3) p3⟩
theorem q_parG {D : Ends} {tz : TS} {σ : L2.St} {H : Hp} {k l : Nat} {ta tb : TE} {Pa Pb : V → Hp → Prop} (h1 : EvG ta σ H Pa) (h2 : ∀ H1, Ex H H1 → EvG tb σ H1 Pb) (q : ∀ x y H1 H2, Ex H H1 → Pa x H1 → Ex H1 H2 → Pb y H2 → tz D ((σ.set k (some x)).set l (some y)) H2) :
    tSeq (tPar k l (tCons ta (tCons tb tNil))) tz D σ H := h1 H (Ex.refl _) _ fun x H1 e1 p1 => h2 H1 e1 H1 (Ex.refl _) _ fun y H2 e2 p2 => ⟨x, y, rfl, q x y H1 H2 e1 p1 e2 p2⟩
theorem other_eq {n r : Nat} (hr : r ≤ n) : ((n : Int) * ((n : Int) + 1) / 2 - (r : Int)) % ((n : Int) + 1) = ((other n (n * (n + 1) / 2 % (n + 1)) r : Nat) : Int) := by
  have hlt : n * (n + 1) / 2 % (n + 1) < n + 1 := Nat.mod_lt _ (by omega)
  have hdm := Nat.div_add_mod (n * (n + 1) / 2) (n + 1)
  have e1 : ((n : Int) * ((n : Int) + 1) / 2) = ((n * (n + 1) / 2 : Nat) : Int) := by
    rw [Int.natCast_ediv, Int.natCast_mul, Int.natCast_add]
    rfl
  rw [e1]
  generalize n * (n + 1) / 2 = X at hlt hdm
  generalize hh : X % (n + 1) = h at hlt hdm
  generalize X / (n + 1) = q at hdm
  show _ = (((h + (n + 1) - r) % (n + 1) : Nat) : Int)
  rw [Int.natCast_emod, Int.natCast_sub (by omega), ← hdm]
  have e2 : (((n + 1) * q + h : Nat) : Int) - (r : Int) = ((h : Int) - (r : Int)) + ((n : Int) + 1) * (q : Int) := by
    simp only [Int.natCast_add, Int.natCast_mul]
    show ((n : Int) + 1) * (q : Int) + h - r = _
    omega
  have e3 : ((h + (n + 1) : Nat) : Int) - (r : Int) = ((h : Int) - (r : Int)) + ((n : Int) + 1) := by
    simp only [Int.natCast_add]
    omega
  rw [e2, e3, Int.add_mul_emod_self_left]
  show _ = _ % ((n : Int) + 1)
  rw [Int.add_emod_right]
theorem about_eq {n r : Nat} (hr : r ≤ n) : (-(r : Int)) % ((n : Int) + 1) = (((n + 1 - r) % (n + 1) : Nat) : Int) := by
  rw [Int.natCast_emod, Int.natCast_sub (by omega)]
  show _ = (((n : Int) + 1) - (r : Int)) % ((n : Int) + 1)
  rw [show ((n : Int) + 1) - (r : Int) = -(r : Int) + ((n : Int) + 1) by omega, Int.add_emod_right]
theorem turned_eq {n r : Nat} (hr : r ≤ n) : ((n : Int) + 1 - (r : Int)) % ((n : Int) + 1) = (((n + 1 - r) % (n + 1) : Nat) : Int) := by
  rw [Int.natCast_emod, Int.natCast_sub (by omega)]
  rfl
abbrev s_law_books_asked : Stmt := topS 58
abbrev n_law_books_asked : List Str := ["_law_hand_here", "_law_n", "_law_rest", "_law_ones", "_law_book", "_law_contrary", "_law_turned", "_law_other", "_law_about", "_law_here", "_law_counts_here", "_law_one"]
abbrev p_law_books_asked : List Str := ["_law_hand_here"]
theorem sc_law_books_asked : FnScope n_law_books_asked p_law_books_asked (defScope s_law_books_asked) := ⟨rfl, rfl, rfl, by decide +kernel, rfl, by decide +kernel, by decide +kernel⟩
-- 0 _law_hand_here 1 _law_n 2 _law_rest 3 _law_ones 4 _law_book 5 _law_contrary 6 _law_turned 7 _law_other 8 _law_about 9 _law_here 10 _law_counts_here 11 _law_one
def sp_law_books_asked : Sp := fun vs H Q _ => ∃ (p : Addr), vs = [.ref p] ∧ HandAt H p ∧ ∀ H', Exx p H H' → HandAt H' p → Q (.bl true) H'
theorem ok_law_books_asked {f C fI fF pF fT fC : Addr} {fd fdI fdT fdC : FuncData} (F : Fun K "_law_books_asked" "_law_books_asked" s_law_books_asked f fd) (T : Txt mg) (B : Bk K mg C fI fF pF fT fC)
    (G_init : FnOk P w K mg base CX0 3 fI fdI p_SumBook___init (spI C)) (b_init : Binds K fdI p_SumBook___init [])
    (G_turned : FnOk P w K mg base CX0 5 fT fdT p_SumBook_turned (spTurn C)) (b_turned : Binds K fdT p_SumBook_turned [])
    (G_contrary : FnOk P w K mg base CX0 5 fC fdC p_SumBook_contrary (spContr C)) (b_contrary : Binds K fdC p_SumBook_contrary [])
    (c_law_take : C_law_take P w K mg base) (c_law_counts : C_law_counts P w K mg base) (c_law_with_ones : C_law_with_ones P w K mg base) (c_law_is_number : C_law_is_number P w K mg base) (c_size_of : C_size_of P w K mg base) (c_size_by_ones : C_size_by_ones P w K mg base) : FnOk P w K mg base CX0 6 f fd p_law_books_asked sp_law_books_asked := by
  refine F.ok sc_law_books_asked (fun vs H Q E h => ?_) (fun cdv A outer s H vs Q E hr h => ?_)
  · obtain ⟨p, rfl, _⟩ := h
    rfl
  · obtain ⟨p, rfl, hh, k⟩ := h
    refine ⟨_, (pss_cons (ps_set (i := 1) sc_law_books_asked.nd rfl (by first | exact Or.inl rfl | exact Or.inr rfl) (pe_ifExp (pt_cmpR op_gt (pe_c c_law_take hr (by rfl) (pa_cons (pv 0) (pa_cons pe_int pa_nil))) pe_int (nomark _)) (pe_c c_law_take hr (by rfl) (pa_cons (pv 0) (pa_cons pe_int pa_nil))) (pe_op op_sub pe_int (pe_c c_law_take hr (by rfl) (pa_cons (pv 0) (pa_cons pe_int pa_nil))))))
      (pss_cons (ps_set (i := 2) sc_law_books_asked.nd rfl (by first | exact Or.inl rfl | exact Or.inr rfl) (pe_c c_law_take hr (by rfl) (pa_cons (pv 0) (pa_cons (pe_op op_add (pv 1) pe_int) pa_nil))))
      (pss_cons (ps_set (i := 3) sc_law_books_asked.nd rfl (by first | exact Or.inl rfl | exact Or.inr rfl) (pe_c c_law_take hr (by rfl) (pa_cons (pv 0) (pa_cons (pe_ifExp (pt_cmpR op_lt (pv 1) pe_int (nomark _)) (pe_op op_add (pv 1) pe_int) pe_int) pa_nil))))
      (pss_cons (ps_set (i := 4) sc_law_books_asked.nd rfl (by first | exact Or.inl rfl | exact Or.inr rfl) (pe_make B.mkk G_init (hr.mono (by decide)) (by rfl) B.gC b_init .nil pass0 (pa_cons (pv 1) (pa_cons (pe_op op_add (pv 1) pe_int) (pa_cons (pv 2) pa_nil)))))
      (pss_cons (ps_par (i := 5) (j := 6) (by rfl) sc_law_books_asked.nd rfl rfl (by decide) rfl rfl (pa_cons (pe_meth0 (pv 4) B.cl B.m_contrary G_contrary (hr.mono (by decide)) b_contrary .nil pass0) (pa_cons (pe_meth0 (pv 4) B.cl B.m_turned G_turned (hr.mono (by decide)) b_turned .nil pass0) pa_nil)) (by rfl))
      (pss_cons (ps_par (i := 7) (j := 8) (by rfl) sc_law_books_asked.nd rfl rfl (by decide) rfl rfl (pa_cons (pe_op op_mod (pe_callTy cr_int (by rfl) T.int_ boot_int (pa_cons (pe_op op_sub (pe_op op_fdiv (pe_op op_mul (pv 1) (pe_op op_add (pv 1) pe_int)) pe_int) (pv 2)) pa_nil)) (pe_op op_add (pv 1) pe_int)) (pa_cons (pe_op op_mod (pe_callTy cr_int (by rfl) T.int_ boot_int (pa_cons (pe_un un_neg (pv 2)) pa_nil)) (pe_op op_add (pv 1) pe_int)) pa_nil)) (by rfl))
      (pss_cons (ps_if (PW.pt (pw_or (pt_not (pt_val (pe_c c_law_is_number hr (by rfl) (pa_cons (pe_fld (pv 5) rfl) (pa_cons (pv 7) pa_nil))))) (pw_or1 (pt_not (pt_val (pe_c c_law_is_number hr (by rfl) (pa_cons (pe_fld (pv 6) rfl) (pa_cons (pv 8) pa_nil))))))))
      (pss_one (ps_ret pe_bl))
      pss_nil)
      (pss_cons (ps_set (i := 9) sc_law_books_asked.nd rfl (by first | exact Or.inl rfl | exact Or.inr rfl) (pe_c c_law_with_ones hr (by rfl) (pa_cons (pv 1) (pa_cons (pv 2) (pa_cons (pv 3) pa_nil)))))
      (pss_cons (ps_if (pt_not (pt_val (pe_c c_law_is_number hr (by rfl) (pa_cons (pe_c c_size_by_ones hr (by rfl) (pa_cons (pv 1) (pa_cons (pv 2) (pa_cons (pv 3) pa_nil)))) (pa_cons (pv 9) pa_nil)))))
      (pss_one (ps_ret pe_bl))
      pss_nil)
      (pss_cons (ps_if (PW.pt (pw_or (pt_not (pt_val (pe_c c_law_is_number hr (by rfl) (pa_cons (pe_c c_size_by_ones hr (by rfl) (pa_cons (pv 1) (pa_cons (pv 7) (pa_cons (pe_op op_sub (pv 1) (pv 3)) pa_nil)))) (pa_cons (pv 9) pa_nil))))) (pw_or1 (pt_not (pt_val (pe_c c_law_is_number hr (by rfl) (pa_cons (pe_c c_size_by_ones hr (by rfl) (pa_cons (pv 1) (pa_cons (pv 8) (pa_cons (pv 3) pa_nil)))) (pa_cons (pv 9) pa_nil))))))))
      (pss_one (ps_ret pe_bl))
      pss_nil)
      (pss_cons (ps_set (i := 10) sc_law_books_asked.nd rfl (by first | exact Or.inl rfl | exact Or.inr rfl) (pe_c c_law_counts hr (by rfl) (pa_cons (pv 1) (pa_cons (pe_op op_add (pv 1) pe_int) pa_nil))))
      (pss_one (ps_ret (pe_cmpR op_eq (pe_callB (cr_lenK (K := K) rfl) (by rfl) T.len_ PySem.boot_len (pa_cons (pe_lc (own := [("_law_one", 11)]) rfl sc_law_books_asked.nd (pi_listK (K := K) rfl (pe_lst (pa_cons (pv 2) (pa_cons (pv 7) (pa_cons (pv 8) pa_nil))))) (blkOk_by (own := [("_law_one", 11)]) (N := n_law_books_asked) (sc := defScope s_law_books_asked) (by decide +kernel)) (fun _ _ _ _ _ => (pg_name (i := 11) sc_law_books_asked.nd rfl (by first | exact Or.inl rfl | exact Or.inr rfl))) (fun _ _ _ _ _ => pts_one (pt_not (pt_val (pe_c c_law_is_number hr (by rfl) (pa_cons (pe_c c_size_of hr (by rfl) (pa_cons (pv 1) (pa_cons (pv 11) pa_nil))) (pa_cons (pe_ix (ix_listK (K := K) rfl) (pv 10) (pv 11) (fun _ _ => rfl)) pa_nil)))))) (fun _ _ _ _ _ => (pv 11))) pa_nil)) pe_int (nomark _))))))))))))))), ?_⟩
    refine q_asgX (Po := fun v => ∃ n : Nat, v = .int (n : Int) ∧ n ≤ 200) (evX_pick (g := fun i j => .int (i - j)) (m1 := 8) (m2 := 61) (m3 := 140) (c := 200) rfl ⟨by decide, by decide⟩ ⟨by decide, by decide⟩ ⟨by decide, by decide⟩ (fun z hz => ⟨z, rfl, by omega⟩) fun z hz => ⟨200 - z, congrArg V.int (by omega), by omega⟩) hh fun v0 H1 x1 hh1 ⟨n, ev, hn⟩ => ?_
    subst ev
    refine q_asgX (evX_take (m := (n : Int) + 1) rfl (by omega) (by omega) (evX_of fun H => ev_add (ev_var rfl) ev_c)) hh1 fun v1 H2 x2 hh2 ⟨r, ev, hr'⟩ => ?_
    subst ev
    have hrn : r ≤ n := by omega
    refine q_asgX (evX_take (m := if (n : Int) < 25 then (n : Int) + 1 else 3) rfl (by split <;> omega) (by split <;> omega) (evX_of fun H => ev_is (ev_if (b := decide ((n : Int) < 25)) (v := .int (if (n : Int) < 25 then (n : Int) + 1 else 3)) (et_test (ev_lt (ev_var rfl) ev_c)) (fun h => ev_is (ev_add (ev_var (v := .int (n : Int)) rfl) (ev_c (v := .int 1))) (congrArg V.int (by rw [if_pos (of_decide_eq_true h)]))) fun h => ev_is (ev_c (v := .int 3)) (congrArg V.int (by rw [if_neg (of_decide_eq_false h)]))) rfl)) hh2 fun v2 H3 x3 hh3 ⟨o, ev, ho⟩ => ?_
    subst ev
    have hon : o ≤ n ∧ (n < 25 ∨ o ≤ 2) := by
      split at ho <;> omega
    have x0 : Exx p H H3 := (x1.trans x2).trans x3
    clear x1 x2 x3 hh1 hh2 hr' ho
    refine q_asgG (evG_book (n := (n : Int)) (m := (n : Int) + 1) (r := (r : Int)) (ea_cons (ev_var rfl) (ea_cons (ev_add (ev_var rfl) ev_c) (ea_cons (ev_var rfl) ea_nil))) (by omega) (by omega) (Int.le_refl _) (by omega) (by omega) (by omega)) fun v3 H4 e4 ⟨bk, ev, hbk⟩ => ?_
    subst ev
    refine q_parG (evG_contrary (ev_var rfl) hbk (by omega) (by omega)) (fun H5 e5 => evG_turned (ev_var rfl) (hbk.ex e5) (by omega) (by omega)) fun x y H5 H6 e5 ⟨cx, ex, hcx⟩ e6 ⟨cy, ey, hcy⟩ => ?_
    subst ex ey
    have hcx := hcx.ex e6
    have eo := other_eq hrn
    have eb := about_eq hrn
    have et := turned_eq hrn
    rw [eo] at hcx
    rw [et] at hcy
    have hOn : other n (n * (n + 1) / 2 % (n + 1)) r ≤ n := Nat.le_of_lt_succ (Nat.mod_lt _ (by omega))
    have hAn : (n + 1 - r) % (n + 1) ≤ n := Nat.le_of_lt_succ (Nat.mod_lt _ (by omega))
    have s1 := oF_sbo hn hon.1 hon.2 hrn
    have s2 := sbo_neg (k := o) hn hrn
    have z1 := cF_size hn hrn
    have z2 := cF_size hn hOn
    have z3 := cF_size hn hAn
    generalize hO : other n (n * (n + 1) / 2 % (n + 1)) r = O at eo hcx hOn s1 z2
    generalize hA : (n + 1 - r) % (n + 1) = Ab at eb et hcy hAn s2 z3
    rw [s1.1] at s2
    let σ1 : L2.St := [some (.ref p), some (.int (n : Int)), some (.int (r : Int)), some (.int (o : Int)), some (.ref bk), some (.ref cx), some (.ref cy), none, none, none, none, none]
    have vn : ∀ {H : Hp}, Ev (tVar 1) σ1 H (.int (n : Int)) := ev_var rfl
    have vr : ∀ {H : Hp}, Ev (tVar 2) σ1 H (.int (r : Int)) := ev_var rfl
    have hn1 : (0 : Int) < (n : Int) + 1 := by omega
    have p1 := ev_is (ev_mod (H := H6) (ev_int1 (ev_sub (ev_div (ev_mul vn (ev_add vn (ev_c (v := .int 1))) (Or.inl ⟨by omega, by omega⟩)) (ev_c (v := .int 2)) ⟨by decide, by decide⟩) vr)) (ev_add vn (ev_c (v := .int 1))) hn1) (congrArg V.int eo)
    have p2 := ev_is (ev_mod (H := H6) (ev_int1 (ev_neg vr)) (ev_add vn (ev_c (v := .int 1))) hn1) (congrArg V.int eb)
    refine q_par (ea_cons p1 (ea_cons p2 ea_nil)) fun H7 e7 => ?_
    let σ2 : L2.St := [some (.ref p), some (.int (n : Int)), some (.int (r : Int)), some (.int (o : Int)), some (.ref bk), some (.ref cx), some (.ref cy), some (.int (O : Int)), some (.int (Ab : Int)), none, none, none]
    have wO : ∀ {H : Hp}, Ev (tVar 7) σ2 H (.int (O : Int)) := ev_var rfl
    have wA : ∀ {H : Hp}, Ev (tVar 8) σ2 H (.int (Ab : Int)) := ev_var rfl
    have g1 := ev_call (E := E0) (ea_cons (ev_fld (K := K) (H := H7) (σ := σ2) (ta := tVar 5) B.cl B.nR (bk_rest _ _ _) (ev_var rfl) (hcx.ex e7)) (ea_cons wO ea_nil)) (sv_law_is_number rfl)
    have g2 := ev_call (E := E0) (ea_cons (ev_fld (K := K) (H := H7) (σ := σ2) (ta := tVar 6) B.cl B.nR (bk_rest _ _ _) (ev_var rfl) (hcy.ex e7)) (ea_cons wA ea_nil)) (sv_law_is_number rfl)
    refine q_pass (et_is (et_or (a := false) (b := false) (et_not (a := true) (et_B g1)) fun _ => et_not (a := true) (et_B g2)) (b := false) rfl) rfl fun H8 e8 => ?_
    have un : ∀ {H : Hp}, Ev (tVar 1) σ2 H (.int (n : Int)) := ev_var rfl
    have ur : ∀ {H : Hp}, Ev (tVar 2) σ2 H (.int (r : Int)) := ev_var rfl
    have uo : ∀ {H : Hp}, Ev (tVar 3) σ2 H (.int (o : Int)) := ev_var rfl
    refine q_asg (ev_call (E := E0) (ea_cons (un (H := H8)) (ea_cons ur (ea_cons uo ea_nil))) (sv_law_with_ones hn hrn hon.1)) fun H9 e9 => ?_
    generalize oF (n + 1) n o r = c at s1 s2
    let σ3 : L2.St := [some (.ref p), some (.int (n : Int)), some (.int (r : Int)), some (.int (o : Int)), some (.ref bk), some (.ref cx), some (.ref cy), some (.int (O : Int)), some (.int (Ab : Int)), some (.int (c : Int)), none, none]
    have yn : ∀ {H : Hp}, Ev (tVar 1) σ3 H (.int (n : Int)) := ev_var rfl
    have yr : ∀ {H : Hp}, Ev (tVar 2) σ3 H (.int (r : Int)) := ev_var rfl
    have yo : ∀ {H : Hp}, Ev (tVar 3) σ3 H (.int (o : Int)) := ev_var rfl
    have yO : ∀ {H : Hp}, Ev (tVar 7) σ3 H (.int (O : Int)) := ev_var rfl
    have yA : ∀ {H : Hp}, Ev (tVar 8) σ3 H (.int (Ab : Int)) := ev_var rfl
    have yc : ∀ {H : Hp}, Ev (tVar 9) σ3 H (.int (c : Int)) := ev_var rfl
    have q1 := fun (H : Hp) => ev_call (E := E0) (ea_cons (ev_call (E := E0) (ea_cons (yn (H := H)) (ea_cons yr (ea_cons yo ea_nil))) (sv_size_by_ones hn hrn hon.1)) (ea_cons yc ea_nil)) (sv_law_is_number s1.1)
    refine q_pass (et_not (a := true) (et_B (q1 H9))) rfl fun H10 e10 => ?_
    have eno : (n : Int) - (o : Int) = ((n - o : Nat) : Int) := by omega
    have q2 := fun (H : Hp) => ev_call (E := E0) (ea_cons (ev_call (E := E0) (ea_cons (yn (H := H)) (ea_cons yO (ea_cons (ev_is (ev_sub yn yo) (congrArg V.int eno)) ea_nil))) (sv_size_by_ones hn hOn (Nat.sub_le n o))) (ea_cons yc ea_nil)) (sv_law_is_number s1.2)
    have q3 := fun (H : Hp) => ev_call (E := E0) (ea_cons (ev_call (E := E0) (ea_cons (yn (H := H)) (ea_cons yA (ea_cons yo ea_nil))) (sv_size_by_ones hn hAn hon.1)) (ea_cons yc ea_nil)) (sv_law_is_number s2)
    refine q_pass (et_is (et_or (a := false) (b := false) (et_not (a := true) (et_B (q2 H10))) fun _ => et_not (a := true) (et_B (q3 H10))) (b := false) rfl) rfl fun H11 e11 => ?_
    refine q_asgG (evG_call (E := E0) (ea_cons (yn (H := H11)) (ea_cons (ev_add yn (ev_c (v := .int 1))) ea_nil)) (sv_law_counts hn)) fun v4 H12 e12 ⟨cr, ev, hcr⟩ => ?_
    subst ev
    let σ4 : L2.St := [some (.ref p), some (.int (n : Int)), some (.int (r : Int)), some (.int (o : Int)), some (.ref bk), some (.ref cx), some (.ref cy), some (.int (O : Int)), some (.int (Ab : Int)), some (.int (c : Int)), some (.ref cr), none]
    have hlst : EvG (tLst (tCons (tVar 2) (tCons (tVar 7) (tCons (tVar 8) tNil)))) σ4 H12 (IsL (([(r : Int), (O : Int), (Ab : Int)]).map V.int)) := evG_lst (ea_cons (ev_var rfl) (ea_cons (ev_var rfl) (ea_cons (ev_var rfl) ea_nil))) (by show 3 ≤ 100000; decide)
    have hone : ∀ z : Nat, z ≤ n → (cF (n + 1) n z : Int) = sizeM n z → ∀ H13, Ex H12 H13 → EvT (tNot (tB (tCall sp_law_is_number [] E0 (tCons (tCall sp_size_of [] E0 (tCons (tVar 1) (tCons (tVar 11) tNil))) (tCons (tOp (rIxL K) (tVar 10) (tVar 11)) tNil))))) ((wipe σ4 [11]).set 11 (some (.int (z : Int)))) H13 false := fun z hz hc H13 e13 =>
      et_not (a := true) (et_B (ev_call (E := E0) (ea_cons (ev_call (E := E0) (ea_cons (ev_var (v := .int (n : Int)) rfl) (ea_cons (ev_var (v := .int (z : Int)) rfl) ea_nil)) (sv_size_of hn hz)) (ea_cons (ev_ixL (evG_varL (p := cr) rfl (e13 cr _ hcr)) (ev_var (v := .int (z : Int)) rfl) (cRow_at hz)) ea_nil)) (sv_law_is_number hc.symm)))
    have hfl := evG_lcLF (K := K) (tt := tNot (tB (tCall sp_law_is_number [] E0 (tCons (tCall sp_size_of [] E0 (tCons (tVar 1) (tCons (tVar 11) tNil))) (tCons (tOp (rIxL K) (tVar 10) (tVar 11)) tNil))))) (j := 11) (vs := [11]) (fun _ => false) hlst (by show 3 ≤ 40000; decide) (fun _ => rfl) (fun z hz H13 e13 => by
      rcases List.mem_cons.mp hz with e | hz
      · subst e
        exact hone r hrn z1 H13 e13
      · rcases List.mem_cons.mp hz with e | hz
        · subst e
          exact hone O hOn z2 H13 e13
        · have e := List.mem_singleton.mp hz
          subst e
          exact hone Ab hAn z3 H13 e13) (fun _ => rfl)
    have e0 : [(r : Int), (O : Int), (Ab : Int)].filter (fun _ => false) = [] := by simp
    rw [e0] at hfl
    have ex : Ex H3 H12 := ((((((((e4.trans e5).trans e6).trans e7).trans e8).trans e9).trans e10).trans e11).trans e12)
    exact s_ret (ev_is (ev_eq (ev_lenL hfl) (ev_c (v := .int 0))) rfl) fun H13 e13 => k H13 (x0.trans (.of (ex.trans e13))) (hh3.ex (ex.trans e13))
end
end K47

set_option maxHeartbeats 4000000
namespace K47
open PySem PySem.Spec PyProof.Rows L2 Evl
local macro_rules | `(tactic| walk_at "evs") => `(tactic| first | assumption | omega | decide | exact ⟨by omega, by omega⟩ | exact Or.inl ⟨by omega, by omega⟩ | exact Or.inr ⟨by omega, by omega⟩)
local macro_rules | `(tactic| walk_at "ev") => `(tactic| first
  | with_reducible exact ev_c
  | ((with_reducible apply ev_var); rfl)
  | ((with_reducible apply ev_add) <;> walk_at "ev")
  | ((with_reducible apply ev_sub) <;> walk_at "ev")
  | ((with_reducible apply ev_neg) <;> walk_at "ev")
  | ((with_reducible apply ev_int1) <;> walk_at "ev")
  | ((with_reducible apply ev_mod); (· walk_at "ev"); (· walk_at "ev"); (· walk_at "evs"))
  | ((with_reducible apply ev_div); (· walk_at "ev"); (· walk_at "ev"); (· walk_at "evs"))
  | ((with_reducible apply ev_mul); (· walk_at "ev"); (· walk_at "ev"); (· walk_at "evs"))
  | ((with_reducible apply ev_lt) <;> walk_at "ev")
  | ((with_reducible apply ev_le) <;> walk_at "ev")
  | ((with_reducible apply ev_gt) <;> walk_at "ev")
  | ((with_reducible apply ev_ge) <;> walk_at "ev")
  | ((with_reducible apply ev_eq) <;> walk_at "ev")
  | ((with_reducible apply ev_ne) <;> walk_at "ev")
  | ((with_reducible apply ev_min2) <;> walk_at "ev")
  | (apply ev_isi (a := "int") (ty := tyx_int) (e := isi_int_int) <;> walk_at "ev")
  | (apply ev_isi (a := "int") (ty := tyx_int) (e := isi_int_bool) <;> walk_at "ev"))
local macro_rules | `(tactic| walk_at "et") => `(tactic| first
  | ((with_reducible apply et_test); walk_at "ev")
  | ((with_reducible apply et_B); walk_at "ev")
  | ((with_reducible apply et_not); walk_at "et"))
local macro_rules | `(tactic| walk_at "ea") => `(tactic| first
  | with_reducible exact ea_nil
  | ((with_reducible apply ea_cons); (· walk_at "ev"); (· walk_at "ea")))

section
variable {P : Program} {w : World} {K : PySem.W.Frag} {mg : Str → Option Value} {base : Heap}
theorem sum_sumI (f : Nat → Int) : ∀ n : Nat, ((List.range n).map f).sum = sumI f n
  | 0 => rfl
  | n + 1 => by
    rw [List.range_succ, List.map_append, List.sum_append, sum_sumI f n]
    show _ + (f n + 0) = _
    rw [Int.add_zero]
    rfl
theorem ev_sumR {σ : L2.St} {H : Hp} {tr : TA} {te : TE} {j m : Nat} {vs : List Nat} {n : Int} (f : Nat → Int) (h : EvA tr σ H [.int n]) (hm : n = ((m : Nat) : Int)) (hm2 : m ≤ 40000) (hw : ∀ x, wipe ((wipe σ vs).set j (some x)) vs = wipe σ vs)
    (he : ∀ (i : Nat) H1, Ex H H1 → i < m → Ev te ((wipe σ vs).set j (some (.int (i : Int)))) H1 (.int (f i))) :
    Ev (tCB (rSum K) (tCons (tLc (iRng1 tr) (gName j) tYes te vs) tNil)) σ H (.int (sumI f m)) := by
  subst hm
  have h1 := evG_lcRI f h ⟨by omega, by omega⟩ hw fun i H1 e1 hi => he i H1 e1 (by omega)
  have h2 := evG_sumL (K := K) h1
  have e : ((m : Int)).toNat = m := by omega
  rw [e, sum_sumI] at h2
  exact h2
abbrev s_law_sums_asked : Stmt := topS 59
abbrev n_law_sums_asked : List Str := ["_law_hand_here", "_law_n", "_law_rest", "_law_counts_here", "_law_ones", "_law_divisor", "_law_one"]
abbrev p_law_sums_asked : List Str := ["_law_hand_here"]
theorem sc_law_sums_asked : FnScope n_law_sums_asked p_law_sums_asked (defScope s_law_sums_asked) := ⟨rfl, rfl, rfl, by decide +kernel, rfl, by decide +kernel, by decide +kernel⟩
-- 0 _law_hand_here 1 _law_n 2 _law_rest 3 _law_counts_here 4 _law_ones 5 _law_divisor 6 _law_one
def sp_law_sums_asked : Sp := fun vs H Q _ => ∃ (p : Addr), vs = [.ref p] ∧ HandAt H p ∧ ∀ H', Exx p H H' → HandAt H' p → Q (.bl true) H'
theorem ok_law_sums_asked {f : Addr} {fd : FuncData} (F : Fun K "_law_sums_asked" "_law_sums_asked" s_law_sums_asked f fd) (T : Txt mg)
    (c_law_take : C_law_take P w K mg base) (c_law_counts : C_law_counts P w K mg base) (c_law_choose : C_law_choose P w K mg base) (c_common_divisor : C_common_divisor P w K mg base) (c_size_of : C_size_of P w K mg base) (c_size_by_ones : C_size_by_ones P w K mg base) : FnOk P w K mg base CX0 6 f fd p_law_sums_asked sp_law_sums_asked := by
  refine F.ok sc_law_sums_asked (fun vs H Q E h => ?_) (fun cdv A outer s H vs Q E hr h => ?_)
  · obtain ⟨p, rfl, _⟩ := h
    rfl
  · obtain ⟨p, rfl, hh, k⟩ := h
    refine ⟨_, (pss_cons (ps_set (i := 1) sc_law_sums_asked.nd rfl (by first | exact Or.inl rfl | exact Or.inr rfl) (pe_ifExp (pt_cmpR op_gt (pe_c c_law_take hr (by rfl) (pa_cons (pv 0) (pa_cons pe_int pa_nil))) pe_int (nomark _)) (pe_c c_law_take hr (by rfl) (pa_cons (pv 0) (pa_cons pe_int pa_nil))) (pe_op op_sub pe_int (pe_c c_law_take hr (by rfl) (pa_cons (pv 0) (pa_cons pe_int pa_nil))))))
      (pss_cons (ps_set (i := 2) sc_law_sums_asked.nd rfl (by first | exact Or.inl rfl | exact Or.inr rfl) (pe_c c_law_take hr (by rfl) (pa_cons (pv 0) (pa_cons (pe_op op_add (pv 1) pe_int) pa_nil))))
      (pss_cons (ps_set (i := 3) sc_law_sums_asked.nd rfl (by first | exact Or.inl rfl | exact Or.inr rfl) (pe_c c_law_counts hr (by rfl) (pa_cons (pv 1) (pa_cons (pe_op op_add (pv 1) pe_int) pa_nil))))
      (pss_cons (ps_if (PW.pt (pw_or (pt_cmpR op_ne (pe_callB (cr_sumK (K := K) rfl rfl) (by rfl) T.sum_ boot_sum (pa_cons (pe_lc (own := [("_law_ones", 4)]) rfl sc_law_sums_asked.nd (pi_range1 (by rfl) T.range_ (pa_cons (pe_op op_add (pv 1) pe_int) pa_nil)) (blkOk_by (own := [("_law_ones", 4)]) (N := n_law_sums_asked) (sc := defScope s_law_sums_asked) (by decide +kernel)) (fun _ _ _ _ _ => (pg_name (i := 4) sc_law_sums_asked.nd rfl (by first | exact Or.inl rfl | exact Or.inr rfl))) (fun _ _ _ _ _ => pts_nil) (fun _ _ _ _ _ => (pe_c c_size_by_ones hr (by rfl) (pa_cons (pv 1) (pa_cons (pv 2) (pa_cons (pv 4) pa_nil)))))) pa_nil)) (pe_ix (ix_listK (K := K) rfl) (pv 3) (pv 2) (fun _ _ => rfl)) (nomark _)) (pw_or1 (pt_cmpR op_ne (pe_c c_size_of hr (by rfl) (pa_cons (pv 1) (pa_cons (pv 2) pa_nil))) (pe_ix (ix_listK (K := K) rfl) (pv 3) (pv 2) (fun _ _ => rfl)) (nomark _)))))
      (pss_one (ps_ret pe_bl))
      pss_nil)
      (pss_cons (ps_set (i := 4) sc_law_sums_asked.nd rfl (by first | exact Or.inl rfl | exact Or.inr rfl) (pe_c c_law_take hr (by rfl) (pa_cons (pv 0) (pa_cons (pe_op op_add (pv 1) pe_int) pa_nil))))
      (pss_cons (ps_if (pt_cmpR op_ne (pe_callB (cr_sumK (K := K) rfl rfl) (by rfl) T.sum_ boot_sum (pa_cons (pe_lc (own := [("_law_one", 6)]) rfl sc_law_sums_asked.nd (pi_range1 (by rfl) T.range_ (pa_cons (pe_op op_add (pv 1) pe_int) pa_nil)) (blkOk_by (own := [("_law_one", 6)]) (N := n_law_sums_asked) (sc := defScope s_law_sums_asked) (by decide +kernel)) (fun _ _ _ _ _ => (pg_name (i := 6) sc_law_sums_asked.nd rfl (by first | exact Or.inl rfl | exact Or.inr rfl))) (fun _ _ _ _ _ => pts_nil) (fun _ _ _ _ _ => (pe_c c_size_by_ones hr (by rfl) (pa_cons (pv 1) (pa_cons (pv 6) (pa_cons (pv 4) pa_nil)))))) pa_nil)) (pe_c c_law_choose hr (by rfl) (pa_cons (pv 1) (pa_cons (pv 4) pa_nil))) (nomark _))
      (pss_one (ps_ret pe_bl))
      pss_nil)
      (pss_cons (ps_set (i := 5) sc_law_sums_asked.nd rfl (by first | exact Or.inl rfl | exact Or.inr rfl) (pe_c c_common_divisor hr (by rfl) (pa_cons (pe_op op_add (pv 1) pe_int) (pa_cons (pv 2) pa_nil))))
      (pss_one (ps_ret (pe_cmpR op_eq (pe_c c_size_of hr (by rfl) (pa_cons (pv 1) (pa_cons (pe_op op_mod (pe_callTy cr_int (by rfl) T.int_ boot_int (pa_cons (pv 5) pa_nil)) (pe_op op_add (pv 1) pe_int)) pa_nil))) (pe_ix (ix_listK (K := K) rfl) (pv 3) (pv 2) (fun _ _ => rfl)) (nomark _))))))))))), ?_⟩
    refine q_asgX (Po := fun v => ∃ n : Nat, v = .int (n : Int) ∧ n ≤ 60) (evX_pick (g := fun i j => .int (i - j)) (m1 := 8) (m2 := 16) (m3 := 45) (c := 60) rfl ⟨by decide, by decide⟩ ⟨by decide, by decide⟩ ⟨by decide, by decide⟩ (fun z hz => ⟨z, rfl, by omega⟩) fun z hz => ⟨60 - z, congrArg V.int (by omega), by omega⟩) hh fun v0 H1 x1 hh1 ⟨n, ev, hn⟩ => ?_
    subst ev
    refine q_asgX (evX_take (m := (n : Int) + 1) rfl (by omega) (by omega) (evX_of fun H => ev_add (ev_var rfl) ev_c)) hh1 fun v1 H2 x2 hh2 ⟨r, ev, hr'⟩ => ?_
    subst ev
    have hrn : r ≤ n := by omega
    let σ1 : L2.St := [some (.ref p), some (.int (n : Int)), some (.int (r : Int)), none, none, none, none]
    have vn : ∀ {H : Hp}, Ev (tVar 1) σ1 H (.int (n : Int)) := ev_var rfl
    refine q_asgG (evG_call (E := E0) (ea_cons (vn (H := H2)) (ea_cons (ev_add vn (ev_c (v := .int 1))) ea_nil)) (sv_law_counts (n := n) (by omega))) fun v4 H3 e3 ⟨cr, ev, hcr⟩ => ?_
    subst ev
    let σ2 : L2.St := [some (.ref p), some (.int (n : Int)), some (.int (r : Int)), some (.ref cr), none, none, none]
    have un : ∀ {H : Hp}, Ev (tVar 1) σ2 H (.int (n : Int)) := ev_var rfl
    have ur : ∀ {H : Hp}, Ev (tVar 2) σ2 H (.int (r : Int)) := ev_var rfl
    have hnn : ∀ z : Int, V.bl (!decide (z = z)) = V.bl false := fun z => by simp
    have so := sum_ones hn hrn
    have z1 := cF_size (n := n) (by omega) hrn
    have scd := size_cd (n := n) (by omega) hrn
    have en : (n : Int) + 1 = ((n + 1 : Nat) : Int) := rfl
    have w1 := ev_sumR (K := K) (σ := σ2) (H := H3) (tr := tCons (tOp (rI0 fun i j => .int (i + j)) (tVar 1) (tC (.int 1))) tNil) (te := tCall sp_size_by_ones [] E0 (tCons (tVar 1) (tCons (tVar 2) (tCons (tVar 4) tNil)))) (j := 4) (vs := [4]) (m := n + 1) (fun k => sboM n r k) (ea_cons (ev_add un (ev_c (v := .int 1))) ea_nil) en (by omega) (fun _ => rfl)
      (fun i H4 e4 hi => ev_call (ea_cons (ev_var (v := .int (n : Int)) rfl) (ea_cons (ev_var (v := .int (r : Int)) rfl) (ea_cons (ev_var (v := .int (i : Int)) rfl) ea_nil))) (sv_size_by_ones (by omega) hrn (by omega)))
    rw [so] at w1
    have w2 := fun (H : Hp) (h : H cr = some (.lst ((cRow n n).map V.int))) => ev_ixL (K := K) (evG_varL (σ := σ2) (k := 3) rfl h) ur (cRow_at hrn)
    have w3 := ev_call (E := E0) (ea_cons (un (H := H3)) (ea_cons ur ea_nil)) (sv_size_of (n := n) (r := r) (by omega) hrn)
    rw [← z1] at w3
    refine q_pass (et_is (et_or (a := false) (b := false) (et_test (ev_is (ev_ne w1 (w2 H3 hcr)) (hnn _))) fun _ => et_test (ev_is (ev_ne w3 (w2 H3 hcr)) (hnn _))) (b := false) rfl) rfl fun H4 e4 => ?_
    have hcr4 := e4 cr _ hcr
    have hh4 := hh2.ex (e3.trans e4)
    have ncr : cr ≠ p := by
      obtain ⟨c, cells, pos, rst, tot, hp, _⟩ := id hh4
      exact hand_ne hp hcr4
    refine q_asgX (evX_take (m := (n : Int) + 1) rfl (by omega) (by omega) (evX_of fun H => ev_add (ev_var rfl) ev_c)) hh4 fun v5 H5 x5 hh5 ⟨o, ev, ho'⟩ => ?_
    subst ev
    have hon : o ≤ n := by omega
    have hcr5 := x5 cr _ ncr hcr4
    let σ3 : L2.St := [some (.ref p), some (.int (n : Int)), some (.int (r : Int)), some (.ref cr), some (.int (o : Int)), none, none]
    have yn : ∀ {H : Hp}, Ev (tVar 1) σ3 H (.int (n : Int)) := ev_var rfl
    have yr : ∀ {H : Hp}, Ev (tVar 2) σ3 H (.int (r : Int)) := ev_var rfl
    have yo : ∀ {H : Hp}, Ev (tVar 4) σ3 H (.int (o : Int)) := ev_var rfl
    have sr := sum_rests hn hon
    have w4 := ev_sumR (K := K) (σ := σ3) (H := H5) (tr := tCons (tOp (rI0 fun i j => .int (i + j)) (tVar 1) (tC (.int 1))) tNil) (te := tCall sp_size_by_ones [] E0 (tCons (tVar 1) (tCons (tVar 6) (tCons (tVar 4) tNil)))) (j := 6) (vs := [6]) (m := n + 1) (fun i => sboM n i o) (ea_cons (ev_add yn (ev_c (v := .int 1))) ea_nil) en (by omega) (fun _ => rfl)
      (fun i H6 e6 hi => ev_call (ea_cons (ev_var (v := .int (n : Int)) rfl) (ea_cons (ev_var (v := .int (i : Int)) rfl) (ea_cons (ev_var (v := .int (o : Int)) rfl) ea_nil))) (sv_size_by_ones (by omega) (by omega) hon))
    rw [sr] at w4
    have w5 := ev_call (E := E0) (ea_cons (yn (H := H5)) (ea_cons yo ea_nil)) (sv_law_choose (m := n) (t := o) hon (by omega))
    refine q_pass (et_test (ev_is (ev_ne w4 w5) (hnn _))) rfl fun H6 e6 => ?_
    refine q_asg (ev_call (E := E0) (ea_cons (ev_is (ev_add (yn (H := H6)) (ev_c (v := .int 1))) (congrArg V.int en)) (ea_cons yr ea_nil)) (sv_common_divisor (a := n + 1) (b := r) (by omega) (by omega))) fun H7 e7 => ?_
    let σ4 : L2.St := [some (.ref p), some (.int (n : Int)), some (.int (r : Int)), some (.ref cr), some (.int (o : Int)), some (.int ((Nat.gcd (n + 1) r : Nat) : Int)), none]
    have hcr7 := e7 cr _ (e6 cr _ hcr5)
    have eg : ((Nat.gcd (n + 1) r : Nat) : Int) % ((n : Int) + 1) = ((Nat.gcd (n + 1) r % (n + 1) : Nat) : Int) := by
      rw [Int.natCast_emod]
      rfl
    have tn : ∀ {H : Hp}, Ev (tVar 1) σ4 H (.int (n : Int)) := ev_var rfl
    have tr' : ∀ {H : Hp}, Ev (tVar 2) σ4 H (.int (r : Int)) := ev_var rfl
    have tg : ∀ {H : Hp}, Ev (tVar 5) σ4 H (.int ((Nat.gcd (n + 1) r : Nat) : Int)) := ev_var rfl
    have w6 := ev_call (E := E0) (ea_cons (tn (H := H7)) (ea_cons (ev_is (ev_mod (ev_int1 tg) (ev_add tn (ev_c (v := .int 1))) (by omega)) (congrArg V.int eg)) ea_nil)) (sv_size_of (n := n) (r := Nat.gcd (n + 1) r % (n + 1)) (by omega) (Nat.le_of_lt_succ (Nat.mod_lt _ (by omega))))
    rw [scd] at w6
    have w7 := ev_ixL (K := K) (evG_varL (σ := σ4) (k := 3) rfl hcr7) tr' (cRow_at hrn)
    exact s_ret (ev_is (ev_eq w6 w7) (congrArg V.bl (decide_eq_true rfl))) fun H8 e8 => k H8 (((((x1.trans x2).trans (.of (e3.trans e4))).trans x5).trans (.of ((e6.trans e7).trans e8)))) (hh5.ex ((e6.trans e7).trans e8))
/-! ### law -/
abbrev s_law : Stmt := topS 60
abbrev n_law : List Str := ["_law_script", "_law_hand_here"]
abbrev p_law : List Str := ["_law_script"]
theorem sc_law : FnScope n_law p_law (defScope s_law) := ⟨rfl, rfl, rfl, by decide +kernel, rfl, by decide +kernel, by decide +kernel⟩
-- 0 _law_script 1 _law_hand_here
def C_rings (P : Program) (w : World) (K : PySem.W.Frag) (mg : Str → Option Value) (base : Heap) := Cal P w K mg base 7 "_law_rings_asked" p_law_rings_asked [] sp_law_rings_asked
def C_books (P : Program) (w : World) (K : PySem.W.Frag) (mg : Str → Option Value) (base : Heap) := Cal P w K mg base 6 "_law_books_asked" p_law_books_asked [] sp_law_books_asked
def C_sums (P : Program) (w : World) (K : PySem.W.Frag) (mg : Str → Option Value) (base : Heap) := Cal P w K mg base 6 "_law_sums_asked" p_law_sums_asked [] sp_law_sums_asked
def sp_law (K : PySem.W.Frag) : Sp := fun vs H Q _ => ∃ (a : Addr) (ns : List Int), vs = [.ref a] ∧ SqL K H a (ns.map V.int) ∧ ns.length ≤ 63 ∧ ∀ H', Q (.bl true) H'
theorem ok_law {f : Addr} {fd : FuncData} (F : Fun K "law" "law" s_law f fd) (c_law_hand : C_law_hand P w K mg base) (c_law_rings_asked : C_rings P w K mg base) (c_law_books_asked : C_books P w K mg base) (c_law_sums_asked : C_sums P w K mg base) : FnOk P w K mg base CX0 8 f fd p_law (sp_law K) := by
  refine F.ok sc_law (fun vs H Q E h => ?_) (fun cdv A outer s H vs Q E hr h => ?_)
  · obtain ⟨a, ns, rfl, _⟩ := h
    rfl
  · obtain ⟨a, ns, rfl, ha, hl, k⟩ := h
    refine ⟨_, (pss_cons (ps_set (i := 1) sc_law.nd rfl (by first | exact Or.inl rfl | exact Or.inr rfl) (pe_c c_law_hand hr (by rfl) (pa_cons (pv 0) pa_nil)))
      (pss_cons (ps_if (pt_not (pt_val (pe_c c_law_rings_asked hr (by rfl) (pa_cons (pv 1) pa_nil))))
      (pss_one (ps_ret pe_bl))
      pss_nil)
      (pss_one (ps_ret (pe_and (pe_c c_law_books_asked hr (by rfl) (pa_cons (pv 1) pa_nil)) (pe_one (pe_c c_law_sums_asked hr (by rfl) (pa_cons (pv 1) pa_nil)))))))), ?_⟩
    refine q_asgG (evG_call (E := E0) (ea_cons (ev_var rfl) ea_nil) (sv_law_hand ha hl)) fun v H1 e1 ⟨p, ev, hh⟩ => ?_
    subst ev
    refine ⟨.ref p, rfl, p, rfl, hh, fun H2 x2 hh2 => ⟨true, rfl, ?_⟩⟩
    refine ⟨.ref p, rfl, p, rfl, hh2, fun H3 x3 hh3 => ⟨true, rfl, ?_⟩⟩
    exact ⟨.ref p, rfl, p, rfl, hh3, fun H4 _ _ => k H4⟩
end
end K47

set_option maxHeartbeats 4000000
namespace K47
open PySem PySem.Spec PyProof.Rows L2 Evl
/-! ### what the top has written -/
theorem rec_at {K : PySem.W.Frag} {p g : Addr} {od : Option Addr} {vs : Array Value} {sl : Array (Option Value)} {rest : List Value} (l : K.lookup p = some ⟨.type "property", od, .fields vs, sl⟩) (e : vs.toList = .ref g :: rest) : ∃ rest, PySem.W.recIn K p "property" = some (.ref g :: rest) := by
  refine ⟨rest, ?_⟩
  unfold PySem.W.recIn
  rw [l]
  simp only [e]
  rfl
theorem int_at {K : PySem.W.Frag} {x : Str} {v : Int} {t : Tok} (h : PySem.W.nsIn K mainGlobals x = some (some (.int v t))) : ∃ t, PySem.W.nsIn K mainGlobals x = some (some (.int v t)) := ⟨t, h⟩
theorem fund_mk {K : PySem.W.Frag} {x qual : Str} {st : Stmt} {f T : Addr} {oc cl : Value} {od od2 an : Option Addr} {osl sl2 : Array (Option Value)} {kV doc pm cdv ct : Value} {arr : Array Value} {n : Nat} {dvs : List V} {its : List Value}
    (hne : dvs ≠ []) (l : K.lookup f = some ⟨oc, od, .func (PySem.W.fnOf x qual (defArgs st) (defBody st) (defScope st) (.ref T) kV doc pm an cdv ct), osl⟩) (c : PySem.W.codeIn K cdv qual = true) (k : PySem.W.keepIn K (.ref f) = true)
    (t : K.lookup T = some ⟨cl, od2, .seq arr n, sl2⟩) (e : arr = its.toArray) (r : Vals dvs its) : ∃ fd, FunD K x qual (defArgs st) (defBody st) (defScope st) dvs [] f fd :=
  ⟨_, ⟨⟨_, _, _, _, _, _, _, _, _, _, rfl, l, c, .inr ⟨hne, T, _, its, n, rfl, t, by rw [e], r⟩, .inl rfl⟩, k⟩⟩
theorem all_mk {w : World} {K : PySem.W.Frag} {h : Heap} {mg : Str → Option Value} {fa : Addr} {C fI fF pF fT fC : Addr} {f_check_number : Addr} {f_power_of : Addr} {f_choose_of : Addr} {f_divisors_of : Addr} {f_prime_powers : Addr} {f_phi_of : Addr} {f_mu_of : Addr} {f_common_divisor : Addr} {f_ram_of : Addr} {f_check_sized : Addr} {f_size_of : Addr} {f_size_by_ones : Addr} {f_single_rings : Addr} {f_check_ring : Addr} {f_rotations_of : Addr} {f_repeats_of : Addr} {f_is_least : Addr} {f_odd_rings : Addr} {f_rings_for : Addr} {f_sum_places : Addr} {f_check_modulus : Addr} {f_check_rest : Addr} {f_every_word : Addr} {f_law_mixed : Addr} {f_law_hand : Addr} {f_law_take : Addr} {f_law_whole : Addr} {f_law_is_number : Addr} {f_law_choose : Addr} {f_law_counts : Addr} {f_law_with_ones : Addr} {f_law_sums_asked : Addr} {f_law_rings_asked : Addr} {f_law_books_asked : Addr} {f_sum_members : Addr} {f_law : Addr} {f_is_whole : Addr} {f_check_word : Addr} (X : K.In h) (G : h.Ns mainGlobals mg) (hfa : mg "law" = some (.ref fa))
    (a_check_number : PySem.W.nsIn K mainGlobals "check_number" = some (some (.ref f_check_number)))
    (F_check_number : ∃ fd, Fun K "check_number" "check_number" s_check_number f_check_number fd)
    (a_power_of : PySem.W.nsIn K mainGlobals "power_of" = some (some (.ref f_power_of)))
    (F_power_of : ∃ fd, Fun K "power_of" "power_of" s_power_of f_power_of fd)
    (a_choose_of : PySem.W.nsIn K mainGlobals "choose_of" = some (some (.ref f_choose_of)))
    (F_choose_of : ∃ fd, Fun K "choose_of" "choose_of" s_choose_of f_choose_of fd)
    (a_divisors_of : PySem.W.nsIn K mainGlobals "divisors_of" = some (some (.ref f_divisors_of)))
    (F_divisors_of : ∃ fd, Fun K "divisors_of" "divisors_of" s_divisors_of f_divisors_of fd)
    (a_prime_powers : PySem.W.nsIn K mainGlobals "prime_powers" = some (some (.ref f_prime_powers)))
    (F_prime_powers : ∃ fd, Fun K "prime_powers" "prime_powers" s_prime_powers f_prime_powers fd)
    (a_phi_of : PySem.W.nsIn K mainGlobals "phi_of" = some (some (.ref f_phi_of)))
    (F_phi_of : ∃ fd, Fun K "phi_of" "phi_of" s_phi_of f_phi_of fd)
    (a_mu_of : PySem.W.nsIn K mainGlobals "mu_of" = some (some (.ref f_mu_of)))
    (F_mu_of : ∃ fd, Fun K "mu_of" "mu_of" s_mu_of f_mu_of fd)
    (a_common_divisor : PySem.W.nsIn K mainGlobals "common_divisor" = some (some (.ref f_common_divisor)))
    (F_common_divisor : ∃ fd, Fun K "common_divisor" "common_divisor" s_common_divisor f_common_divisor fd)
    (a_ram_of : PySem.W.nsIn K mainGlobals "ram_of" = some (some (.ref f_ram_of)))
    (F_ram_of : ∃ fd, Fun K "ram_of" "ram_of" s_ram_of f_ram_of fd)
    (a_check_sized : PySem.W.nsIn K mainGlobals "check_sized" = some (some (.ref f_check_sized)))
    (F_check_sized : ∃ fd, Fun K "check_sized" "check_sized" s_check_sized f_check_sized fd)
    (a_size_of : PySem.W.nsIn K mainGlobals "size_of" = some (some (.ref f_size_of)))
    (F_size_of : ∃ fd, Fun K "size_of" "size_of" s_size_of f_size_of fd)
    (a_size_by_ones : PySem.W.nsIn K mainGlobals "size_by_ones" = some (some (.ref f_size_by_ones)))
    (F_size_by_ones : ∃ fd, Fun K "size_by_ones" "size_by_ones" s_size_by_ones f_size_by_ones fd)
    (a_single_rings : PySem.W.nsIn K mainGlobals "single_rings" = some (some (.ref f_single_rings)))
    (F_single_rings : ∃ fd, Fun K "single_rings" "single_rings" s_single_rings f_single_rings fd)
    (a_check_ring : PySem.W.nsIn K mainGlobals "check_ring" = some (some (.ref f_check_ring)))
    (F_check_ring : ∃ fd, Fun K "check_ring" "check_ring" s_check_ring f_check_ring fd)
    (a_rotations_of : PySem.W.nsIn K mainGlobals "rotations_of" = some (some (.ref f_rotations_of)))
    (F_rotations_of : ∃ fd, Fun K "rotations_of" "rotations_of" s_rotations_of f_rotations_of fd)
    (a_repeats_of : PySem.W.nsIn K mainGlobals "repeats_of" = some (some (.ref f_repeats_of)))
    (F_repeats_of : ∃ fd, Fun K "repeats_of" "repeats_of" s_repeats_of f_repeats_of fd)
    (a_is_least : PySem.W.nsIn K mainGlobals "is_least" = some (some (.ref f_is_least)))
    (F_is_least : ∃ fd, Fun K "is_least" "is_least" s_is_least f_is_least fd)
    (a_odd_rings : PySem.W.nsIn K mainGlobals "odd_rings" = some (some (.ref f_odd_rings)))
    (F_odd_rings : ∃ fd, Fun K "odd_rings" "odd_rings" s_odd_rings f_odd_rings fd)
    (a_rings_for : PySem.W.nsIn K mainGlobals "rings_for" = some (some (.ref f_rings_for)))
    (F_rings_for : ∃ fd, Fun K "rings_for" "rings_for" s_rings_for f_rings_for fd)
    (a_sum_places : PySem.W.nsIn K mainGlobals "sum_places" = some (some (.ref f_sum_places)))
    (F_sum_places : ∃ fd, Fun K "sum_places" "sum_places" s_sum_places f_sum_places fd)
    (a_check_modulus : PySem.W.nsIn K mainGlobals "check_modulus" = some (some (.ref f_check_modulus)))
    (F_check_modulus : ∃ fd, Fun K "check_modulus" "check_modulus" s_check_modulus f_check_modulus fd)
    (a_check_rest : PySem.W.nsIn K mainGlobals "check_rest" = some (some (.ref f_check_rest)))
    (F_check_rest : ∃ fd, Fun K "check_rest" "check_rest" s_check_rest f_check_rest fd)
    (a_every_word : PySem.W.nsIn K mainGlobals "every_word" = some (some (.ref f_every_word)))
    (F_every_word : ∃ fd, Fun K "every_word" "every_word" s_every_word f_every_word fd)
    (a_law_mixed : PySem.W.nsIn K mainGlobals "_law_mixed" = some (some (.ref f_law_mixed)))
    (F_law_mixed : ∃ fd, Fun K "_law_mixed" "_law_mixed" s_law_mixed f_law_mixed fd)
    (a_law_hand : PySem.W.nsIn K mainGlobals "_law_hand" = some (some (.ref f_law_hand)))
    (F_law_hand : ∃ fd, Fun K "_law_hand" "_law_hand" s_law_hand f_law_hand fd)
    (a_law_take : PySem.W.nsIn K mainGlobals "_law_take" = some (some (.ref f_law_take)))
    (F_law_take : ∃ fd, Fun K "_law_take" "_law_take" s_law_take f_law_take fd)
    (a_law_whole : PySem.W.nsIn K mainGlobals "_law_whole" = some (some (.ref f_law_whole)))
    (F_law_whole : ∃ fd, Fun K "_law_whole" "_law_whole" s_law_whole f_law_whole fd)
    (a_law_is_number : PySem.W.nsIn K mainGlobals "_law_is_number" = some (some (.ref f_law_is_number)))
    (F_law_is_number : ∃ fd, Fun K "_law_is_number" "_law_is_number" s_law_is_number f_law_is_number fd)
    (a_law_choose : PySem.W.nsIn K mainGlobals "_law_choose" = some (some (.ref f_law_choose)))
    (F_law_choose : ∃ fd, Fun K "_law_choose" "_law_choose" s_law_choose f_law_choose fd)
    (a_law_counts : PySem.W.nsIn K mainGlobals "_law_counts" = some (some (.ref f_law_counts)))
    (F_law_counts : ∃ fd, Fun K "_law_counts" "_law_counts" s_law_counts f_law_counts fd)
    (a_law_with_ones : PySem.W.nsIn K mainGlobals "_law_with_ones" = some (some (.ref f_law_with_ones)))
    (F_law_with_ones : ∃ fd, Fun K "_law_with_ones" "_law_with_ones" s_law_with_ones f_law_with_ones fd)
    (a_law_sums_asked : PySem.W.nsIn K mainGlobals "_law_sums_asked" = some (some (.ref f_law_sums_asked)))
    (F_law_sums_asked : ∃ fd, Fun K "_law_sums_asked" "_law_sums_asked" s_law_sums_asked f_law_sums_asked fd)
    (a_law_rings_asked : PySem.W.nsIn K mainGlobals "_law_rings_asked" = some (some (.ref f_law_rings_asked)))
    (F_law_rings_asked : ∃ fd, Fun K "_law_rings_asked" "_law_rings_asked" s_law_rings_asked f_law_rings_asked fd)
    (a_law_books_asked : PySem.W.nsIn K mainGlobals "_law_books_asked" = some (some (.ref f_law_books_asked)))
    (F_law_books_asked : ∃ fd, Fun K "_law_books_asked" "_law_books_asked" s_law_books_asked f_law_books_asked fd)
    (a_sum_members : PySem.W.nsIn K mainGlobals "sum_members" = some (some (.ref f_sum_members)))
    (F_sum_members : ∃ fd, Fun K "sum_members" "sum_members" s_sum_members f_sum_members fd)
    (a_law : PySem.W.nsIn K mainGlobals "law" = some (some (.ref f_law)))
    (F_law : ∃ fd, Fun K "law" "law" s_law f_law fd)
    (a_is_whole : PySem.W.nsIn K mainGlobals "is_whole" = some (some (.ref f_is_whole)))
    (F_is_whole : ∃ fd, FunD K "is_whole" "is_whole" (defArgs s_is_whole) (defBody s_is_whole) (defScope s_is_whole) [.non, .non] [] f_is_whole fd)
    (a_check_word : PySem.W.nsIn K mainGlobals "check_word" = some (some (.ref f_check_word)))
    (F_check_word : ∃ fd, FunD K "check_word" "check_word" (defArgs s_check_word) (defBody s_check_word) (defScope s_check_word) [.int 24] [] f_check_word fd)
    (aC : PySem.W.nsIn K mainGlobals "SumBook" = some (some (.ref C)))
    (m_init : PySem.W.findIn K (.ref C) "__init__" = some (some (.ref fI)))
    (i_init : PySem.W.isFn K (.ref fI) = true)
    (F_SumBook_init : ∃ fd, Fun K "__init__" "SumBook.__init__" s_SumBook___init fI fd)
    (m_full : PySem.W.findIn K (.ref C) "is_full" = some (some (.ref pF)))
    (g_full : PySem.W.specialIn K (.ref pF) "__get__" = some (some (.builtin "property.__get__")))
    (t_full : PySem.W.takesIn K (.ref pF) = some true)
    (r_full : ∃ rest, PySem.W.recIn K pF "property" = some (.ref fF :: rest))
    (F_SumBook_full : ∃ fd, Fun K "is_full" "SumBook.is_full" s_SumBook_is_full fF fd)
    (m_turned : PySem.W.findIn K (.ref C) "turned" = some (some (.ref fT)))
    (i_turned : PySem.W.isFn K (.ref fT) = true)
    (F_SumBook_turned : ∃ fd, Fun K "turned" "SumBook.turned" s_SumBook_turned fT fd)
    (m_contrary : PySem.W.findIn K (.ref C) "contrary" = some (some (.ref fC)))
    (i_contrary : PySem.W.isFn K (.ref fC) = true)
    (F_SumBook_contrary : ∃ fd, Fun K "contrary" "SumBook.contrary" s_SumBook_contrary fC fd)
    (pg : PySem.W.plainGet K C Str.empty = true)
    (hdc : PySem.W.hasDictIn K C = true)
    (po : PySem.W.plainOver K C = true)
    (sa : PySem.W.findIn K (.ref C) "__setattr__" = some (some (.builtin "object.__setattr__")))
    (mk : PySem.W.makesIn K C = true)
    (kC : PySem.W.keepIn K (.ref C) = true)
    (nL : PySem.W.findIn K (.ref C) "length" = some none)
    (nM : PySem.W.findIn K (.ref C) "modulus" = some none)
    (nR : PySem.W.findIn K (.ref C) "rest" = some none)
    (z_len : PySem.W.nsIn K mainGlobals "len" = some none)
    (z_isinstance : PySem.W.nsIn K mainGlobals "isinstance" = some none)
    (z_int : PySem.W.nsIn K mainGlobals "int" = some none)
    (z_bool : PySem.W.nsIn K mainGlobals "bool" = some none)
    (z_list : PySem.W.nsIn K mainGlobals "list" = some none)
    (z_tuple : PySem.W.nsIn K mainGlobals "tuple" = some none)
    (z_range : PySem.W.nsIn K mainGlobals "range" = some none)
    (z_min : PySem.W.nsIn K mainGlobals "min" = some none)
    (z_sum : PySem.W.nsIn K mainGlobals "sum" = some none)
    (z_enumerate : PySem.W.nsIn K mainGlobals "enumerate" = some none)
    (z_abs : PySem.W.nsIn K mainGlobals "abs" = some none)
    (w_MOST_DIVIDED : ∃ t, PySem.W.nsIn K mainGlobals "MOST_DIVIDED" = some (some (.int 2000 t)))
    (w_MOST_RING : ∃ t, PySem.W.nsIn K mainGlobals "MOST_RING" = some (some (.int 10 t)))
    (w_MOST_SINGLE : ∃ t, PySem.W.nsIn K mainGlobals "MOST_SINGLE" = some (some (.int 201 t)))
    (w_MOST_SIZED : ∃ t, PySem.W.nsIn K mainGlobals "MOST_SIZED" = some (some (.int 200 t)))
    (w_MOST_LENGTH : ∃ t, PySem.W.nsIn K mainGlobals "MOST_LENGTH" = some (some (.int 200 t)))
    (w_MOST_MODULUS : ∃ t, PySem.W.nsIn K mainGlobals "MOST_MODULUS" = some (some (.int 1000000 t)))
    (w_MOST_WALKED : ∃ t, PySem.W.nsIn K mainGlobals "MOST_WALKED" = some (some (.int 14 t)))
    : ∃ fd : FuncData, (∀ (s : Shared) (v : Value), BindsTo s fd ⟨[v], []⟩ [("_law_script", v)]) ∧ ∀ base : Heap, K.In base → base.Ns mainGlobals mg → FnOk PySem.Challenge.rw_lostplaces_k47_whole_rings_and_members_o.prog w K mg base CX0 8 fa fd ["_law_script"] (sp_law K) := by
  have e := hfa.symm.trans (PySem.W.mg_of X G a_law)
  cases e
  have T : Txt mg := ⟨PySem.W.mg_none_of X G z_len, PySem.W.mg_none_of X G z_isinstance, PySem.W.mg_none_of X G z_int, PySem.W.mg_none_of X G z_bool, PySem.W.mg_none_of X G z_list, PySem.W.mg_none_of X G z_tuple, PySem.W.mg_none_of X G z_range, PySem.W.mg_none_of X G z_min, PySem.W.mg_none_of X G z_sum, PySem.W.mg_none_of X G z_enumerate, PySem.W.mg_none_of X G z_abs, w_MOST_DIVIDED.imp fun _ z => PySem.W.mg_of X G z, w_MOST_RING.imp fun _ z => PySem.W.mg_of X G z, w_MOST_SINGLE.imp fun _ z => PySem.W.mg_of X G z, w_MOST_SIZED.imp fun _ z => PySem.W.mg_of X G z, w_MOST_LENGTH.imp fun _ z => PySem.W.mg_of X G z, w_MOST_MODULUS.imp fun _ z => PySem.W.mg_of X G z, w_MOST_WALKED.imp fun _ z => PySem.W.mg_of X G z⟩
  obtain ⟨fd_SumBook_init, F_SumBook_init⟩ := F_SumBook_init
  obtain ⟨fd_SumBook_full, F_SumBook_full⟩ := F_SumBook_full
  obtain ⟨fd_SumBook_turned, F_SumBook_turned⟩ := F_SumBook_turned
  obtain ⟨fd_SumBook_contrary, F_SumBook_contrary⟩ := F_SumBook_contrary
  have B : Bk K mg C fI fF pF fT fC := ⟨⟨pg, hdc, po, sa⟩, nL, nM, nR, PySem.W.mg_of X G aC, ⟨mk, m_init, i_init, kC⟩, ⟨m_full, g_full, t_full, r_full⟩, ⟨m_turned, i_turned, F_SumBook_turned.kp⟩, ⟨m_contrary, i_contrary, F_SumBook_contrary.kp⟩⟩
  have b_init := F_SumBook_init.binds (ps := p_SumBook___init) fun _ _ _ _ _ _ us hl => match us, hl with | [_, _, _, _], _ => rfl
  have b_full := F_SumBook_full.binds (ps := p_SumBook_is_full) fun _ _ _ _ _ _ us hl => match us, hl with | [_], _ => rfl
  have b_turned := F_SumBook_turned.binds (ps := p_SumBook_turned) fun _ _ _ _ _ _ us hl => match us, hl with | [_], _ => rfl
  have b_contrary := F_SumBook_contrary.binds (ps := p_SumBook_contrary) fun _ _ _ _ _ _ us hl => match us, hl with | [_], _ => rfl
  obtain ⟨fd_check_number, F_check_number⟩ := F_check_number
  obtain ⟨fd_power_of, F_power_of⟩ := F_power_of
  obtain ⟨fd_choose_of, F_choose_of⟩ := F_choose_of
  obtain ⟨fd_divisors_of, F_divisors_of⟩ := F_divisors_of
  obtain ⟨fd_prime_powers, F_prime_powers⟩ := F_prime_powers
  obtain ⟨fd_phi_of, F_phi_of⟩ := F_phi_of
  obtain ⟨fd_mu_of, F_mu_of⟩ := F_mu_of
  obtain ⟨fd_common_divisor, F_common_divisor⟩ := F_common_divisor
  obtain ⟨fd_ram_of, F_ram_of⟩ := F_ram_of
  obtain ⟨fd_check_sized, F_check_sized⟩ := F_check_sized
  obtain ⟨fd_size_of, F_size_of⟩ := F_size_of
  obtain ⟨fd_size_by_ones, F_size_by_ones⟩ := F_size_by_ones
  obtain ⟨fd_single_rings, F_single_rings⟩ := F_single_rings
  obtain ⟨fd_check_ring, F_check_ring⟩ := F_check_ring
  obtain ⟨fd_rotations_of, F_rotations_of⟩ := F_rotations_of
  obtain ⟨fd_repeats_of, F_repeats_of⟩ := F_repeats_of
  obtain ⟨fd_is_least, F_is_least⟩ := F_is_least
  obtain ⟨fd_odd_rings, F_odd_rings⟩ := F_odd_rings
  obtain ⟨fd_rings_for, F_rings_for⟩ := F_rings_for
  obtain ⟨fd_sum_places, F_sum_places⟩ := F_sum_places
  obtain ⟨fd_check_modulus, F_check_modulus⟩ := F_check_modulus
  obtain ⟨fd_check_rest, F_check_rest⟩ := F_check_rest
  obtain ⟨fd_every_word, F_every_word⟩ := F_every_word
  obtain ⟨fd_law_mixed, F_law_mixed⟩ := F_law_mixed
  obtain ⟨fd_law_hand, F_law_hand⟩ := F_law_hand
  obtain ⟨fd_law_take, F_law_take⟩ := F_law_take
  obtain ⟨fd_law_whole, F_law_whole⟩ := F_law_whole
  obtain ⟨fd_law_is_number, F_law_is_number⟩ := F_law_is_number
  obtain ⟨fd_law_choose, F_law_choose⟩ := F_law_choose
  obtain ⟨fd_law_counts, F_law_counts⟩ := F_law_counts
  obtain ⟨fd_law_with_ones, F_law_with_ones⟩ := F_law_with_ones
  obtain ⟨fd_law_sums_asked, F_law_sums_asked⟩ := F_law_sums_asked
  obtain ⟨fd_law_rings_asked, F_law_rings_asked⟩ := F_law_rings_asked
  obtain ⟨fd_law_books_asked, F_law_books_asked⟩ := F_law_books_asked
  obtain ⟨fd_sum_members, F_sum_members⟩ := F_sum_members
  obtain ⟨fd_law, F_law⟩ := F_law
  obtain ⟨fd_is_whole, F_is_whole⟩ := F_is_whole
  obtain ⟨fd_check_word, F_check_word⟩ := F_check_word
  refine ⟨fd_law, fun s v => ?_, fun base _ _ => ?_⟩
  · obtain ⟨oc, od, kV, doc, pm, an, cdv, ct, osl, rfl, _, _⟩ := F_law.ex
    exact .of_eq rfl
  have D1 := F_is_whole.binds1 (ps := p_is_whole) 3 2 (by simp) rfl fun T kV doc pm an cdv ct us its hu hi => match us, its, hu, hi with | [_, _, _], [_, _], _, _ => ⟨_, rfl, rfl⟩
  obtain ⟨ds1, r1, b1⟩ := D1
  have D2 := F_check_word.binds1 (ps := p_check_word) 2 0 (by simp) rfl fun T kV doc pm an cdv ct us its hu hi => match us, its, hu, hi with | [_, _], [_], _, _ => ⟨_, rfl, rfl⟩
  obtain ⟨ds2, r2, b2⟩ := D2
  have c_is_whole : C_is_whole PySem.Challenge.rw_lostplaces_k47_whole_rings_and_members_o.prog w K mg base := ⟨_, _, ds1, ok_is_whole F_is_whole T, PySem.W.mg_of X G a_is_whole, F_is_whole.kp, b1, r1⟩
  have c_check_number : C_check_number PySem.Challenge.rw_lostplaces_k47_whole_rings_and_members_o.prog w K mg base := ⟨_, _, [], ok_check_number F_check_number T c_is_whole, PySem.W.mg_of X G a_check_number, F_check_number.kp, F_check_number.binds (ps := p_check_number) fun _ _ _ _ _ _ us hl => match us, hl with | [_, _, _], _ => rfl, .nil⟩
  have c_check_word : C_check_word PySem.Challenge.rw_lostplaces_k47_whole_rings_and_members_o.prog w K mg base := ⟨_, _, ds2, ok_check_word F_check_word T c_is_whole, PySem.W.mg_of X G a_check_word, F_check_word.kp, b2, r2⟩
  have c_power_of : C_power_of PySem.Challenge.rw_lostplaces_k47_whole_rings_and_members_o.prog w K mg base := ⟨_, _, [], ok_power_of F_power_of T, PySem.W.mg_of X G a_power_of, F_power_of.kp, F_power_of.binds (ps := p_power_of) fun _ _ _ _ _ _ us hl => match us, hl with | [_, _], _ => rfl, .nil⟩
  have c_choose_of : C_choose_of PySem.Challenge.rw_lostplaces_k47_whole_rings_and_members_o.prog w K mg base := ⟨_, _, [], ok_choose_of F_choose_of T, PySem.W.mg_of X G a_choose_of, F_choose_of.kp, F_choose_of.binds (ps := p_choose_of) fun _ _ _ _ _ _ us hl => match us, hl with | [_, _], _ => rfl, .nil⟩
  have c_divisors_of : C_divisors_of PySem.Challenge.rw_lostplaces_k47_whole_rings_and_members_o.prog w K mg base := ⟨_, _, [], ok_divisors_of F_divisors_of T c_check_number, PySem.W.mg_of X G a_divisors_of, F_divisors_of.kp, F_divisors_of.binds (ps := p_divisors_of) fun _ _ _ _ _ _ us hl => match us, hl with | [_], _ => rfl, .nil⟩
  have c_prime_powers : C_prime_powers PySem.Challenge.rw_lostplaces_k47_whole_rings_and_members_o.prog w K mg base := ⟨_, _, [], ok_prime_powers F_prime_powers T, PySem.W.mg_of X G a_prime_powers, F_prime_powers.kp, F_prime_powers.binds (ps := p_prime_powers) fun _ _ _ _ _ _ us hl => match us, hl with | [_], _ => rfl, .nil⟩
  have c_phi_of : C_phi_of PySem.Challenge.rw_lostplaces_k47_whole_rings_and_members_o.prog w K mg base := ⟨_, _, [], ok_phi_of F_phi_of T c_check_number c_prime_powers, PySem.W.mg_of X G a_phi_of, F_phi_of.kp, F_phi_of.binds (ps := p_phi_of) fun _ _ _ _ _ _ us hl => match us, hl with | [_], _ => rfl, .nil⟩
  have c_mu_of : C_mu_of PySem.Challenge.rw_lostplaces_k47_whole_rings_and_members_o.prog w K mg base := ⟨_, _, [], ok_mu_of F_mu_of T c_check_number c_prime_powers, PySem.W.mg_of X G a_mu_of, F_mu_of.kp, F_mu_of.binds (ps := p_mu_of) fun _ _ _ _ _ _ us hl => match us, hl with | [_], _ => rfl, .nil⟩
  have c_common_divisor : C_common_divisor PySem.Challenge.rw_lostplaces_k47_whole_rings_and_members_o.prog w K mg base := ⟨_, _, [], ok_common_divisor F_common_divisor T c_check_number, PySem.W.mg_of X G a_common_divisor, F_common_divisor.kp, F_common_divisor.binds (ps := p_common_divisor) fun _ _ _ _ _ _ us hl => match us, hl with | [_, _], _ => rfl, .nil⟩
  have c_ram_of : C_ram_of PySem.Challenge.rw_lostplaces_k47_whole_rings_and_members_o.prog w K mg base := ⟨_, _, [], ok_ram_of F_ram_of T c_check_number c_common_divisor c_phi_of c_mu_of, PySem.W.mg_of X G a_ram_of, F_ram_of.kp, F_ram_of.binds (ps := p_ram_of) fun _ _ _ _ _ _ us hl => match us, hl with | [_, _], _ => rfl, .nil⟩
  have c_check_sized : C_check_sized PySem.Challenge.rw_lostplaces_k47_whole_rings_and_members_o.prog w K mg base := ⟨_, _, [], ok_check_sized F_check_sized T c_is_whole c_check_number, PySem.W.mg_of X G a_check_sized, F_check_sized.kp, F_check_sized.binds (ps := p_check_sized) fun _ _ _ _ _ _ us hl => match us, hl with | [_, _], _ => rfl, .nil⟩
  have c_size_of : C_size_of PySem.Challenge.rw_lostplaces_k47_whole_rings_and_members_o.prog w K mg base := ⟨_, _, [], ok_size_of F_size_of T c_check_sized c_divisors_of c_ram_of c_power_of, PySem.W.mg_of X G a_size_of, F_size_of.kp, F_size_of.binds (ps := p_size_of) fun _ _ _ _ _ _ us hl => match us, hl with | [_, _], _ => rfl, .nil⟩
  have c_size_by_ones : C_size_by_ones PySem.Challenge.rw_lostplaces_k47_whole_rings_and_members_o.prog w K mg base := ⟨_, _, [], ok_size_by_ones F_size_by_ones T c_check_sized c_check_number c_divisors_of c_ram_of c_choose_of, PySem.W.mg_of X G a_size_by_ones, F_size_by_ones.kp, F_size_by_ones.binds (ps := p_size_by_ones) fun _ _ _ _ _ _ us hl => match us, hl with | [_, _, _], _ => rfl, .nil⟩
  have c_single_rings : C_single_rings PySem.Challenge.rw_lostplaces_k47_whole_rings_and_members_o.prog w K mg base := ⟨_, _, [], ok_single_rings F_single_rings T c_check_number c_divisors_of c_mu_of c_power_of, PySem.W.mg_of X G a_single_rings, F_single_rings.kp, F_single_rings.binds (ps := p_single_rings) fun _ _ _ _ _ _ us hl => match us, hl with | [_], _ => rfl, .nil⟩
  have c_check_ring : C_check_ring PySem.Challenge.rw_lostplaces_k47_whole_rings_and_members_o.prog w K mg base := ⟨_, _, [], ok_check_ring F_check_ring T c_check_word, PySem.W.mg_of X G a_check_ring, F_check_ring.kp, F_check_ring.binds (ps := p_check_ring) fun _ _ _ _ _ _ us hl => match us, hl with | [_], _ => rfl, .nil⟩
  have c_rotations_of : C_rotations_of PySem.Challenge.rw_lostplaces_k47_whole_rings_and_members_o.prog w K mg base := ⟨_, _, [], ok_rotations_of F_rotations_of T c_check_ring, PySem.W.mg_of X G a_rotations_of, F_rotations_of.kp, F_rotations_of.binds (ps := p_rotations_of) fun _ _ _ _ _ _ us hl => match us, hl with | [_], _ => rfl, .nil⟩
  have c_repeats_of : C_repeats_of PySem.Challenge.rw_lostplaces_k47_whole_rings_and_members_o.prog w K mg base := ⟨_, _, [], ok_repeats_of F_repeats_of T c_check_ring c_rotations_of, PySem.W.mg_of X G a_repeats_of, F_repeats_of.kp, F_repeats_of.binds (ps := p_repeats_of) fun _ _ _ _ _ _ us hl => match us, hl with | [_], _ => rfl, .nil⟩
  have c_is_least : C_is_least PySem.Challenge.rw_lostplaces_k47_whole_rings_and_members_o.prog w K mg base := ⟨_, _, [], ok_is_least F_is_least T, PySem.W.mg_of X G a_is_least, F_is_least.kp, F_is_least.binds (ps := p_is_least) fun _ _ _ _ _ _ us hl => match us, hl with | [_], _ => rfl, .nil⟩
  have c_odd_rings : C_odd_rings PySem.Challenge.rw_lostplaces_k47_whole_rings_and_members_o.prog w K mg base := ⟨_, _, [], ok_odd_rings F_odd_rings T c_check_number c_is_least, PySem.W.mg_of X G a_odd_rings, F_odd_rings.kp, F_odd_rings.binds (ps := p_odd_rings) fun _ _ _ _ _ _ us hl => match us, hl with | [_], _ => rfl, .nil⟩
  have c_rings_for : C_rings_for PySem.Challenge.rw_lostplaces_k47_whole_rings_and_members_o.prog w K mg base := ⟨_, _, [], ok_rings_for F_rings_for T c_is_whole c_check_number c_odd_rings c_repeats_of, PySem.W.mg_of X G a_rings_for, F_rings_for.kp, F_rings_for.binds (ps := p_rings_for) fun _ _ _ _ _ _ us hl => match us, hl with | [_, _], _ => rfl, .nil⟩
  have c_sum_places : C_sum_places PySem.Challenge.rw_lostplaces_k47_whole_rings_and_members_o.prog w K mg base := ⟨_, _, [], ok_sum_places F_sum_places T, PySem.W.mg_of X G a_sum_places, F_sum_places.kp, F_sum_places.binds (ps := p_sum_places) fun _ _ _ _ _ _ us hl => match us, hl with | [_], _ => rfl, .nil⟩
  have c_check_modulus : C_check_modulus PySem.Challenge.rw_lostplaces_k47_whole_rings_and_members_o.prog w K mg base := ⟨_, _, [], ok_check_modulus F_check_modulus T c_is_whole, PySem.W.mg_of X G a_check_modulus, F_check_modulus.kp, F_check_modulus.binds (ps := p_check_modulus) fun _ _ _ _ _ _ us hl => match us, hl with | [_, _], _ => rfl, .nil⟩
  have c_check_rest : C_check_rest PySem.Challenge.rw_lostplaces_k47_whole_rings_and_members_o.prog w K mg base := ⟨_, _, [], ok_check_rest F_check_rest T c_is_whole, PySem.W.mg_of X G a_check_rest, F_check_rest.kp, F_check_rest.binds (ps := p_check_rest) fun _ _ _ _ _ _ us hl => match us, hl with | [_, _], _ => rfl, .nil⟩
  have c_every_word : C_every_word PySem.Challenge.rw_lostplaces_k47_whole_rings_and_members_o.prog w K mg base := ⟨_, _, [], ok_every_word F_every_word T, PySem.W.mg_of X G a_every_word, F_every_word.kp, F_every_word.binds (ps := p_every_word) fun _ _ _ _ _ _ us hl => match us, hl with | [_, _], _ => rfl, .nil⟩
  have c_law_mixed : C_law_mixed PySem.Challenge.rw_lostplaces_k47_whole_rings_and_members_o.prog w K mg base := ⟨_, _, [], ok_law_mixed F_law_mixed T, PySem.W.mg_of X G a_law_mixed, F_law_mixed.kp, F_law_mixed.binds (ps := p_law_mixed) fun _ _ _ _ _ _ us hl => match us, hl with | [_, _], _ => rfl, .nil⟩
  have c_law_hand : C_law_hand PySem.Challenge.rw_lostplaces_k47_whole_rings_and_members_o.prog w K mg base := ⟨_, _, [], ok_law_hand F_law_hand T, PySem.W.mg_of X G a_law_hand, F_law_hand.kp, F_law_hand.binds (ps := p_law_hand) fun _ _ _ _ _ _ us hl => match us, hl with | [_], _ => rfl, .nil⟩
  have c_law_take : C_law_take PySem.Challenge.rw_lostplaces_k47_whole_rings_and_members_o.prog w K mg base := ⟨_, _, [], ok_law_take F_law_take T c_law_mixed, PySem.W.mg_of X G a_law_take, F_law_take.kp, F_law_take.binds (ps := p_law_take) fun _ _ _ _ _ _ us hl => match us, hl with | [_, _], _ => rfl, .nil⟩
  have c_law_whole : C_law_whole PySem.Challenge.rw_lostplaces_k47_whole_rings_and_members_o.prog w K mg base := ⟨_, _, [], ok_law_whole F_law_whole T, PySem.W.mg_of X G a_law_whole, F_law_whole.kp, F_law_whole.binds (ps := p_law_whole) fun _ _ _ _ _ _ us hl => match us, hl with | [_], _ => rfl, .nil⟩
  have c_law_is_number : C_law_is_number PySem.Challenge.rw_lostplaces_k47_whole_rings_and_members_o.prog w K mg base := ⟨_, _, [], ok_law_is_number F_law_is_number T, PySem.W.mg_of X G a_law_is_number, F_law_is_number.kp, F_law_is_number.binds (ps := p_law_is_number) fun _ _ _ _ _ _ us hl => match us, hl with | [_, _], _ => rfl, .nil⟩
  have c_law_choose : C_law_choose PySem.Challenge.rw_lostplaces_k47_whole_rings_and_members_o.prog w K mg base := ⟨_, _, [], ok_law_choose F_law_choose T, PySem.W.mg_of X G a_law_choose, F_law_choose.kp, F_law_choose.binds (ps := p_law_choose) fun _ _ _ _ _ _ us hl => match us, hl with | [_, _], _ => rfl, .nil⟩
  have c_law_counts : C_law_counts PySem.Challenge.rw_lostplaces_k47_whole_rings_and_members_o.prog w K mg base := ⟨_, _, [], ok_law_counts F_law_counts T, PySem.W.mg_of X G a_law_counts, F_law_counts.kp, F_law_counts.binds (ps := p_law_counts) fun _ _ _ _ _ _ us hl => match us, hl with | [_, _], _ => rfl, .nil⟩
  have c_law_with_ones : C_law_with_ones PySem.Challenge.rw_lostplaces_k47_whole_rings_and_members_o.prog w K mg base := ⟨_, _, [], ok_law_with_ones F_law_with_ones T, PySem.W.mg_of X G a_law_with_ones, F_law_with_ones.kp, F_law_with_ones.binds (ps := p_law_with_ones) fun _ _ _ _ _ _ us hl => match us, hl with | [_, _, _], _ => rfl, .nil⟩
  have c_law_sums_asked : C_sums PySem.Challenge.rw_lostplaces_k47_whole_rings_and_members_o.prog w K mg base := ⟨_, _, [], ok_law_sums_asked F_law_sums_asked T c_law_take c_law_counts c_law_choose c_common_divisor c_size_of c_size_by_ones, PySem.W.mg_of X G a_law_sums_asked, F_law_sums_asked.kp, F_law_sums_asked.binds (ps := p_law_sums_asked) fun _ _ _ _ _ _ us hl => match us, hl with | [_], _ => rfl, .nil⟩
  have G_init := ok_init (P := PySem.Challenge.rw_lostplaces_k47_whole_rings_and_members_o.prog) (w := w) (base := base) F_SumBook_init T B c_check_number c_check_modulus c_check_rest
  have G_full := ok_full (P := PySem.Challenge.rw_lostplaces_k47_whole_rings_and_members_o.prog) (w := w) (base := base) F_SumBook_full B
  have G_turned := ok_turned F_SumBook_turned B G_init b_init G_full b_full
  have G_contrary := ok_contrary F_SumBook_contrary B G_init b_init
  have G_members := ok_sum_members F_sum_members T B c_every_word c_sum_places c_power_of
  have m_members := PySem.W.mg_of X G a_sum_members
  have k_members := F_sum_members.kp
  have b_members := F_sum_members.binds (ps := p_sum_members) fun _ _ _ _ _ _ us hl => match us, hl with | [_], _ => rfl
  have c_law_rings_asked : C_rings PySem.Challenge.rw_lostplaces_k47_whole_rings_and_members_o.prog w K mg base := ⟨_, _, [], ok_law_rings_asked F_law_rings_asked T B G_init b_init G_members m_members k_members b_members c_law_take c_repeats_of c_odd_rings c_law_whole c_law_counts c_rings_for c_divisors_of c_single_rings c_law_is_number c_size_of, PySem.W.mg_of X G a_law_rings_asked, F_law_rings_asked.kp, F_law_rings_asked.binds (ps := p_law_rings_asked) fun _ _ _ _ _ _ us hl => match us, hl with | [_], _ => rfl, .nil⟩
  have c_law_books_asked : C_books PySem.Challenge.rw_lostplaces_k47_whole_rings_and_members_o.prog w K mg base := ⟨_, _, [], ok_law_books_asked F_law_books_asked T B G_init b_init G_turned b_turned G_contrary b_contrary c_law_take c_law_counts c_law_with_ones c_law_is_number c_size_of c_size_by_ones, PySem.W.mg_of X G a_law_books_asked, F_law_books_asked.kp, F_law_books_asked.binds (ps := p_law_books_asked) fun _ _ _ _ _ _ us hl => match us, hl with | [_], _ => rfl, .nil⟩
  exact ok_law F_law c_law_hand c_law_rings_asked c_law_books_asked c_law_sums_asked
theorem walk {q : Program} {loose : List Str} {XP : (Str → Option Value) → Heap → Prop} {YP : World → Heap → Prop} {d : DefRec} {K : Params → PySem.W.Frag} (hdf : d.params.defaults = [])
    (hY : ∀ (w : World) (h : Heap), YP w h → (K w.params).In h)
    (F : ∀ (w : World) (mg : Str → Option Value) (fa : Addr) (h : Heap), (K w.params).In h → h.Ns mainGlobals mg → mg d.name = some (.ref fa) →
      ∃ fd : FuncData, (∀ (s : Shared) (u : Value), BindsTo s fd ⟨[u], []⟩ [("_law_script", u)]) ∧ ∀ base : Heap, (K w.params).In base → base.Ns mainGlobals mg → FnOk PySem.Challenge.rw_lostplaces_k47_whole_rings_and_members_o.prog w (K w.params) mg base CX0 8 fa fd ["_law_script"] (sp_law (K w.params))) :
    PySem.W.WalkO q loose XP YP PySem.Challenge.rw_lostplaces_k47_whole_rings_and_members_o.row.toRowW d [] (fun f vs => PySem.call f vs) :=
  L2.walk_of (l := PySem.Challenge.rw_lostplaces_k47_whole_rings_and_members_o) (n := 63) (k := 8) (x := "_law_script") (CX := fun _ => CX0) (sp := fun w => sp_law (K w.params)) rfl (by decide) hdf ⟨rfl, by decide, by decide⟩ hY F (fun _ _ a ns hl _ hS => ⟨a, ns, rfl, hS, hl, fun _ => rfl⟩) fun _ _ _ _ _ z => z
end K47

open PySem PySem.W PyProof.Rows
set_option maxHeartbeats 0
theorem PySem.Challenge.cw_lostplaces_k47_whole_rings_and_members_o_holds : PySem.Challenge.rw_lostplaces_k47_whole_rings_and_members_o.Holds := by
  refine hd ?_
  k_fill
  refine K47.walk rfl (fun w h Y => PySem.W.kIn_of Y) ?F
  case F =>
    intro w mg fa h KX G hmg
    refine' K47.all_mk KX G hmg ?a_check_number ?F_check_number ?a_power_of ?F_power_of ?a_choose_of ?F_choose_of ?a_divisors_of ?F_divisors_of ?a_prime_powers ?F_prime_powers ?a_phi_of ?F_phi_of ?a_mu_of ?F_mu_of ?a_common_divisor ?F_common_divisor ?a_ram_of ?F_ram_of ?a_check_sized ?F_check_sized ?a_size_of ?F_size_of ?a_size_by_ones ?F_size_by_ones ?a_single_rings ?F_single_rings ?a_check_ring ?F_check_ring ?a_rotations_of ?F_rotations_of ?a_repeats_of ?F_repeats_of ?a_is_least ?F_is_least ?a_odd_rings ?F_odd_rings ?a_rings_for ?F_rings_for ?a_sum_places ?F_sum_places ?a_check_modulus ?F_check_modulus ?a_check_rest ?F_check_rest ?a_every_word ?F_every_word ?a_law_mixed ?F_law_mixed ?a_law_hand ?F_law_hand ?a_law_take ?F_law_take ?a_law_whole ?F_law_whole ?a_law_is_number ?F_law_is_number ?a_law_choose ?F_law_choose ?a_law_counts ?F_law_counts ?a_law_with_ones ?F_law_with_ones ?a_law_sums_asked ?F_law_sums_asked ?a_law_rings_asked ?F_law_rings_asked ?a_law_books_asked ?F_law_books_asked ?a_sum_members ?F_sum_members ?a_law ?F_law ?a_is_whole ?F_is_whole ?a_check_word ?F_check_word ?aC ?m_init ?i_init ?F_SumBook_init ?m_full ?g_full ?t_full ?r_full ?F_SumBook_full ?m_turned ?i_turned ?F_SumBook_turned ?m_contrary ?i_contrary ?F_SumBook_contrary ?pg ?hdc ?po ?sa ?mk ?kC ?nL ?nM ?nR ?z_len ?z_isinstance ?z_int ?z_bool ?z_list ?z_tuple ?z_range ?z_min ?z_sum ?z_enumerate ?z_abs ?w_MOST_DIVIDED ?w_MOST_RING ?w_MOST_SINGLE ?w_MOST_SIZED ?w_MOST_LENGTH ?w_MOST_MODULUS ?w_MOST_WALKED
    (case a_check_number => k_is)
    (case F_check_number => refine' ⟨_, L2.fun_mk ?l ?c ?k⟩; (case l => k_is); (case c => k_is); (case k => k_is))
    (case a_power_of => k_is)
    (case F_power_of => refine' ⟨_, L2.fun_mk ?l ?c ?k⟩; (case l => k_is); (case c => k_is); (case k => k_is))
    (case a_choose_of => k_is)
    (case F_choose_of => refine' ⟨_, L2.fun_mk ?l ?c ?k⟩; (case l => k_is); (case c => k_is); (case k => k_is))
    (case a_divisors_of => k_is)
    (case F_divisors_of => refine' ⟨_, L2.fun_mk ?l ?c ?k⟩; (case l => k_is); (case c => k_is); (case k => k_is))
    (case a_prime_powers => k_is)
    (case F_prime_powers => refine' ⟨_, L2.fun_mk ?l ?c ?k⟩; (case l => k_is); (case c => k_is); (case k => k_is))
    (case a_phi_of => k_is)
    (case F_phi_of => refine' ⟨_, L2.fun_mk ?l ?c ?k⟩; (case l => k_is); (case c => k_is); (case k => k_is))
    (case a_mu_of => k_is)
    (case F_mu_of => refine' ⟨_, L2.fun_mk ?l ?c ?k⟩; (case l => k_is); (case c => k_is); (case k => k_is))
    (case a_common_divisor => k_is)
    (case F_common_divisor => refine' ⟨_, L2.fun_mk ?l ?c ?k⟩; (case l => k_is); (case c => k_is); (case k => k_is))
    (case a_ram_of => k_is)
    (case F_ram_of => refine' ⟨_, L2.fun_mk ?l ?c ?k⟩; (case l => k_is); (case c => k_is); (case k => k_is))
    (case a_check_sized => k_is)
    (case F_check_sized => refine' ⟨_, L2.fun_mk ?l ?c ?k⟩; (case l => k_is); (case c => k_is); (case k => k_is))
    (case a_size_of => k_is)
    (case F_size_of => refine' ⟨_, L2.fun_mk ?l ?c ?k⟩; (case l => k_is); (case c => k_is); (case k => k_is))
    (case a_size_by_ones => k_is)
    (case F_size_by_ones => refine' ⟨_, L2.fun_mk ?l ?c ?k⟩; (case l => k_is); (case c => k_is); (case k => k_is))
    (case a_single_rings => k_is)
    (case F_single_rings => refine' ⟨_, L2.fun_mk ?l ?c ?k⟩; (case l => k_is); (case c => k_is); (case k => k_is))
    (case a_check_ring => k_is)
    (case F_check_ring => refine' ⟨_, L2.fun_mk ?l ?c ?k⟩; (case l => k_is); (case c => k_is); (case k => k_is))
    (case a_rotations_of => k_is)
    (case F_rotations_of => refine' ⟨_, L2.fun_mk ?l ?c ?k⟩; (case l => k_is); (case c => k_is); (case k => k_is))
    (case a_repeats_of => k_is)
    (case F_repeats_of => refine' ⟨_, L2.fun_mk ?l ?c ?k⟩; (case l => k_is); (case c => k_is); (case k => k_is))
    (case a_is_least => k_is)
    (case F_is_least => refine' ⟨_, L2.fun_mk ?l ?c ?k⟩; (case l => k_is); (case c => k_is); (case k => k_is))
    (case a_odd_rings => k_is)
    (case F_odd_rings => refine' ⟨_, L2.fun_mk ?l ?c ?k⟩; (case l => k_is); (case c => k_is); (case k => k_is))
    (case a_rings_for => k_is)
    (case F_rings_for => refine' ⟨_, L2.fun_mk ?l ?c ?k⟩; (case l => k_is); (case c => k_is); (case k => k_is))
    (case a_sum_places => k_is)
    (case F_sum_places => refine' ⟨_, L2.fun_mk ?l ?c ?k⟩; (case l => k_is); (case c => k_is); (case k => k_is))
    (case a_check_modulus => k_is)
    (case F_check_modulus => refine' ⟨_, L2.fun_mk ?l ?c ?k⟩; (case l => k_is); (case c => k_is); (case k => k_is))
    (case a_check_rest => k_is)
    (case F_check_rest => refine' ⟨_, L2.fun_mk ?l ?c ?k⟩; (case l => k_is); (case c => k_is); (case k => k_is))
    (case a_every_word => k_is)
    (case F_every_word => refine' ⟨_, L2.fun_mk ?l ?c ?k⟩; (case l => k_is); (case c => k_is); (case k => k_is))
    (case a_law_mixed => k_is)
    (case F_law_mixed => refine' ⟨_, L2.fun_mk ?l ?c ?k⟩; (case l => k_is); (case c => k_is); (case k => k_is))
    (case a_law_hand => k_is)
    (case F_law_hand => refine' ⟨_, L2.fun_mk ?l ?c ?k⟩; (case l => k_is); (case c => k_is); (case k => k_is))
    (case a_law_take => k_is)
    (case F_law_take => refine' ⟨_, L2.fun_mk ?l ?c ?k⟩; (case l => k_is); (case c => k_is); (case k => k_is))
    (case a_law_whole => k_is)
    (case F_law_whole => refine' ⟨_, L2.fun_mk ?l ?c ?k⟩; (case l => k_is); (case c => k_is); (case k => k_is))
    (case a_law_is_number => k_is)
    (case F_law_is_number => refine' ⟨_, L2.fun_mk ?l ?c ?k⟩; (case l => k_is); (case c => k_is); (case k => k_is))
    (case a_law_choose => k_is)
    (case F_law_choose => refine' ⟨_, L2.fun_mk ?l ?c ?k⟩; (case l => k_is); (case c => k_is); (case k => k_is))
    (case a_law_counts => k_is)
    (case F_law_counts => refine' ⟨_, L2.fun_mk ?l ?c ?k⟩; (case l => k_is); (case c => k_is); (case k => k_is))
    (case a_law_with_ones => k_is)
    (case F_law_with_ones => refine' ⟨_, L2.fun_mk ?l ?c ?k⟩; (case l => k_is); (case c => k_is); (case k => k_is))
    (case a_law_sums_asked => k_is)
    (case F_law_sums_asked => refine' ⟨_, L2.fun_mk ?l ?c ?k⟩; (case l => k_is); (case c => k_is); (case k => k_is))
    (case a_law_rings_asked => k_is)
    (case F_law_rings_asked => refine' ⟨_, L2.fun_mk ?l ?c ?k⟩; (case l => k_is); (case c => k_is); (case k => k_is))
    (case a_law_books_asked => k_is)
    (case F_law_books_asked => refine' ⟨_, L2.fun_mk ?l ?c ?k⟩; (case l => k_is); (case c => k_is); (case k => k_is))
    (case a_sum_members => k_is)
    (case F_sum_members => refine' ⟨_, L2.fun_mk ?l ?c ?k⟩; (case l => k_is); (case c => k_is); (case k => k_is))
    (case a_law => k_is)
    (case F_law => refine' ⟨_, L2.fun_mk ?l ?c ?k⟩; (case l => k_is); (case c => k_is); (case k => k_is))
    (case a_is_whole => k_is)
    (case F_is_whole => refine' K47.fund_mk ?h ?l ?c ?k ?t ?e ?r; (case h => simp); (case l => k_is); (case c => k_is); (case k => k_is); (case t => k_is); (case e => rfl); (case r => exact .cons rfl (.cons rfl .nil)))
    (case a_check_word => k_is)
    (case F_check_word => refine' K47.fund_mk ?h ?l ?c ?k ?t ?e ?r; (case h => simp); (case l => k_is); (case c => k_is); (case k => k_is); (case t => k_is); (case e => rfl); (case r => exact .cons ⟨_, rfl⟩ .nil))
    (case aC => k_is)
    (case m_init => k_is)
    (case i_init => k_is)
    (case F_SumBook_init => refine' ⟨_, L2.fun_mk ?l ?c ?k⟩; (case l => k_is); (case c => k_is); (case k => k_is))
    (case m_full => k_is)
    (case g_full => k_is)
    (case t_full => k_is)
    (case r_full => refine' K47.rec_at ?l ?e; (case l => k_is); (case e => rfl))
    (case F_SumBook_full => refine' ⟨_, L2.fun_mk ?l ?c ?k⟩; (case l => k_is); (case c => k_is); (case k => k_is))
    (case m_turned => k_is)
    (case i_turned => k_is)
    (case F_SumBook_turned => refine' ⟨_, L2.fun_mk ?l ?c ?k⟩; (case l => k_is); (case c => k_is); (case k => k_is))
    (case m_contrary => k_is)
    (case i_contrary => k_is)
    (case F_SumBook_contrary => refine' ⟨_, L2.fun_mk ?l ?c ?k⟩; (case l => k_is); (case c => k_is); (case k => k_is))
    (case pg => k_is)
    (case hdc => k_is)
    (case po => k_is)
    (case sa => k_is)
    (case mk => k_is)
    (case kC => k_is)
    (case nL => k_is)
    (case nM => k_is)
    (case nR => k_is)
    (case z_len => k_is)
    (case z_isinstance => k_is)
    (case z_int => k_is)
    (case z_bool => k_is)
    (case z_list => k_is)
    (case z_tuple => k_is)
    (case z_range => k_is)
    (case z_min => k_is)
    (case z_sum => k_is)
    (case z_enumerate => k_is)
    (case z_abs => k_is)
    (case w_MOST_DIVIDED => refine' K47.int_at ?z; (case z => k_is))
    (case w_MOST_RING => refine' K47.int_at ?z; (case z => k_is))
    (case w_MOST_SINGLE => refine' K47.int_at ?z; (case z => k_is))
    (case w_MOST_SIZED => refine' K47.int_at ?z; (case z => k_is))
    (case w_MOST_LENGTH => refine' K47.int_at ?z; (case z => k_is))
    (case w_MOST_MODULUS => refine' K47.int_at ?z; (case z => k_is))
    (case w_MOST_WALKED => refine' K47.int_at ?z; (case z => k_is))
